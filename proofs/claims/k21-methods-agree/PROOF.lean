import PyProof.Rows.All
import Wide.All
import OpenK.AllK
import Wide.FinOn
import HandS.ForMost
import HandS.Evl
import HandS.Walk
import HandS.Zip
import HandS.Wide
import HandS.Defaults
import HandS.HeadHook4
import HandS.IsInst
import HandS.Exc
import HandS.TryMany
import HandS.Lambda
import HandS.Nested
import HandS.Star
import HandS.ClsMeth
import HandS.DictTup
import HandS.DictComp
import HandS.HeadWalk
import HandS.Head2
import HandS.TupAny
import KE.GoesMore
import HandS.CallLocal
import HandS.MakeKwOnly
import KE.KStateDown
import Lean
import HandS.Head0
import HandS.Head1
import HandS.HeadEnd
import PySem.Challenge.RW_rootbags_k21_whole_methods_agree_on_choi
set_option Elab.async false
section
set_option Elab.async false
set_option linter.all false
/-! The mirror: what the program's functions compute, over any number-like type. -/
class DivN (α : Type) where
  divN : α → Nat → α
instance instDivNRat : DivN Rat := ⟨fun q k => q / ((k : Nat) : Rat)⟩
namespace Mi
section
variable {α : Type} [Zero α] [One α] [Add α] [Mul α] [Neg α] [DivN α] [IntCast α]
def at0 (l : List α) (i : Nat) : α := l.getD i 0
def at2 (m : List (List α)) (i j : Nat) : α := at0 (m.getD i []) j
def sumL (l : List α) : α := l.foldl (· + ·) 0
/-! power sums -/
def psIn (cs f : List α) (n k : Nat) : Nat → α
  | 0 => if k ≤ n then ((k : Int) : α) * at0 cs (n - k) else 0
  | i + 1 => psIn cs f n k i + at0 cs (n - (i + 1)) * at0 f (k - (i + 1))
def psTo (cs : List α) (n : Nat) : Nat → List α
  | 0 => [((n : Int) : α)]
  | k + 1 => psTo cs n k ++ [-(psIn cs (psTo cs n k) n (k + 1) (min k n))]
/-! elementary symmetric functions -/
def elTerm (s f : List α) (k i : Nat) : α := at0 f (k - (i + 1)) * at0 s (i + 1)
def elIn (s f : List α) (k : Nat) : Nat → α
  | 0 => 0
  | i + 1 => if (i + 1) % 2 = 1 then elIn s f k i + elTerm s f k i else elIn s f k i + -(elTerm s f k i)
def elTo (s : List α) : Nat → List α
  | 0 => [1]
  | k + 1 => elTo s k ++ [DivN.divN (elIn s (elTo s k) (k + 1) (k + 1)) (k + 1)]
def monicE (p : List α) (size : Nat) : List α := (List.range (size + 1)).map fun k => if (size - k) % 2 = 0 then at0 p (size - k) else -(at0 p (size - k))
def monicFrom (s : List α) (size : Nat) : List α := monicE (elTo s size) size
/-! binomial convolution -/
def binRow : Nat → List Int
  | 0 => [1]
  | k + 1 => [1] ++ List.zipWith (· + ·) (binRow k) (binRow k).tail ++ [1]
def convT (a b : List α) (k j : Nat) : α := (((binRow k).getD j 0 : Int) : α) * (at0 a j * at0 b (k - j))
def conv (a b : List α) : List α := (List.range a.length).map fun k => sumL ((List.range (k + 1)).map fun j => convT a b k j)
/-! sums over choices -/
def chTo (size : Nat) : Nat → Nat
  | 0 => 1
  | k + 1 => chTo size k * (size - k) / (k + 1)
def choices (size many : Nat) : Nat := if many > size then 0 else chTo size (min many (size - many))
def acRow (s : List α) (total i : Nat) : List α := (List.range (total + 1)).map fun j => at0 s j * (((i : Int) ^ j : Int) : α)
def acRows (s : List α) (many total : Nat) : List (List α) := (List.range (many + 1)).map fun i => acRow s total i
def acSign (i k : Nat) : α := if i % 2 = 1 then DivN.divN 1 k else DivN.divN (-1) k
def acIn (rows found : List (List α)) (k total : Nat) : Nat → List α
  | 0 => List.replicate (total + 1) 0
  | i + 1 => List.zipWith (fun a b => a + acSign (i + 1) k * b) (acIn rows found k total i) (conv (found.getD (k - (i + 1)) []) (rows.getD (i + 1) []))
def acTo (rows : List (List α)) (total : Nat) : Nat → List (List α)
  | 0 => [1 :: List.replicate total 0]
  | k + 1 => acTo rows total k ++ [acIn rows (acTo rows total k) (k + 1) total (k + 1)]
def addChoices (cs : List α) (n many : Nat) : List α :=
  monicFrom ((acTo (acRows (psTo cs n (choices n many)) many (choices n many)) (choices n many) many).getD many []) (choices n many)
/-! products over choices -/
def mcS (s : List α) (many r : Nat) : List α := (List.range (many + 1)).map fun i => at0 s (i * r)
def mcTo (s : List α) (many total : Nat) : Nat → List α
  | 0 => [((total : Int) : α)]
  | r + 1 => mcTo s many total r ++ [at0 (elTo (mcS s many (r + 1)) many) many]
def mulChoices (cs : List α) (n many : Nat) : List α :=
  monicFrom (mcTo (psTo cs n (choices n many * many)) many (choices n many) (choices n many)) (choices n many)
/-! matrices -/
def compTo (cs : List α) (n i : Nat) : List (List α) := (List.range n).map fun r => (List.range n).map fun c => if c = n - 1 ∧ r < i then -(at0 cs r) else if c + 1 = r then 1 else 0
def companion (cs : List α) (n : Nat) : List (List α) := compTo cs n n
def diag (n : Nat) (v : α) : List (List α) := (List.range n).map fun r => (List.range n).map fun c => if r = c then v else 0
def matSum (a b : List (List α)) : List (List α) := List.zipWith (fun l r => List.zipWith (· + ·) l r) a b
def cols (b : List (List α)) : List (List α) := (List.range b.length).map fun k => b.map fun r => at0 r k
def matMul (a b : List (List α)) : List (List α) := a.map fun row => (cols b).map fun col => sumL (List.zipWith (· * ·) row col)
def trace (n : Nat) (m : List (List α)) : α := sumL ((List.range n).map fun i => at2 m i i)
def chCur (m : List (List α)) (n : Nat) : Nat → List (List α)
  | 0 => diag n 1
  | k + 1 => matSum (matMul m (chCur m n k)) (diag n (DivN.divN (-(trace n (matMul m (chCur m n k)))) (k + 1)))
def chPart (m : List (List α)) (n k : Nat) : α := DivN.divN (-(trace n (matMul m (chCur m n k)))) (k + 1)
def chParts (m : List (List α)) (n k : Nat) : List α := (List.range (n + 1)).map fun j => if j = n then 1 else if n ≤ j + k then chPart m n (n - j - 1) else 0
def charPoly (m : List (List α)) (n : Nat) : List α := chParts m n n
/-! subsets -/
def sbLow (ch : List Nat) : Nat := match ch.getLast? with
  | some p => p + 1
  | none => 0
def sbStep (size many step : Nat) (found : List (List Nat)) : List (List Nat) :=
  found.flatMap fun ch => (List.range (size - many + step + 1 - sbLow ch)).map fun p => ch ++ [sbLow ch + p]
def sbTo (size many : Nat) : Nat → List (List Nat)
  | 0 => [[]]
  | step + 1 => sbStep size many step (sbTo size many step)
def subsets (size many : Nat) : List (List Nat) := sbTo size many many
/-! the exterior power's derivation -/
def less (ch : List Nat) (p : Nat) : Nat := (ch.filter fun o => decide (o < p)).length
def put (ch : List Nat) (p : Nat) : List Nat := ch.take (less ch p) ++ [p] ++ ch.drop (less ch p)
def putSign (ch : List Nat) (p : Nat) : Int := if less ch p % 2 = 0 then 1 else -1
def rest (ch : List Nat) (i : Nat) : List Nat := ch.take i ++ ch.drop (i + 1)
def addAt (rows : List (List α)) (r c : Nat) (v : α) : List (List α) := rows.set r ((rows.getD r []).set c (at2 rows r c + v))
def deSign (ch : List Nat) (i later : Nat) : Int := if i % 2 = 0 then putSign (rest ch i) later else -(putSign (rest ch i) later)
def dLater (m : List (List α)) (lots : List (List Nat)) (ch : List Nat) (col i place : Nat) (rows : List (List α)) : Nat → List (List α)
  | 0 => rows
  | later + 1 => if later ∈ rest ch i then dLater m lots ch col i place rows later
      else addAt (dLater m lots ch col i place rows later) (lots.idxOf (put (rest ch i) later)) col (((deSign ch i later : Int) : α) * at2 m later place)
def dAt (m : List (List α)) (lots : List (List Nat)) (size : Nat) (ch : List Nat) (col : Nat) (rows : List (List α)) : Nat → List (List α)
  | 0 => rows
  | i + 1 => dLater m lots ch col i (ch.getD i 0) (dAt m lots size ch col rows i) size
def dCol (m : List (List α)) (lots : List (List Nat)) (size : Nat) : Nat → List (List α)
  | 0 => (List.range lots.length).map fun _ => (List.range lots.length).map fun _ => 0
  | col + 1 => dAt m lots size (lots.getD col []) col (dCol m lots size col) (lots.getD col []).length
def derivation (m : List (List α)) (size many : Nat) : List (List α) := dCol m (subsets size many) size (subsets size many).length
/-! minors -/
def minor (m : List (List α)) (left right : List Nat) : List (List α) := left.map fun r => right.map fun c => at2 m r c
def swapR (rows : List (List α)) (i j : Nat) : List (List α) := (rows.set i (rows.getD j [])).set j (rows.getD i [])
def spot (isz : α → Bool) (rows : List (List α)) (i k : Nat) : Option Nat := ((List.range (k - i)).map fun t => i + t).find? fun r => !isz (at2 rows r i)
/-- the determinant of a matrix whose columns but the last hold a 1 at most once, and 0 -/
def detT (isz : α → Bool) (k : Nat) : Nat → List (List α) → α → α
  | 0, _, found => found
  | t + 1, rows, found => if t = 0 then found * at2 rows (k - 1) (k - 1) else
      match spot isz rows (k - (t + 1)) k with
      | none => 0
      | some s => detT isz k t (swapR rows (k - (t + 1)) s) ((if s = k - (t + 1) then found else -found) * at2 rows s (k - (t + 1)))
def det (isz : α → Bool) (k : Nat) (rows : List (List α)) : α := detT isz k k rows 1
def compound (isz : α → Bool) (m : List (List α)) (size many : Nat) : List (List α) :=
  (subsets size many).map fun left => (subsets size many).map fun right => det isz many (minor m left right)
def sumsMat (cs : List α) (n many : Nat) : List α := charPoly (derivation (companion cs n) n many) (subsets n many).length
def mulMat (isz : α → Bool) (cs : List α) (n many : Nat) : List α := charPoly (compound isz (companion cs n) n many) (subsets n many).length
end

end Mi
end
section
set_option Elab.async false
set_option linter.all false
set_option maxRecDepth 100000
set_option maxHeartbeats 2000000
/-! The layer: slots by types. -/
namespace My
open PySem PySem.Spec PyProof.Rows L2 Evl
abbrev VP := (Addr → Prop) → Hp → V → Prop
/-- all is kept but lists at M -/
def Kp (M : Addr → Prop) (H H' : Hp) : Prop := ∀ a o, H a = some o → ((∃ xs, o = HO.lst xs) → ¬ M a) → H' a = some o
theorem Kp.ofEx {M : Addr → Prop} {H H' : Hp} (e : Ex H H') : Kp M H H' := fun a o h _ => e a o h
theorem Kp.refl (M : Addr → Prop) (H : Hp) : Kp M H H := fun _ _ h _ => h
theorem Kp.trans {M : Addr → Prop} {H H1 H2 : Hp} (a : Kp M H H1) (b : Kp M H1 H2) : Kp M H H2 := fun x o h n => b x o (a x o h n) n
theorem Kp.set {M : Addr → Prop} {H : Hp} {L : Addr} {xs ys : List V} (hM : M L) (h : H L = some (.lst xs)) : Kp M H (upd H L (.lst ys)) := fun a o e n => by
  by_cases q : a = L
  · subst q
    rw [h] at e
    exact absurd hM (n ⟨xs, (Option.some.inj e).symm⟩)
  · rw [upd_ne q]
    exact e
class Mn (P : VP) : Prop where
  up : ∀ {S S' : Addr → Prop} {H H' : Hp} {v : V}, (∀ a, S a → S' a) → (∀ a o, H a = some o → ((∃ xs, o = HO.lst xs) → S a) → H' a = some o) → P S H v → P S' H' v
  tr : ∀ {S : Addr → Prop} {H : Hp} {v : V}, P S H v → P (fun a => S a ∧ H a ≠ none) H v
abbrev Tr : Addr → Prop := fun _ => True
theorem Mn.any {P : VP} [m : Mn P] {S : Addr → Prop} {H : Hp} {v : V} (h : P S H v) : P Tr H v := m.up (fun _ _ => trivial) (fun _ _ e _ => e) h
theorem Mn.ex {P : VP} [m : Mn P] {S : Addr → Prop} {H H' : Hp} {v : V} (e : Ex H H') (h : P S H v) : P S H' v := m.up (fun _ q => q) (fun a o q _ => e a o q) h
theorem Mn.mono {P : VP} [m : Mn P] {S S' : Addr → Prop} {H : Hp} {v : V} (e : ∀ a, S a → S' a) (h : P S H v) : P S' H v := m.up e (fun a o q _ => q) h
def IV (x : V) : VP := fun _ _ v => v = x
instance (x : V) : Mn (IV x) := ⟨fun _ _ h => h, fun h => h⟩
theorem sqt_up {K : PySem.W.Frag} {S : Addr → Prop} {H H' : Hp} {a : Addr} {xs : List V} (k : ∀ a o, H a = some o → ((∃ xs, o = HO.lst xs) → S a) → H' a = some o) (h : SqT K H a xs) : SqT K H' a xs := by
  rcases h with (h | ⟨o, h⟩) | h
  · exact .inl (.inl (k a _ h fun ⟨xs, z⟩ => by cases z))
  · exact .inl (.inr ⟨o, k a _ h fun ⟨xs, z⟩ => by cases z⟩)
  · exact .inr h
def IQ (K : PySem.W.Frag) (r : Rat) : VP := fun _ H v => ∃ a, v = .ref a ∧ SqT K H a [.int r.num, .int (r.den : Int)]
instance (K : PySem.W.Frag) (r : Rat) : Mn (IQ K r) := ⟨fun _ k ⟨a, e, h⟩ => ⟨a, e, sqt_up k h⟩, fun h => h⟩
theorem Paired.mapR {α β : Type} {F G : α → β → Prop} : ∀ {l : List α} {m : List β}, Paired F l m → (∀ a b, F a b → G a b) → Paired G l m
  | _, _, .nil, _ => .nil
  | _, _, .cons r t, f => .cons (f _ _ r) (Paired.mapR t f)
theorem pr_len {α β : Type} {F : α → β → Prop} : ∀ {l : List α} {m : List β}, Paired F l m → l.length = m.length
  | _, _, .nil => rfl
  | _, _, .cons _ t => congrArg Nat.succ (pr_len t)
theorem pr_get {α β : Type} {F : α → β → Prop} : ∀ {l : List α} {m : List β}, Paired F l m → ∀ {i : Nat} {a : α}, l[i]? = some a → ∃ b, m[i]? = some b ∧ F a b
  | _, _, .nil, i, a, h => by simp at h
  | _, _, .cons r t, 0, a, h => by simp at h; subst h; exact ⟨_, rfl, r⟩
  | _, _, .cons r t, i + 1, a, h => by
    obtain ⟨b, e, f⟩ := pr_get t (i := i) (a := a) (by simpa using h)
    exact ⟨b, by simpa using e, f⟩
theorem pr_get' {α β : Type} {F : α → β → Prop} : ∀ {l : List α} {m : List β}, Paired F l m → ∀ {i : Nat} {b : β}, m[i]? = some b → ∃ a, l[i]? = some a ∧ F a b
  | _, _, .nil, i, a, h => by simp at h
  | _, _, .cons r t, 0, a, h => by simp at h; subst h; exact ⟨_, rfl, r⟩
  | _, _, .cons r t, i + 1, a, h => by
    obtain ⟨b, e, f⟩ := pr_get' t (i := i) (b := a) (by simpa using h)
    exact ⟨b, by simpa using e, f⟩
theorem pr_app {α β : Type} {F : α → β → Prop} : ∀ {l l' : List α} {m m' : List β}, Paired F l m → Paired F l' m' → Paired F (l ++ l') (m ++ m')
  | _, _, _, _, .nil, s => s
  | _, _, _, _, .cons r t, s => .cons r (pr_app t s)
theorem pr_take {α β : Type} {F : α → β → Prop} : ∀ {l : List α} {m : List β} (n : Nat), Paired F l m → Paired F (l.take n) (m.take n)
  | _, _, 0, _ => .nil
  | _, _, _ + 1, .nil => .nil
  | _, _, n + 1, .cons r t => .cons r (pr_take n t)
theorem pr_drop {α β : Type} {F : α → β → Prop} : ∀ {l : List α} {m : List β} (n : Nat), Paired F l m → Paired F (l.drop n) (m.drop n)
  | _, _, 0, r => r
  | _, _, _ + 1, .nil => .nil
  | _, _, n + 1, .cons _ t => pr_drop n t
theorem pr_set {α β : Type} {F : α → β → Prop} {a : α} {b : β} (h : F a b) : ∀ {l : List α} {m : List β} (n : Nat), Paired F l m → Paired F (l.set n a) (m.set n b)
  | _, _, _, .nil => .nil
  | _, _, 0, .cons _ t => .cons h t
  | _, _, n + 1, .cons r t => .cons r (pr_set h n t)
theorem pr_rep {α β : Type} {F : α → β → Prop} {a : α} {b : β} (h : F a b) : ∀ n : Nat, Paired F (List.replicate n a) (List.replicate n b)
  | 0 => .nil
  | n + 1 => by
    rw [List.replicate_succ, List.replicate_succ]
    exact .cons h (pr_rep h n)
/-- a list at an address in S, its items by P -/
def LO {β : Type} (P : β → VP) (l : List β) : VP := fun S H v => ∃ a vs, v = .ref a ∧ S a ∧ H a = some (.lst vs) ∧ Paired (fun b x => P b S H x) l vs
def TO' {β : Type} (K : PySem.W.Frag) (P : β → VP) (l : List β) : VP := fun S H v => ∃ a vs, v = .ref a ∧ SqT K H a vs ∧ Paired (fun b x => P b S H x) l vs
instance {β : Type} (P : β → VP) [∀ b, Mn (P b)] (l : List β) : Mn (LO P l) where
  up := fun s k ⟨a, vs, e, hs, h, p⟩ => ⟨a, vs, e, s a hs, k a _ h fun _ => hs, Paired.mapR p fun b x q => Mn.up s k q⟩
  tr := fun ⟨a, vs, e, hs, h, p⟩ => ⟨a, vs, e, ⟨hs, by rw [h]; exact fun z => nomatch z⟩, h, Paired.mapR p fun b x q => Mn.tr q⟩
instance {β : Type} (K : PySem.W.Frag) (P : β → VP) [∀ b, Mn (P b)] (l : List β) : Mn (TO' K P l) where
  up := fun s k ⟨a, vs, e, h, p⟩ => ⟨a, vs, e, sqt_up k h, Paired.mapR p fun b x q => Mn.up s k q⟩
  tr := fun ⟨a, vs, e, h, p⟩ => ⟨a, vs, e, h, Paired.mapR p fun b x q => Mn.tr q⟩
/-! ### slots -/
structure SV (M : Addr → Prop) where
  R : Hp → V → Prop
  st : ∀ {H H' : Hp} {v : V}, Kp M H H' → R H v → R H' v
def At (M : Addr → Prop) (S : Addr → Prop) (hS : ∀ a, S a → ¬ M a) (P : VP) [Mn P] : SV M := ⟨fun H v => P S H v, fun k h => Mn.up (fun _ q => q) (fun a o e n => k a o e fun z => hS a (n z)) h⟩
abbrev An (M : Addr → Prop) (P : VP) [Mn P] : SV M := At M (fun a => ¬ M a) (fun _ h => h) P
abbrev Fr (M : Addr → Prop) (H0 : Hp) (P : VP) [Mn P] : SV M := At M (fun a => ¬ M a ∧ H0 a = none) (fun _ h => h.1) P
abbrev Iv (M : Addr → Prop) (x : V) : SV M := ⟨fun _ v => v = x, fun _ h => h⟩
abbrev Qs (M : Addr → Prop) (K : PySem.W.Frag) (r : Rat) : SV M := ⟨fun H v => IQ K r Tr H v, fun k h => Mn.up (S := fun a => ¬ M a) (fun _ _ => trivial) (fun a o e n => k a o e n) (show IQ K r (fun a => ¬ M a) _ _ from h)⟩
def SlotOk {M : Addr → Prop} (p : Option (SV M)) (o : Option V) (H : Hp) : Prop := match p with
  | none => True
  | some R => ∃ v, o = some v ∧ R.R H v
def Tsl {M : Addr → Prop} : List (Option (SV M)) → L2.St → Hp → Prop
  | [], [], _ => True
  | p :: ps, o :: σ, H => SlotOk p o H ∧ Tsl ps σ H
  | _, _, _ => False
structure Good (H0 : Hp) (M : Addr → Prop) (H : Hp) : Prop where
  kp : Kp M H0 H
  mt : ∀ a, M a → H a ≠ none
section
variable {M : Addr → Prop} {H0 : Hp} {K : PySem.W.Frag} {ps : List (Option (SV M))} {σ : L2.St} {H H' : Hp} {R R' : SV M} {i : Nat}
theorem SlotOk.kp {p : Option (SV M)} {o : Option V} (k : Kp M H H') (h : SlotOk p o H) : SlotOk p o H' := by
  cases p with
  | none => trivial
  | some R => obtain ⟨v, e, r⟩ := h; exact ⟨v, e, R.st k r⟩
theorem Tsl.kp (k : Kp M H H') : ∀ {ps : List (Option (SV M))} {σ : L2.St}, Tsl ps σ H → Tsl ps σ H'
  | [], [], _ => trivial
  | _ :: _, _ :: _, h => ⟨h.1.kp k, Tsl.kp k h.2⟩
  | [], _ :: _, h => h.elim
  | _ :: _, [], h => h.elim
theorem Tsl.up (e : Ex H H') (h : Tsl ps σ H) : Tsl ps σ H' := h.kp (.ofEx e)
theorem Tsl.get : ∀ {ps : List (Option (SV M))} {σ : L2.St} {i : Nat}, Tsl ps σ H → ps[i]? = some (some R) → ∃ v, σ[i]? = some (some v) ∧ R.R H v
  | [], _, _, _, e => by simp at e
  | _ :: _, [], _, h, _ => h.elim
  | p :: ps, o :: σ, 0, h, e => by
    simp at e
    subst e
    obtain ⟨v, e, r⟩ := h.1
    exact ⟨v, by simp [e], r⟩
  | p :: ps, o :: σ, i + 1, h, e => by
    obtain ⟨v, e1, r⟩ := Tsl.get h.2 (by simpa using e)
    exact ⟨v, by simpa using e1, r⟩
theorem Tsl.set {v : V} (r : R.R H v) : ∀ {ps : List (Option (SV M))} {σ : L2.St} {i : Nat}, Tsl ps σ H → Tsl (ps.set i (some R)) (σ.set i (some v)) H
  | [], [], _, h => h
  | [], _ :: _, _, h => h.elim
  | _ :: _, [], _, h => h.elim
  | p :: ps, o :: σ, 0, h => ⟨⟨v, rfl, r⟩, h.2⟩
  | p :: ps, o :: σ, i + 1, h => ⟨h.1, Tsl.set r h.2⟩
theorem Tsl.drop : ∀ {ps : List (Option (SV M))} {σ : L2.St} {i : Nat}, Tsl ps σ H → Tsl (ps.set i none) σ H
  | [], [], _, h => h
  | [], _ :: _, _, h => h.elim
  | _ :: _, [], _, h => h.elim
  | p :: ps, o :: σ, 0, h => ⟨trivial, h.2⟩
  | p :: ps, o :: σ, i + 1, h => ⟨h.1, Tsl.drop h.2⟩
theorem Tsl.none : ∀ {ps : List (Option (SV M))} {σ : L2.St} {i : Nat}, Tsl ps σ H → Tsl (ps.set i none) (σ.set i none) H
  | [], [], _, h => h
  | [], _ :: _, _, h => h.elim
  | _ :: _, [], _, h => h.elim
  | p :: ps, o :: σ, 0, h => ⟨trivial, h.2⟩
  | p :: ps, o :: σ, i + 1, h => ⟨h.1, Tsl.none h.2⟩
def wipeP (ps : List (Option (SV M))) : List Nat → List (Option (SV M))
  | [] => ps
  | v :: vs => (wipeP ps vs).set v none
theorem Tsl.wipe (h : Tsl ps σ H) : ∀ vs : List Nat, Tsl (wipeP ps vs) (wipe σ vs) H
  | [] => h
  | v :: vs => Tsl.none (Tsl.wipe h vs)
theorem Tsl.wk (f : ∀ H v, R.R H v → R'.R H v) : ∀ {ps : List (Option (SV M))} {σ : L2.St} {i : Nat}, Tsl ps σ H → ps[i]? = some (some R) → Tsl (ps.set i (some R')) σ H
  | [], _, _, _, e => by simp at e
  | _ :: _, [], _, h, _ => h.elim
  | p :: ps, o :: σ, 0, h, e => by
    simp at e
    subst e
    obtain ⟨v, e, r⟩ := h.1
    exact ⟨⟨v, e, f _ _ r⟩, h.2⟩
  | p :: ps, o :: σ, i + 1, h, e => ⟨h.1, Tsl.wk f h.2 (by simpa using e)⟩
/-- forget: each slot of ps' is that of ps or told nothing -/
def Wk : List (Option (SV M)) → List (Option (SV M)) → Prop
  | [], [] => True
  | p :: ps, p' :: ps' => (p' = none ∨ p' = p) ∧ Wk ps ps'
  | _, _ => False
theorem Tsl.to : ∀ {ps ps' : List (Option (SV M))} {σ : L2.St}, Tsl ps σ H → Wk ps ps' → Tsl ps' σ H
  | [], [], [], h, _ => h
  | p :: ps, p' :: ps', o :: σ, h, w => by
    refine ⟨?_, Tsl.to h.2 w.2⟩
    rcases w.1 with e | e
    · rw [e]; trivial
    · rw [e]; exact h.1
  | [], _, _ :: _, h, _ => h.elim
  | _ :: _, _, [], h, _ => h.elim
  | [], _ :: _, [], _, w => w.elim
  | _ :: _, [], _ :: _, _, w => w.elim
theorem some_of {α : Type} {o : Option α} (h : o ≠ Option.none) : ∃ x, o = some x := by
  cases o with
  | none => exact absurd rfl h
  | some x => exact ⟨x, rfl⟩
theorem Good.up (g : Good H0 M H) (e : Ex H H') : Good H0 M H' := ⟨g.kp.trans (.ofEx e), fun a h z => by
  obtain ⟨o, q⟩ := some_of (g.mt a h)
  rw [e a o q] at z
  cases z⟩
theorem Good.start (H : Hp) : Good H (fun _ => False) H := ⟨Kp.refl _ H, fun _ h => h.elim⟩
theorem Good.base (g : Good H0 M H) : Good H M H := ⟨Kp.refl _ H, g.mt⟩
theorem Good.trans {H1 : Hp} (g : Good H0 M H1) (g' : Good H1 M H) : Good H0 M H := ⟨g.kp.trans g'.kp, g'.mt⟩
theorem Good.ex (g : Good H0 M H) (n : ∀ a, M a → H0 a = Option.none) : Ex H0 H := fun a o e => g.kp a o e fun _ m => by
  rw [n a m] at e
  cases e
theorem Good.ex0 (g : Good H0 (fun _ => False) H) : Ex H0 H := g.ex fun _ h => h.elim
theorem Good.fresh (g : Good H0 M H) {a : Addr} (h : H a = Option.none) : ¬ M a ∧ H0 a = Option.none := by
  have nm : ¬ M a := fun m => g.mt a m h
  refine ⟨nm, ?_⟩
  cases e : H0 a with
  | none => rfl
  | some o =>
    rw [g.kp a o e fun _ => nm] at h
    cases h
/-- a list of M is stored to -/
theorem Good.set {L : Addr} {xs ys : List V} (g : Good H0 M H) (m : M L) (h : H L = some (.lst xs)) : Good H0 M (upd H L (.lst ys)) := ⟨g.kp.trans (Kp.set m h), fun a ma z => by
  by_cases q : a = L
  · rw [q, upd_same] at z
    cases z
  · rw [upd_ne q] at z
    exact g.mt a ma z⟩
end
/-! ### typing -/
def Ty (H0 : Hp) (M : Addr → Prop) (ps : List (Option (SV M))) (te : TE) (R : SV M) : Prop := ∀ σ H, Good H0 M H → Tsl ps σ H → ∀ Q : VK, (∀ v H2, Ex H H2 → R.R H2 v → Q v H2) → te σ H Q
def TyT (H0 : Hp) (M : Addr → Prop) (ps : List (Option (SV M))) (tt : TT) (b : Bool) : Prop := ∀ σ H, Good H0 M H → Tsl ps σ H → ∀ Q : Bool → Hp → Prop, (∀ H2, Ex H H2 → Q b H2) → tt σ H Q
/-- arguments, each by its word -/
def TyA (H0 : Hp) (M : Addr → Prop) (ps : List (Option (SV M))) (ta : TA) (Rs : List (SV M)) : Prop := ∀ σ H, Good H0 M H → Tsl ps σ H → ∀ Q : List V → Hp → Prop, (∀ vs H2, Ex H H2 → Paired (fun (R : SV M) v => R.R H2 v) Rs vs → Q vs H2) → ta σ H Q
section
variable {M : Addr → Prop} {H0 : Hp} {K : PySem.W.Frag} {ps : List (Option (SV M))} {R R' R1 R2' : SV M} {te ta tb : TE} {t u : TT} {b c : Bool} {i j : Int}
theorem ty_conv (h : Ty H0 M ps te R) (f : ∀ H v, R.R H v → R'.R H v) : Ty H0 M ps te R' := fun σ H g t Q q => h σ H g t Q fun v H2 e r => q v H2 e (f _ _ r)
theorem ty_eq (h : Ty H0 M ps te R) (e : R = R') : Ty H0 M ps te R' := e ▸ h
theorem ty_var {i : Nat} (h : ps[i]? = some (some R)) : Ty H0 M ps (tVar i) R := fun σ H _ t Q q => by
  obtain ⟨v, e, r⟩ := t.get h
  exact ⟨v, e, q v H (Ex.refl H) r⟩
theorem ty_c {v : V} : Ty H0 M ps (tC v) (Iv M v) := fun σ H _ _ Q q => q v H (Ex.refl H) rfl
theorem ty_op {r : R2} {z : V} {x y : V} (ha : Ty H0 M ps ta (Iv M x)) (hb : Ty H0 M ps tb (Iv M y)) (hr : ∀ H (Q : VK), Q z H → r x y H Q) : Ty H0 M ps (tOp r ta tb) (Iv M z) := fun σ H g t Q q =>
  ha σ H g t _ fun v H2 e2 h2 => hb σ H2 (g.up e2) (t.up e2) _ fun w H3 e3 h3 => by
    have h2 : v = x := h2
    have h3 : w = y := h3
    rw [h2, h3]
    exact hr H3 Q (q z H3 (e2.trans e3) rfl)
theorem ty_i0 {g : Int → Int → V} (ha : Ty H0 M ps ta (Iv M (.int i))) (hb : Ty H0 M ps tb (Iv M (.int j))) : Ty H0 M ps (tOp (rI0 g) ta tb) (Iv M (g i j)) := ty_op ha hb fun _ _ q => ⟨i, j, rfl, rfl, q⟩
theorem ty_i {C : Int → Int → Prop} {g : Int → Int → V} (ha : Ty H0 M ps ta (Iv M (.int i))) (hb : Ty H0 M ps tb (Iv M (.int j))) (hc : C i j) : Ty H0 M ps (tOp (rI C g) ta tb) (Iv M (g i j)) := ty_op ha hb fun _ _ q => ⟨i, j, rfl, rfl, hc, q⟩
theorem ty_un {g : Int → V} (ha : Ty H0 M ps ta (Iv M (.int i))) : Ty H0 M ps (tUn (rU g) ta) (Iv M (g i)) := fun σ H g' t Q q => ha σ H g' t _ fun v H2 e2 h2 => ⟨i, h2, q _ H2 e2 rfl⟩
theorem ty_eqI {x y : V} (ha : Ty H0 M ps ta (Iv M x)) (hb : Ty H0 M ps tb (Iv M y)) (hs : scal x y = true) : Ty H0 M ps (tOp rEq ta tb) (Iv M (.bl (decide (x = y)))) := ty_op ha hb fun _ _ q => ⟨hs, q⟩
theorem ty_neI {x y : V} (ha : Ty H0 M ps ta (Iv M x)) (hb : Ty H0 M ps tb (Iv M y)) (hs : scal x y = true) : Ty H0 M ps (tOp rNe ta tb) (Iv M (.bl (!decide (x = y)))) := ty_op ha hb fun _ _ q => ⟨hs, q⟩
theorem ty_int (h : Ty H0 M ps te (Iv M (.int i))) (e : i = j) : Ty H0 M ps te (Iv M (.int j)) := e ▸ h
/-- tests -/
theorem tt_test (h : Ty H0 M ps te (Iv M (.bl b))) : TyT H0 M ps (tTest te) b := fun σ H g t Q q => h σ H g t _ fun v H2 e r => ⟨b, r, q H2 e⟩
theorem tt_B (h : Ty H0 M ps te (Iv M (.bl b))) : TyT H0 M ps (tB te) b := fun σ H g t Q q => h σ H g t _ fun v H2 e r => ⟨b, r, q H2 e⟩
theorem tt_is (h : TyT H0 M ps t b) (e : b = c) : TyT H0 M ps t c := e ▸ h
theorem tt_yes : TyT H0 M ps tYes true := fun _ H _ _ _ q => q H (Ex.refl H)
theorem tt_and (h1 : TyT H0 M ps t b) (h2 : b = true → TyT H0 M ps u c) : TyT H0 M ps (tAnd t u) (b && c) := fun σ H g ts Q q => h1 σ H g ts _ fun H2 e => by
  cases b with
  | true =>
    show u σ H2 Q
    exact h2 rfl σ H2 (g.up e) (ts.up e) Q fun H3 e3 => q H3 (e.trans e3)
  | false => exact q H2 e
theorem tt_or (h1 : TyT H0 M ps t b) (h2 : b = false → TyT H0 M ps u c) : TyT H0 M ps (tOr t u) (b || c) := fun σ H g ts Q q => h1 σ H g ts _ fun H2 e => by
  cases b with
  | true => exact q H2 e
  | false =>
    show u σ H2 Q
    exact h2 rfl σ H2 (g.up e) (ts.up e) Q fun H3 e3 => q H3 (e.trans e3)
theorem tt_not (h : TyT H0 M ps t b) : TyT H0 M ps (tNot t) (!b) := fun σ H g ts Q q => h σ H g ts _ q
theorem ty_if (h : TyT H0 M ps t b) (h1 : b = true → Ty H0 M ps ta R) (h2 : b = false → Ty H0 M ps tb R) : Ty H0 M ps (tIf t ta tb) R := fun σ H g ts Q q => h σ H g ts _ fun H2 e => by
  cases b with
  | true =>
    show ta σ H2 Q
    exact h1 rfl σ H2 (g.up e) (ts.up e) Q fun v H3 e3 => q v H3 (e.trans e3)
  | false =>
    show tb σ H2 Q
    exact h2 rfl σ H2 (g.up e) (ts.up e) Q fun v H3 e3 => q v H3 (e.trans e3)
/-- arguments -/
theorem ta_nil : TyA H0 M ps tNil [] := fun σ H _ _ Q q => q [] H (Ex.refl H) .nil
theorem ta_cons {tr : TA} {Rs : List (SV M)} (h : Ty H0 M ps te R) (hr : TyA H0 M ps tr Rs) : TyA H0 M ps (tCons te tr) (R :: Rs) := fun σ H g t Q q =>
  h σ H g t _ fun v H2 e2 r => hr σ H2 (g.up e2) (t.up e2) _ fun vs H3 e3 p => q _ H3 (e2.trans e3) (.cons (R.st (.ofEx e3) r) p)
/-- the call of a def, by its promise's typed form -/
theorem ty_call {sp : Sp} {E : XK} {t : TA} {Rs : List (SV M)} (h : TyA H0 M ps t Rs)
    (hs : ∀ H vs (Q : VK), Good H0 M H → Paired (fun (R : SV M) v => R.R H v) Rs vs → (∀ v H2, Ex H H2 → R.R H2 v → Q v H2) → sp (vs ++ []) H Q E) : Ty H0 M ps (tCall sp [] E t) R := fun σ H g ts Q q =>
  h σ H g ts _ fun vs H2 e2 p => hs H2 vs Q (g.up e2) p fun v H3 e3 r => q v H3 (e2.trans e3) r
theorem ty_cb {r : List V → Hp → VK → Prop} {t : TA} {Rs : List (SV M)} (h : TyA H0 M ps t Rs)
    (hs : ∀ H vs (Q : VK), Good H0 M H → Paired (fun (R : SV M) v => R.R H v) Rs vs → (∀ v H2, Ex H H2 → R.R H2 v → Q v H2) → r vs H Q) : Ty H0 M ps (tCB r t) R := fun σ H g ts Q q =>
  h σ H g ts _ fun vs H2 e2 p => hs H2 vs Q (g.up e2) p fun v H3 e3 r => q v H3 (e2.trans e3) r
end
/-! ### promises in typed form -/
/-- W tells of the result, laid freshly -/
abbrev Ret (W : VP) (H : Hp) (Q : VK) : Prop := ∀ v H', Ex H H' → W (fun a => H a = none) H' v → Q v H'
def Sp1 {ι : Type} (P1 : ι → VP) (ok : ι → Prop) (W : ι → VP) : Sp := fun vs H Q _ => ∃ i v1, vs = [v1] ∧ P1 i Tr H v1 ∧ ok i ∧ Ret (W i) H Q
def Sp2 {ι : Type} (P1 P2 : ι → VP) (ok : ι → Prop) (W : ι → VP) : Sp := fun vs H Q _ => ∃ i v1 v2, vs = [v1, v2] ∧ P1 i Tr H v1 ∧ P2 i Tr H v2 ∧ ok i ∧ Ret (W i) H Q
section
variable {M : Addr → Prop} {H0 : Hp} {ps : List (Option (SV M))} {ta tb : TE} {ι : Type} {P1 P2 W : ι → VP} {ok : ι → Prop} {E : XK} {R1 R2' : SV M}
theorem ret_fr {W : VP} [Mn W] {H : Hp} {Q : VK} (g : Good H0 M H) (q : ∀ v H2, Ex H H2 → (Fr M H0 W).R H2 v → Q v H2) : Ret W H Q := fun v H' e w => q v H' e (Mn.mono (fun _ h => g.fresh h) w)
theorem ty_call1 [∀ i, Mn (W i)] (i : ι) (h1 : Ty H0 M ps ta R1) (c1 : ∀ H v, R1.R H v → P1 i Tr H v) (o : ok i) : Ty H0 M ps (tCall (Sp1 P1 ok W) [] E (tCons ta tNil)) (Fr M H0 (W i)) :=
  ty_call (ta_cons h1 ta_nil) fun H vs Q g p q => by
    obtain ⟨v1, rfl, r1⟩ : ∃ v1, vs = [v1] ∧ R1.R H v1 := by cases p with | cons r t => cases t; exact ⟨_, rfl, r⟩
    exact ⟨i, v1, rfl, c1 _ _ r1, o, ret_fr g q⟩
theorem ty_call2 [∀ i, Mn (W i)] (i : ι) (h1 : Ty H0 M ps ta R1) (h2 : Ty H0 M ps tb R2') (c1 : ∀ H v, R1.R H v → P1 i Tr H v) (c2 : ∀ H v, R2'.R H v → P2 i Tr H v) (o : ok i) :
    Ty H0 M ps (tCall (Sp2 P1 P2 ok W) [] E (tCons ta (tCons tb tNil))) (Fr M H0 (W i)) :=
  ty_call (ta_cons h1 (ta_cons h2 ta_nil)) fun H vs Q g p q => by
    obtain ⟨v1, v2, rfl, r1, r2⟩ : ∃ v1 v2, vs = [v1, v2] ∧ R1.R H v1 ∧ R2'.R H v2 := by
      cases p with | cons r t => cases t with | cons r' t' => cases t'; exact ⟨_, _, rfl, r, r'⟩
    exact ⟨i, v1, v2, rfl, c1 _ _ r1, c2 _ _ r2, o, ret_fr g q⟩
end
/-! ### statements -/
section
variable {M : Addr → Prop} {H0 : Hp} {K : PySem.W.Frag} {ps : List (Option (SV M))} {R : SV M} {te : TE} {t : TT} {b : Bool} {D : Ends} {tu tw tz : TS} {σ : L2.St} {H : Hp}
theorem st_set {i : Nat} (R : SV M) (g : Good H0 M H) (ts : Tsl ps σ H) (h : Ty H0 M ps te R) (k : ∀ σ' H', Ex H H' → Good H0 M H' → Tsl (ps.set i (some R)) σ' H' → tz D σ' H') : tSeq (tAsg te (gName i)) tz D σ H :=
  h σ H g ts _ fun v H2 e r => k _ H2 e (g.up e) ((ts.up e).set r)
theorem st_set1 {i : Nat} (R : SV M) (g : Good H0 M H) (ts : Tsl ps σ H) (h : Ty H0 M ps te R) (k : ∀ σ' H', Ex H H' → Good H0 M H' → Tsl (ps.set i (some R)) σ' H' → D.nx σ' H') : tAsg te (gName i) D σ H :=
  h σ H g ts _ fun v H2 e r => k _ H2 e (g.up e) ((ts.up e).set r)
theorem st_ret (g : Good H0 M H) (ts : Tsl ps σ H) (h : Ty H0 M ps te R) (k : ∀ v H', Ex H H' → R.R H' v → D.rt v H') : tRet te D σ H := h σ H g ts _ k
theorem st_if (g : Good H0 M H) (ts : Tsl ps σ H) (h : TyT H0 M ps t b) (h1 : b = true → ∀ H', Ex H H' → Good H0 M H' → Tsl ps σ H' → tu { D with nx := tz D } σ H') (h2 : b = false → ∀ H', Ex H H' → Good H0 M H' → Tsl ps σ H' → tw { D with nx := tz D } σ H') : tSeq (tIfS t tu tw) tz D σ H :=
  h σ H g ts _ fun H2 e => by
    cases b with
    | true => exact h1 rfl H2 e (g.up e) (ts.up e)
    | false => exact h2 rfl H2 e (g.up e) (ts.up e)
theorem st_when (g : Good H0 M H) (ts : Tsl ps σ H) (h : TyT H0 M ps t b) (h1 : b = true → ∀ H', Ex H H' → Good H0 M H' → Tsl ps σ H' → tu { D with nx := tz D } σ H') (h2 : b = false → ∀ H', Ex H H' → Good H0 M H' → Tsl ps σ H' → tz D σ H') : tSeq (tIfS t tu tNext) tz D σ H := st_if g ts h h1 h2
theorem st_if1 (g : Good H0 M H) (ts : Tsl ps σ H) (h : TyT H0 M ps t b) (h1 : b = true → ∀ H', Ex H H' → Good H0 M H' → Tsl ps σ H' → tu D σ H') (h2 : b = false → ∀ H', Ex H H' → Good H0 M H' → Tsl ps σ H' → tw D σ H') : tIfS t tu tw D σ H :=
  h σ H g ts _ fun H2 e => by
    cases b with
    | true => exact h1 rfl H2 e (g.up e) (ts.up e)
    | false => exact h2 rfl H2 e (g.up e) (ts.up e)
/-- a loop over range(a, b): I i tells the slots ahead of turn i -/
theorem st_for2 {ta : TA} {j : Nat} {lo hi : Int} (n : Nat) (g : Good H0 M H) (ts : Tsl ps σ H) (h : TyA H0 M ps ta [Iv M (.int lo), Iv M (.int hi)]) (hn : (hi - lo).toNat = n) (hb : -1000000 ≤ lo ∧ lo ≤ 1000000 ∧ -1000000 ≤ hi ∧ hi ≤ 1000000) (I : Nat → List (Option (SV M)))
    (h0 : ∀ σ H, Tsl ps σ H → Tsl (I 0) σ H)
    (hs : ∀ (i : Nat) σ' H', i < n → Good H0 M H' → Tsl ((I i).set j (some (Iv M (.int (lo + (i : Int)))))) σ' H' → ∀ D' : Ends, D'.rt = D.rt → (∀ σ2 H2, Good H0 M H2 → Tsl (I (i + 1)) σ2 H2 → D'.nx σ2 H2) → tu D' σ' H')
    (hd : ∀ σ' H', Good H0 M H' → Tsl (I n) σ' H' → tz D σ' H') : tSeq (tFor (iRng2 ta) (gName j) tu) tz D σ H := by
  subst hn
  refine h σ H g ts _ fun vs H1 e p => ?_
  obtain rfl : vs = [.int lo, .int hi] := by
    cases p with | cons r t => cases t with | cons r' t' => cases t'; rw [show _ = _ from r, show _ = _ from r']
  refine ⟨lo, hi, rfl, ⟨by omega, by omega, by omega, by omega⟩, for_range (lo := lo) (n := (hi - lo).toNat) (fun i σ H => Good H0 M H ∧ Tsl (I i) σ H) ⟨g.up e, h0 _ _ (ts.up e)⟩ (fun i σ' H' hi p => ?_) fun σ' H' p => hd σ' H' p.1 p.2⟩
  exact hs i _ H' hi p.1 (p.2.set rfl) _ rfl fun σ2 H2 g t => ⟨g, t⟩
theorem st_for1 {ta : TA} {j : Nat} {hi : Int} (n : Nat) (g : Good H0 M H) (ts : Tsl ps σ H) (h : TyA H0 M ps ta [Iv M (.int hi)]) (hn : hi.toNat = n) (hb : -1000000 ≤ hi ∧ hi ≤ 1000000) (I : Nat → List (Option (SV M)))
    (h0 : ∀ σ H, Tsl ps σ H → Tsl (I 0) σ H)
    (hs : ∀ (i : Nat) σ' H', i < n → Good H0 M H' → Tsl ((I i).set j (some (Iv M (.int (i : Int))))) σ' H' → ∀ D' : Ends, D'.rt = D.rt → (∀ σ2 H2, Good H0 M H2 → Tsl (I (i + 1)) σ2 H2 → D'.nx σ2 H2) → tu D' σ' H')
    (hd : ∀ σ' H', Good H0 M H' → Tsl (I n) σ' H' → tz D σ' H') : tSeq (tFor (iRng1 ta) (gName j) tu) tz D σ H := by
  subst hn
  refine h σ H g ts _ fun vs H1 e p => ?_
  obtain rfl : vs = [.int hi] := by
    cases p with | cons r t => cases t; rw [show _ = _ from r]
  refine ⟨hi, rfl, by omega, by omega, for_range (lo := 0) (n := hi.toNat) (fun i σ H => Good H0 M H ∧ Tsl (I i) σ H) ⟨g.up e, h0 _ _ (ts.up e)⟩ (fun i σ' H' hi p => ?_) fun σ' H' p => hd σ' H' p.1 p.2⟩
  have e0 : (0 : Int) + (i : Int) = (i : Int) := Int.zero_add _
  rw [e0]
  exact hs i _ H' hi p.1 (p.2.set rfl) _ rfl fun σ2 H2 g t => ⟨g, t⟩
/-- over a list: what the list holds stands through the loop (B: the heap ahead of it) -/
theorem st_forL {β : Type} {Pb : β → VP} [∀ b, Mn (Pb b)] {l : List β} {tl : TE} {j : Nat} (g : Good H0 M H) (ts : Tsl ps σ H) (h : Ty H0 M ps tl R) (hR : ∀ H v, R.R H v → LO Pb l (fun a => ¬ M a) H v) (I : Nat → List (Option (SV M)))
    (h0 : ∀ σ H, Tsl ps σ H → Tsl (I 0) σ H)
    (hs : ∀ (B : Hp) (i : Nat) (c : β) σ' H', l[i]? = some c → Good H0 M B → Good B M H' → Tsl ((I i).set j (some (An M (Pb c)))) σ' H' → ∀ D' : Ends, D'.rt = D.rt → (∀ σ2 H2, Good B M H2 → Tsl (I (i + 1)) σ2 H2 → D'.nx σ2 H2) → tu D' σ' H')
    (hd : ∀ σ' H', Good H0 M H' → Tsl (I l.length) σ' H' → tz D σ' H') : tSeq (tFor (iList K tl) (gName j) tu) tz D σ H := by
  refine h σ H g ts _ fun v B e r => ?_
  have gB := g.up e
  obtain ⟨a, vs, rfl, ha, hl, p⟩ := hR _ _ r
  have hlen := pr_len p
  refine ⟨a, rfl, ⟨vs, SqL.of hl⟩, for_list (K := K) (xs := vs) (fun i σ' H' => Good B M H' ∧ Tsl (I i) σ' H') ⟨gB.base, h0 _ _ (ts.up e)⟩ (fun i σ' H' _ q => SqL.of (q.1.kp a _ hl fun _ => ha)) (fun i x σ' H' hi q => ?_) fun σ' H' q => hd σ' H' (gB.trans q.1) (hlen ▸ q.2)⟩
  obtain ⟨c, hc, pc⟩ := pr_get' p hi
  exact hs B i c _ H' hc gB q.1 (q.2.set ((An M (Pb c)).st q.1.kp pc)) _ rfl fun σ2 H2 g t => ⟨g, t⟩
end
/-! ### defs -/
abbrev FnP (K : PySem.W.Frag) (x : Str) (st : Stmt) (f : Addr) (fd : FuncData) : Prop := FunD K x x (defArgs st) (defBody st) (defScope st) [] [] f fd
/-- a def of the text, found at its name -/
structure Dn (K : PySem.W.Frag) (mg : Str → Option Value) (x : Str) (st : Stmt) : Prop where
  fn : ∃ fd, FnP K x st (He.ga K x) fd
  gl : mg x = some (.ref (He.ga K x))
structure Has (P : Program) (w : World) (K : PySem.W.Frag) (mg : Str → Option Value) (base : Heap) (k : Nat) (x : Str) (ps : List Str) (sp : Sp) : Prop where
  ex : ∃ fd, FnOk P w K mg base CX0 k (He.ga K x) fd ps sp ∧ Binds K fd ps []
  gl : mg x = some (.ref (He.ga K x))
  kp : PySem.W.keepIn K (.ref (He.ga K x)) = true
section
variable {P : Program} {w : World} {K : PySem.W.Frag} {mg : Str → Option Value} {base : Heap} {k : Nat} {x : Str} {ps N : List Str} {sp : Sp} {st : Stmt}
theorem has_of (d : Dn K mg x st) (S : FnScope N ps (defScope st)) (len : ∀ vs H Q E, sp vs H Q E → vs.length = ps.length)
    (hb : ∀ (kV doc pm : Value) (an : Option Addr) (cdv ct : Value) (us : List Value), us.length = ps.length → bindArgs (PySem.W.fnOf x x (defArgs st) (defBody st) (defScope st) .none kV doc pm an cdv ct) ⟨us, []⟩ = pure (ps.zip us))
    (hbody : ∀ (f : Addr) (cdv : Value) (A : Around) (outer : List Env) (s : Shared) (H : Hp) (vs : List V) (Q : VK) (E : XK), Room k (A.deeper (envOfC x (defScope st) s.heap.objs.size f cdv)) → sp vs H Q E →
      ∃ t, PSs (cxOf CX0 P w K mg base N x (defScope st) f cdv A outer s H E).nox (defBody st) t ∧ t { nx := fun _ H' => Q .non H', rt := Q } (start N vs) H) : Has P w K mg base (k + 1) x ps sp := by
  obtain ⟨fd, F⟩ := d.fn
  refine ⟨⟨fd, F.ok S len fun cdv A outer s H vs Q E hr h => ?_, F.bindsN hb⟩, d.gl, F.kp⟩
  obtain ⟨t, p, q⟩ := hbody _ cdv A outer s H vs Q E hr h
  exact ⟨t, p.nox, q⟩
theorem Has.mono {j : Nat} (h : Has P w K mg base j x ps sp) (l : j ≤ k) : Has P w K mg base k x ps sp := by
  obtain ⟨fd, a, b⟩ := h.ex
  exact ⟨⟨fd, a.mono l, b⟩, h.gl, h.kp⟩
theorem pe_has {X : Cx} {e : Expr} {es : List Expr} {t : TA} {p pos : Pos} (F : Has X.prog X.w X.K X.mg X.base k x ps sp) (hr : Room k X.A) (ha : PA X (e :: es) t) (hg : Gl X x := by rfl) (hdb : (x == ("__debug__" : Str)) = false := by decide)
    (he : starEach (e :: es) X.env = (false, eval e X.env) :: starEach es X.env := by rfl) (hpl : (backTo pos (starEach es X.env)).any (·.1) = false := by rfl) : PE X (.Call (.Name x p) (e :: es) [] pos) (tCall sp [] E0 t) := by
  obtain ⟨fd, a, b⟩ := F.ex
  exact pe_call a hr hg F.gl F.kp b .nil pass0 ha hdb he hpl
end
end My
end
section
set_option Elab.async false
set_option linter.all false
set_option maxRecDepth 100000
set_option maxHeartbeats 4000000
namespace My
open PySem PySem.Spec PyProof.Rows L2 Evl
def top (i : Nat) : Stmt := PySem.Challenge.pw_rootbags_k21_whole_methods_agree_on_choi.main.body.getD i (.Pass ⟨0, 0, 0, 0⟩)
abbrev s_common_divisor : Stmt := top 13
theorem sc_common_divisor : FnScope ["one", "other"] ["one", "other"] (defScope s_common_divisor) := ⟨rfl, rfl, rfl, by decide +kernel, rfl, by decide +kernel, by decide +kernel⟩
abbrev s_lowest : Stmt := top 14
theorem sc_lowest : FnScope ["numerator", "denominator", "shared"] ["numerator", "denominator"] (defScope s_lowest) := ⟨rfl, rfl, rfl, by decide +kernel, rfl, by decide +kernel, by decide +kernel⟩
abbrev s_number : Stmt := top 15
theorem sc_number : FnScope ["value"] ["value"] (defScope s_number) := ⟨rfl, rfl, rfl, by decide +kernel, rfl, by decide +kernel, by decide +kernel⟩
abbrev s_plus : Stmt := top 16
theorem sc_plus : FnScope ["one", "other"] ["one", "other"] (defScope s_plus) := ⟨rfl, rfl, rfl, by decide +kernel, rfl, by decide +kernel, by decide +kernel⟩
abbrev s_negative : Stmt := top 17
theorem sc_negative : FnScope ["one"] ["one"] (defScope s_negative) := ⟨rfl, rfl, rfl, by decide +kernel, rfl, by decide +kernel, by decide +kernel⟩
abbrev s_minus : Stmt := top 18
theorem sc_minus : FnScope ["one", "other"] ["one", "other"] (defScope s_minus) := ⟨rfl, rfl, rfl, by decide +kernel, rfl, by decide +kernel, by decide +kernel⟩
abbrev s_times : Stmt := top 19
theorem sc_times : FnScope ["one", "other"] ["one", "other"] (defScope s_times) := ⟨rfl, rfl, rfl, by decide +kernel, rfl, by decide +kernel, by decide +kernel⟩
abbrev s_over : Stmt := top 20
theorem sc_over : FnScope ["one", "other"] ["one", "other"] (defScope s_over) := ⟨rfl, rfl, rfl, by decide +kernel, rfl, by decide +kernel, by decide +kernel⟩
abbrev s_sum_of : Stmt := top 21
theorem sc_sum_of : FnScope ["numbers", "found", "part"] ["numbers"] (defScope s_sum_of) := ⟨rfl, rfl, rfl, by decide +kernel, rfl, by decide +kernel, by decide +kernel⟩
abbrev s_trimmed : Stmt := top 23
theorem sc_trimmed : FnScope ["parts", "size"] ["parts"] (defScope s_trimmed) := ⟨rfl, rfl, rfl, by decide +kernel, rfl, by decide +kernel, by decide +kernel⟩
abbrev s_polynomial : Stmt := top 24
theorem sc_polynomial : FnScope ["parts", "part"] ["parts"] (defScope s_polynomial) := ⟨rfl, rfl, rfl, by decide +kernel, rfl, by decide +kernel, by decide +kernel⟩
abbrev s_scaled : Stmt := top 26
theorem sc_scaled : FnScope ["poly", "factor", "part"] ["poly", "factor"] (defScope s_scaled) := ⟨rfl, rfl, rfl, by decide +kernel, rfl, by decide +kernel, by decide +kernel⟩
abbrev s_monic : Stmt := top 29
theorem sc_monic : FnScope ["poly"] ["poly"] (defScope s_monic) := ⟨rfl, rfl, rfl, by decide +kernel, rfl, by decide +kernel, by decide +kernel⟩
abbrev s_power_sums_of : Stmt := top 32
theorem sc_power_sums_of : FnScope ["poly", "most", "size", "found", "k", "part", "i"] ["poly", "most"] (defScope s_power_sums_of) := ⟨rfl, rfl, rfl, by decide +kernel, rfl, by decide +kernel, by decide +kernel⟩
abbrev s_elementary_of : Stmt := top 33
theorem sc_elementary_of : FnScope ["sums", "most", "found", "k", "part", "i", "term"] ["sums", "most"] (defScope s_elementary_of) := ⟨rfl, rfl, rfl, by decide +kernel, rfl, by decide +kernel, by decide +kernel⟩
abbrev s_monic_from : Stmt := top 34
theorem sc_monic_from : FnScope ["sums", "size", "parts", "k"] ["sums"] (defScope s_monic_from) := ⟨rfl, rfl, rfl, by decide +kernel, rfl, by decide +kernel, by decide +kernel⟩
abbrev s_binomials : Stmt := top 35
theorem sc_binomials : FnScope ["most", "rows", "k", "last", "a", "b"] ["most"] (defScope s_binomials) := ⟨rfl, rfl, rfl, by decide +kernel, rfl, by decide +kernel, by decide +kernel⟩
abbrev s_convolved : Stmt := top 36
theorem sc_convolved : FnScope ["one", "other", "rows", "k", "j"] ["one", "other"] (defScope s_convolved) := ⟨rfl, rfl, rfl, by decide +kernel, rfl, by decide +kernel, by decide +kernel⟩
abbrev s_add_choices : Stmt := top 39
theorem sc_add_choices : FnScope ["poly", "many", "total", "sums", "rows", "found", "k", "current", "i", "part", "sign", "j", "a", "b"] ["poly", "many"] (defScope s_add_choices) := ⟨rfl, rfl, rfl, by decide +kernel, rfl, by decide +kernel, by decide +kernel⟩
abbrev s_multiply_choices : Stmt := top 40
theorem sc_multiply_choices : FnScope ["poly", "many", "total", "sums", "found", "r", "i"] ["poly", "many"] (defScope s_multiply_choices) := ⟨rfl, rfl, rfl, by decide +kernel, rfl, by decide +kernel, by decide +kernel⟩
abbrev s_power_of : Stmt := top 41
theorem sc_power_of : FnScope ["base", "exponent", "found", "k"] ["base", "exponent"] (defScope s_power_of) := ⟨rfl, rfl, rfl, by decide +kernel, rfl, by decide +kernel, by decide +kernel⟩
abbrev s_choices : Stmt := top 42
theorem sc_choices : FnScope ["size", "many", "found", "k"] ["size", "many"] (defScope s_choices) := ⟨rfl, rfl, rfl, by decide +kernel, rfl, by decide +kernel, by decide +kernel⟩
abbrev s_common_denominator : Stmt := top 47
theorem sc_common_denominator : FnScope ["parts", "found", "part"] ["parts"] (defScope s_common_denominator) := ⟨rfl, rfl, rfl, by decide +kernel, rfl, by decide +kernel, by decide +kernel⟩
abbrev s_need_size : Stmt := top 49
theorem sc_need_size : FnScope ["size"] ["size"] (defScope s_need_size) := ⟨rfl, rfl, rfl, by decide +kernel, rfl, by decide +kernel, by decide +kernel⟩
abbrev s_need_digits : Stmt := top 50
theorem sc_need_digits : FnScope ["poly", "shared", "part"] ["poly"] (defScope s_need_digits) := ⟨rfl, rfl, rfl, by decide +kernel, rfl, by decide +kernel, by decide +kernel⟩
abbrev s_checked : Stmt := top 51
theorem sc_checked : FnScope ["parts", "poly", "found"] ["parts"] (defScope s_checked) := ⟨rfl, rfl, rfl, by decide +kernel, rfl, by decide +kernel, by decide +kernel⟩
abbrev s_companion : Stmt := top 54
theorem sc_companion : FnScope ["poly", "size", "rows", "row", "column"] ["poly"] (defScope s_companion) := ⟨rfl, rfl, rfl, by decide +kernel, rfl, by decide +kernel, by decide +kernel⟩
abbrev s_diagonal : Stmt := top 55
theorem sc_diagonal : FnScope ["size", "value", "row", "column"] ["size", "value"] (defScope s_diagonal) := ⟨rfl, rfl, rfl, by decide +kernel, rfl, by decide +kernel, by decide +kernel⟩
abbrev s_matrix_sum : Stmt := top 56
theorem sc_matrix_sum : FnScope ["one", "other", "left", "right", "a", "b"] ["one", "other"] (defScope s_matrix_sum) := ⟨rfl, rfl, rfl, by decide +kernel, rfl, by decide +kernel, by decide +kernel⟩
abbrev s_matrix_product : Stmt := top 57
theorem sc_matrix_product : FnScope ["one", "other", "columns", "k", "row", "column", "a", "b"] ["one", "other"] (defScope s_matrix_product) := ⟨rfl, rfl, rfl, by decide +kernel, rfl, by decide +kernel, by decide +kernel⟩
abbrev s_characteristic : Stmt := top 58
theorem sc_characteristic : FnScope ["matrix", "size", "parts", "current", "k", "trace", "at"] ["matrix"] (defScope s_characteristic) := ⟨rfl, rfl, rfl, by decide +kernel, rfl, by decide +kernel, by decide +kernel⟩
abbrev s_determinant : Stmt := top 59
theorem sc_determinant : FnScope ["matrix", "rows", "found", "at", "spots", "row", "factor", "a", "b"] ["matrix"] (defScope s_determinant) := ⟨rfl, rfl, rfl, by decide +kernel, rfl, by decide +kernel, by decide +kernel⟩
abbrev s_subsets : Stmt := top 60
theorem sc_subsets : FnScope ["size", "many", "found", "step", "end", "chosen", "place"] ["size", "many"] (defScope s_subsets) := ⟨rfl, rfl, rfl, by decide +kernel, rfl, by decide +kernel, by decide +kernel⟩
abbrev s_compound : Stmt := top 61
theorem sc_compound : FnScope ["matrix", "many", "lots", "left", "right", "row", "column"] ["matrix", "many"] (defScope s_compound) := ⟨rfl, rfl, rfl, by decide +kernel, rfl, by decide +kernel, by decide +kernel⟩
abbrev s_place_in : Stmt := top 62
theorem sc_place_in : FnScope ["chosen", "place", "less", "other"] ["chosen", "place"] (defScope s_place_in) := ⟨rfl, rfl, rfl, by decide +kernel, rfl, by decide +kernel, by decide +kernel⟩
abbrev s_derivation : Stmt := top 63
theorem sc_derivation : FnScope ["matrix", "many", "lots", "numbers", "rows", "column", "chosen", "at", "place", "rest", "later", "put", "sign", "row", "left", "right"] ["matrix", "many"] (defScope s_derivation) := ⟨rfl, rfl, rfl, by decide +kernel, rfl, by decide +kernel, by decide +kernel⟩
abbrev s_choice_sums_by_matrices : Stmt := top 64
theorem sc_choice_sums_by_matrices : FnScope ["poly", "many"] ["poly", "many"] (defScope s_choice_sums_by_matrices) := ⟨rfl, rfl, rfl, by decide +kernel, rfl, by decide +kernel, by decide +kernel⟩
abbrev s_choice_products_by_matrices : Stmt := top 65
theorem sc_choice_products_by_matrices : FnScope ["poly", "many"] ["poly", "many"] (defScope s_choice_products_by_matrices) := ⟨rfl, rfl, rfl, by decide +kernel, rfl, by decide +kernel, by decide +kernel⟩
abbrev s_need_road : Stmt := top 68
theorem sc_need_road : FnScope ["road"] ["road"] (defScope s_need_road) := ⟨rfl, rfl, rfl, by decide +kernel, rfl, by decide +kernel, by decide +kernel⟩
abbrev s_need_choices : Stmt := top 69
theorem sc_need_choices : FnScope ["bag", "many"] ["bag", "many"] (defScope s_need_choices) := ⟨rfl, rfl, rfl, by decide +kernel, rfl, by decide +kernel, by decide +kernel⟩
abbrev s_law_draws : Stmt := top 73
theorem sc_law_draws : FnScope ["_law_script", "_law_salt", "_law_cell"] ["_law_script"] (defScope s_law_draws) := ⟨rfl, rfl, rfl, by decide +kernel, rfl, by decide +kernel, by decide +kernel⟩
abbrev s_law_draw : Stmt := top 74
theorem sc_law_draw : FnScope ["_law_rng", "_law_amount", "_law_cell", "_law_got", "_law_seed"] ["_law_rng", "_law_amount"] (defScope s_law_draw) := ⟨rfl, rfl, rfl, by decide +kernel, rfl, by decide +kernel, by decide +kernel⟩
abbrev s_law_pick : Stmt := top 75
theorem sc_law_pick : FnScope ["_law_rng", "_law_things"] ["_law_rng", "_law_things"] (defScope s_law_pick) := ⟨rfl, rfl, rfl, by decide +kernel, rfl, by decide +kernel, by decide +kernel⟩
abbrev s_law_same : Stmt := top 76
theorem sc_law_same : FnScope ["_law_result", "_law_expected", "_law_a", "_law_b"] ["_law_result", "_law_expected"] (defScope s_law_same) := ⟨rfl, rfl, rfl, by decide +kernel, rfl, by decide +kernel, by decide +kernel⟩
abbrev s_law_try : Stmt := top 78
theorem sc_law_try : FnScope ["_law_ask", "_law_e"] ["_law_ask"] (defScope s_law_try) := ⟨rfl, rfl, rfl, by decide +kernel, rfl, by decide +kernel, by decide +kernel⟩
abbrev s_law_told : Stmt := top 79
theorem sc_law_told : FnScope ["_law_ask", "_law_told_here"] ["_law_ask"] (defScope s_law_told) := ⟨rfl, rfl, rfl, by decide +kernel, rfl, by decide +kernel, by decide +kernel⟩
abbrev s_law_gcd : Stmt := top 80
theorem sc_law_gcd : FnScope ["_law_one", "_law_other"] ["_law_one", "_law_other"] (defScope s_law_gcd) := ⟨rfl, rfl, rfl, by decide +kernel, rfl, by decide +kernel, by decide +kernel⟩
abbrev s_law_low : Stmt := top 81
theorem sc_law_low : FnScope ["_law_top", "_law_bottom", "_law_shared"] ["_law_top", "_law_bottom"] (defScope s_law_low) := ⟨rfl, rfl, rfl, by decide +kernel, rfl, by decide +kernel, by decide +kernel⟩
abbrev s_law_plus : Stmt := top 82
theorem sc_law_plus : FnScope ["_law_one", "_law_other"] ["_law_one", "_law_other"] (defScope s_law_plus) := ⟨rfl, rfl, rfl, by decide +kernel, rfl, by decide +kernel, by decide +kernel⟩
abbrev s_law_times : Stmt := top 83
theorem sc_law_times : FnScope ["_law_one", "_law_other"] ["_law_one", "_law_other"] (defScope s_law_times) := ⟨rfl, rfl, rfl, by decide +kernel, rfl, by decide +kernel, by decide +kernel⟩
abbrev s_law_product : Stmt := top 84
theorem sc_law_product : FnScope ["_law_one", "_law_other", "_law_found", "_law_i", "_law_j"] ["_law_one", "_law_other"] (defScope s_law_product) := ⟨rfl, rfl, rfl, by decide +kernel, rfl, by decide +kernel, by decide +kernel⟩
abbrev s_law_trim : Stmt := top 85
theorem sc_law_trim : FnScope ["_law_parts", "_law_found"] ["_law_parts"] (defScope s_law_trim) := ⟨rfl, rfl, rfl, by decide +kernel, rfl, by decide +kernel, by decide +kernel⟩
abbrev s_law_expand : Stmt := top 86
theorem sc_law_expand : FnScope ["_law_numbers", "_law_found", "_law_part"] ["_law_numbers"] (defScope s_law_expand) := ⟨rfl, rfl, rfl, by decide +kernel, rfl, by decide +kernel, by decide +kernel⟩
abbrev s_law_small_numbers : Stmt := top 87
theorem sc_law_small_numbers : FnScope ["_law_rng", "_law_most", "_law_found", "_law_step", "_law_part"] ["_law_rng", "_law_most"] (defScope s_law_small_numbers) := ⟨rfl, rfl, rfl, by decide +kernel, rfl, by decide +kernel, by decide +kernel⟩
abbrev s_law_poly : Stmt := top 88
theorem sc_law_poly : FnScope ["_law_rng", "_law_most", "_law_drawn", "_law_k", "_law_part"] ["_law_rng", "_law_most"] (defScope s_law_poly) := ⟨rfl, rfl, rfl, by decide +kernel, rfl, by decide +kernel, by decide +kernel⟩
abbrev s_law_bag : Stmt := top 89
theorem sc_law_bag : FnScope ["_law_poly_here"] ["_law_poly_here"] (defScope s_law_bag) := ⟨rfl, rfl, rfl, by decide +kernel, rfl, by decide +kernel, by decide +kernel⟩
abbrev s_law : Stmt := top 90
theorem sc_law : FnScope ["_law_script", "_law_rng", "_law_turn", "_law_bag_here", "_law_wanted", "_law_found", "_law_due"] ["_law_script"] (defScope s_law) := ⟨rfl, rfl, rfl, by decide +kernel, rfl, by decide +kernel, by decide +kernel⟩
abbrev s_choice_sums : Stmt := top 70
theorem sc_choice_sums : FnScope ["bag", "many", "road", "action"] ["bag", "many", "road"] (defScope s_choice_sums) := ⟨rfl, rfl, rfl, by decide +kernel, rfl, by decide +kernel, by decide +kernel⟩
abbrev s_choice_products : Stmt := top 71
theorem sc_choice_products : FnScope ["bag", "many", "road", "action"] ["bag", "many", "road"] (defScope s_choice_products) := ⟨rfl, rfl, rfl, by decide +kernel, rfl, by decide +kernel, by decide +kernel⟩
abbrev s_Bag_init : Stmt := inClass (top 52) 1
theorem sc_Bag_init : FnScope ["self", "parts"] ["self", "parts"] (defScope s_Bag_init) := ⟨rfl, rfl, rfl, by decide +kernel, rfl, by decide +kernel, by decide +kernel⟩
abbrev s_Bag_of : Stmt := inClass (top 52) 2
theorem sc_Bag_of : FnScope ["cls", "numbers", "values", "poly", "value"] ["cls", "numbers"] (defScope s_Bag_of) := ⟨rfl, rfl, rfl, by decide +kernel, rfl, by decide +kernel, by decide +kernel⟩
abbrev s_Bag_coefficients : Stmt := inClass (top 52) 5
theorem sc_Bag_coefficients : FnScope ["self"] ["self"] (defScope s_Bag_coefficients) := ⟨rfl, rfl, rfl, by decide +kernel, rfl, by decide +kernel, by decide +kernel⟩
abbrev s_Bag_len : Stmt := inClass (top 52) 10
theorem sc_Bag_len : FnScope ["self"] ["self"] (defScope s_Bag_len) := ⟨rfl, rfl, rfl, by decide +kernel, rfl, by decide +kernel, by decide +kernel⟩
/-- a name that holds a value -/
def Gc (mg : Str → Option Value) (x : Str) (v : V) : Prop := ∃ u, mg x = some u ∧ RelV v u
theorem pe_gc {X : Cx} {x : Str} {v : V} {pos : Pos} (h : Gc X.mg x v) (hg : Gl X x := by rfl) (hd : (x == ("__debug__" : Str)) = false := by decide) : PE X (.Name x pos) (tC v) := by
  obtain ⟨u, e, r⟩ := h
  exact pe_glob hg e r hd
/-- what stands behind the top -/
structure Tx (K : PySem.W.Frag) (mg : Str → Option Value) : Prop where
  d_common_divisor : Dn K mg "common_divisor" s_common_divisor
  d_lowest : Dn K mg "lowest" s_lowest
  d_number : Dn K mg "number" s_number
  d_plus : Dn K mg "plus" s_plus
  d_negative : Dn K mg "negative" s_negative
  d_minus : Dn K mg "minus" s_minus
  d_times : Dn K mg "times" s_times
  d_over : Dn K mg "over" s_over
  d_sum_of : Dn K mg "sum_of" s_sum_of
  d_trimmed : Dn K mg "trimmed" s_trimmed
  d_polynomial : Dn K mg "polynomial" s_polynomial
  d_scaled : Dn K mg "scaled" s_scaled
  d_monic : Dn K mg "monic" s_monic
  d_power_sums_of : Dn K mg "power_sums_of" s_power_sums_of
  d_elementary_of : Dn K mg "elementary_of" s_elementary_of
  d_monic_from : Dn K mg "monic_from" s_monic_from
  d_binomials : Dn K mg "binomials" s_binomials
  d_convolved : Dn K mg "convolved" s_convolved
  d_add_choices : Dn K mg "add_choices" s_add_choices
  d_multiply_choices : Dn K mg "multiply_choices" s_multiply_choices
  d_power_of : Dn K mg "power_of" s_power_of
  d_choices : Dn K mg "choices" s_choices
  d_common_denominator : Dn K mg "common_denominator" s_common_denominator
  d_need_size : Dn K mg "need_size" s_need_size
  d_need_digits : Dn K mg "need_digits" s_need_digits
  d_checked : Dn K mg "checked" s_checked
  d_companion : Dn K mg "companion" s_companion
  d_diagonal : Dn K mg "diagonal" s_diagonal
  d_matrix_sum : Dn K mg "matrix_sum" s_matrix_sum
  d_matrix_product : Dn K mg "matrix_product" s_matrix_product
  d_characteristic : Dn K mg "characteristic" s_characteristic
  d_determinant : Dn K mg "determinant" s_determinant
  d_subsets : Dn K mg "subsets" s_subsets
  d_compound : Dn K mg "compound" s_compound
  d_place_in : Dn K mg "place_in" s_place_in
  d_derivation : Dn K mg "derivation" s_derivation
  d_choice_sums_by_matrices : Dn K mg "choice_sums_by_matrices" s_choice_sums_by_matrices
  d_choice_products_by_matrices : Dn K mg "choice_products_by_matrices" s_choice_products_by_matrices
  d_need_road : Dn K mg "need_road" s_need_road
  d_need_choices : Dn K mg "need_choices" s_need_choices
  d_law_draws : Dn K mg "_law_draws" s_law_draws
  d_law_draw : Dn K mg "_law_draw" s_law_draw
  d_law_pick : Dn K mg "_law_pick" s_law_pick
  d_law_same : Dn K mg "_law_same" s_law_same
  d_law_try : Dn K mg "_law_try" s_law_try
  d_law_told : Dn K mg "_law_told" s_law_told
  d_law_gcd : Dn K mg "_law_gcd" s_law_gcd
  d_law_low : Dn K mg "_law_low" s_law_low
  d_law_plus : Dn K mg "_law_plus" s_law_plus
  d_law_times : Dn K mg "_law_times" s_law_times
  d_law_product : Dn K mg "_law_product" s_law_product
  d_law_trim : Dn K mg "_law_trim" s_law_trim
  d_law_expand : Dn K mg "_law_expand" s_law_expand
  d_law_small_numbers : Dn K mg "_law_small_numbers" s_law_small_numbers
  d_law_poly : Dn K mg "_law_poly" s_law_poly
  d_law_bag : Dn K mg "_law_bag" s_law_bag
  d_law : Dn K mg "law" s_law
  b_abs : mg "abs" = none
  b_len : mg "len" = none
  b_max : mg "max" = none
  b_min : mg "min" = none
  b_list : mg "list" = none
  b_tuple : mg "tuple" = none
  b_isinstance : mg "isinstance" = none
  b_any : mg "any" = none
  b_all : mg "all" = none
  b_range : mg "range" = none
  b_zip : mg "zip" = none
  b_enumerate : mg "enumerate" = none
  b_bool : mg "bool" = none
  b_int : mg "int" = none
  b_str : mg "str" = none
  g_ZERO : Gc mg "ZERO" (.ref (He.ga K "ZERO"))
  q_ZERO : ∀ H, SqT K H (He.ga K "ZERO") [.int 0, .int 1]
  g_ONE : Gc mg "ONE" (.ref (He.ga K "ONE"))
  q_ONE : ∀ H, SqT K H (He.ga K "ONE") [.int 1, .int 1]
  g_MAX_SIZE : Gc mg "MAX_SIZE" (.int 40)
  g_WALL : Gc mg "WALL" (.int (10 ^ 100))
  g_ROADS : Gc mg "ROADS" (.ref (He.ga K "ROADS"))
  q_ROADS : ∀ H, SqT K H (He.ga K "ROADS") [.str "sums", .str "matrices"]
  k_sums : ∃ fd, FunD K "choice_sums" "choice_sums" (defArgs s_choice_sums) (defBody s_choice_sums) (defScope s_choice_sums) [] [("road", .str "sums")] (He.ga K "choice_sums") fd
  n_sums : mg "choice_sums" = some (.ref (He.ga K "choice_sums"))
  k_products : ∃ fd, FunD K "choice_products" "choice_products" (defArgs s_choice_products) (defBody s_choice_products) (defScope s_choice_products) [] [("road", .str "sums")] (He.ga K "choice_products") fd
  n_products : mg "choice_products" = some (.ref (He.ga K "choice_products"))
end My
end
section
set_option Elab.async false
set_option linter.all false
set_option maxRecDepth 100000
set_option maxHeartbeats 2000000
namespace My
open PySem PySem.Spec PyProof.Rows L2 Evl
abbrev NoM : Addr → Prop := fun _ => False
section
variable {P : Program} {w : World} {K : PySem.W.Frag} {mg : Str → Option Value} {base : Heap} {k : Nat} {x a b : Str} {N : List Str} {st : Stmt} {ι : Type} {P1 P2 W : ι → VP} {ok : ι → Prop}
theorem has1 (d : Dn K mg x st) (S : FnScope N [a] (defScope st))
    (hb : ∀ (kV doc pm : Value) (an : Option Addr) (cdv ct : Value) (us : List Value), us.length = [a].length → bindArgs (PySem.W.fnOf x x (defArgs st) (defBody st) (defScope st) .none kV doc pm an cdv ct) ⟨us, []⟩ = pure ([a].zip us))
    (hbody : ∀ (f : Addr) (cdv : Value) (A : Around) (outer : List Env) (s : Shared) (H : Hp) (E : XK), Room k (A.deeper (envOfC x (defScope st) s.heap.objs.size f cdv)) →
      ∃ t, PSs (cxOf CX0 P w K mg base N x (defScope st) f cdv A outer s H E).nox (defBody st) t ∧ ∀ i v1 Q, P1 i Tr H v1 → ok i → Ret (W i) H Q → t { nx := fun _ H' => Q .non H', rt := Q } (start N [v1]) H) : Has P w K mg base (k + 1) x [a] (Sp1 P1 ok W) :=
  has_of d S (fun vs H Q E h => by obtain ⟨_, _, rfl, _⟩ := h; rfl) hb fun f cdv A outer s H vs Q E hr h => by
    obtain ⟨i, v1, rfl, h1, o, r⟩ := h
    obtain ⟨t, p, q⟩ := hbody f cdv A outer s H E hr
    exact ⟨t, p, q i v1 Q h1 o r⟩
theorem has2 (d : Dn K mg x st) (S : FnScope N [a, b] (defScope st))
    (hb : ∀ (kV doc pm : Value) (an : Option Addr) (cdv ct : Value) (us : List Value), us.length = [a, b].length → bindArgs (PySem.W.fnOf x x (defArgs st) (defBody st) (defScope st) .none kV doc pm an cdv ct) ⟨us, []⟩ = pure ([a, b].zip us))
    (hbody : ∀ (f : Addr) (cdv : Value) (A : Around) (outer : List Env) (s : Shared) (H : Hp) (E : XK), Room k (A.deeper (envOfC x (defScope st) s.heap.objs.size f cdv)) →
      ∃ t, PSs (cxOf CX0 P w K mg base N x (defScope st) f cdv A outer s H E).nox (defBody st) t ∧ ∀ i v1 v2 Q, P1 i Tr H v1 → P2 i Tr H v2 → ok i → Ret (W i) H Q → t { nx := fun _ H' => Q .non H', rt := Q } (start N [v1, v2]) H) : Has P w K mg base (k + 1) x [a, b] (Sp2 P1 P2 ok W) :=
  has_of d S (fun vs H Q E h => by obtain ⟨_, _, _, rfl, _⟩ := h; rfl) hb fun f cdv A outer s H vs Q E hr h => by
    obtain ⟨i, v1, v2, rfl, h1, h2, o, r⟩ := h
    obtain ⟨t, p, q⟩ := hbody f cdv A outer s H E hr
    exact ⟨t, p, q i v1 v2 Q h1 h2 o r⟩
end
/-! the layer's rules, the written part named -/
section
variable {X : Cx} {K : PySem.W.Frag} {tg a b e l : Expr} {tl : TE} {pos : Pos}
theorem ix_seqK (h : X.K = K := by rfl) : IxR X (rIx K) := h ▸ ix_seq
theorem len_seqK (h : X.K = K := by rfl) : CallR X (.builtin "len") (fun xs H Q => ∃ p ys, xs = [.ref p] ∧ (SqL K H p ys ∨ SqT K H p ys) ∧ Q (.int ys.length) H) := h ▸ call_len_seq
theorem list_ofK (h : X.K = K := by rfl) : CallR X (.type "list") (fun xs H Q => ∃ p ys, xs = [.ref p] ∧ (SqL K H p ys ∨ SqT K H p ys) ∧ ∀ l, H l = none → Q (.ref l) (upd H l (.lst ys))) := h ▸ call_list_of
theorem tuple_ofK (h : X.K = K := by rfl) : CallR X (.type "tuple") (fun xs H Q => ∃ p ys, xs = [.ref p] ∧ ((SqL K H p ys ∧ ∀ l, H l = none → Q (.ref l) (upd H l (.tup ys))) ∨ (SqT K H p ys ∧ Q (.ref p) H))) := h ▸ call_tuple_of
theorem isiK (h : X.K = K := by rfl) : CallR X (.builtin "isinstance") (rIsi K) := h ▸ call_isi
theorem anyK (hc : X.calm = true) (h : X.K = K := by rfl) : CallR X (.builtin "any") (rAny K) := h ▸ cr_any hc
theorem allK (hc : X.calm = true) (h : X.K = K := by rfl) : CallR X (.builtin "all") (rAll K) := h ▸ cr_all hc
theorem sl_listK (h : X.K = K := by rfl) : SlR X (rSlL K) := h ▸ sl_list
theorem sl_tupK (h : X.K = K := by rfl) : SlR X (rSlT K) := h ▸ sl_tup
theorem in_seqK (h : X.K = K := by rfl) : OpR X (compareOp .In) (rIn K false) := h ▸ op_in_seq
theorem notIn_seqK (h : X.K = K := by rfl) : OpR X (compareOp .NotIn) (rIn K true) := h ▸ op_notIn_seq
theorem eqDK (hu : X.A.units + 64 < cLine) (h : X.K = K := by rfl) : OpR X (compareOp .Eq) (rEqD K) := h ▸ op_eqD hu
theorem neDK (hu : X.A.units + 64 < cLine) (h : X.K = K := by rfl) : OpR X (compareOp .NotEq) (rNeD K) := h ▸ op_neD hu
theorem catTK (h : X.K = K := by rfl) : OpR X (binaryOp .Add) (rCatT K) := h ▸ op_catT
theorem pi_listK (hl : PE X l tl) (h : X.K = K := by rfl) : PI X tg l (iList K tl) := h ▸ pi_list hl
theorem pi_tupK (hl : PE X l tl) (h : X.K = K := by rfl) : PI X tg l (iTup K tl) := h ▸ pi_tup hl
theorem pi_zipK {e2 : Expr} {ta : TA} {p tpos : Pos} {elts : List Expr} {kk : Nat} (hm : X.mg "zip" = none) (ha : PA X [e, e2] ta) (hg : Gl X "zip" := by rfl) (h : X.K = K := by rfl) (hs : starEach [e, e2] X.env = (false, eval e X.env) :: starEach [e2] X.env := by rfl) (hpl : (backTo pos (starEach [e2] X.env)).any (·.1) = false := by rfl) :
    PI X (.Tuple elts kk tpos) (.Call (.Name "zip" p) [e, e2] [] pos) (iZip K ta) := h ▸ pi_zip hg hm ha hs hpl
theorem pi_enumK {ta : TA} {p tpos : Pos} {elts : List Expr} {kk : Nat} (hm : X.mg "enumerate" = none) (ha : PA X [e] ta) (hg : Gl X "enumerate" := by rfl) (h : X.K = K := by rfl) (hs : starEach [e] X.env = [(false, eval e X.env)] := by rfl) :
    PI X (.Tuple elts kk tpos) (.Call (.Name "enumerate" p) [e] [] pos) (iEnum K ta) := h ▸ pi_enum hg hm ha hs
theorem pg_tupK {es : List Expr} {k : Nat} {t : TGs} {n : Nat} (hc : X.calm = true) (hp : PGs X es t) (hn : (assignEach es X.env).length = n := by rfl) (hst : (assignEach es X.env).findIdx? (·.1) = none := by rfl) (h : X.K = K := by rfl) : PG X (.Tuple es k pos) (gTup K n t) := h ▸ pg_tup hc hp hn hst
end
section
variable {M : Addr → Prop} {H0 : Hp} {K : PySem.W.Frag} {ps : List (Option (SV M))} {R R1 R2' : SV M} {te ta tb : TE} {D : Ends} {tz : TS} {σ : L2.St} {H : Hp} {r s : Rat}
theorem st_par {i j : Nat} {t : TA} (g : Good H0 M H) (ts : Tsl ps σ H) (h : TyA H0 M ps t [R1, R2']) (k : ∀ σ' H', Ex H H' → Good H0 M H' → Tsl ((ps.set i (some R1)).set j (some R2')) σ' H' → tz D σ' H') : tSeq (tPar i j t) tz D σ H :=
  h σ H g ts _ fun vs H2 e p => by
    cases p with
    | cons r1 t1 => cases t1 with
      | cons r2 t2 =>
        cases t2
        exact ⟨_, _, rfl, k _ H2 e (g.up e) (((ts.up e).set r1).set r2)⟩
theorem st_par1 {i j : Nat} {t : TA} (g : Good H0 M H) (ts : Tsl ps σ H) (h : TyA H0 M ps t [R1, R2']) (k : ∀ σ' H', Ex H H' → Good H0 M H' → Tsl ((ps.set i (some R1)).set j (some R2')) σ' H' → D.nx σ' H') : tPar i j t D σ H :=
  h σ H g ts _ fun vs H2 e p => by
    cases p with
    | cons r1 t1 => cases t1 with
      | cons r2 t2 =>
        cases t2
        exact ⟨_, _, rfl, k _ H2 e (g.up e) (((ts.up e).set r1).set r2)⟩
theorem ty_cb1 {r : List V → Hp → VK → Prop} {z y : V} (h : Ty H0 M ps ta (Iv M y)) (hr : ∀ H (Q : VK), Q z H → r [y] H Q) : Ty H0 M ps (tCB r (tCons ta tNil)) (Iv M z) :=
  ty_cb (ta_cons h ta_nil) fun H vs Q g p q => by
    cases p with
    | cons r1 t1 =>
      cases t1
      have e : _ = y := r1
      rw [e]
      exact hr H Q (q z H (Ex.refl H) rfl)
theorem ty_cb2 {r : List V → Hp → VK → Prop} {z y y' : V} (h : Ty H0 M ps ta (Iv M y)) (h' : Ty H0 M ps tb (Iv M y')) (hr : ∀ H (Q : VK), Q z H → r [y, y'] H Q) : Ty H0 M ps (tCB r (tCons ta (tCons tb tNil))) (Iv M z) :=
  ty_cb (ta_cons h (ta_cons h' ta_nil)) fun H vs Q g p q => by
    cases p with
    | cons r1 t1 => cases t1 with
      | cons r2 t2 =>
        cases t2
        have e : _ = y := r1
        have e2 : _ = y' := r2
        rw [e, e2]
        exact hr H Q (q z H (Ex.refl H) rfl)
/-- an item of a list or a tuple -/
theorem ix_at {α : Type} {l : List α} {i : Int} {j : Nat} {x : α} (e : i = (j : Int)) (h : l[j]? = some x) : atI l i = some x := by
  subst e
  exact atI_nat h
theorem ty_ixT {β : Type} {P : β → VP} [∀ b, Mn (P b)] {l : List β} {i : Int} (j : Nat) (c : β) (R' : SV M) (h : Ty H0 M ps ta R) (hR : ∀ H v, R.R H v → TO' K P l (fun a => ¬ M a) H v) (hi : Ty H0 M ps tb (Iv M (.int i))) (e : i = (j : Int)) (hc : l[j]? = some c)
    (h' : ∀ H v, P c (fun a => ¬ M a) H v → R'.R H v) : Ty H0 M ps (tOp (rIx K) ta tb) R' := fun σ H g t Q q =>
  h σ H g t _ fun v H2 e2 r => hi σ H2 (g.up e2) (t.up e2) _ fun y H3 e3 r3 => by
    obtain ⟨a, vs, rfl, hs, p⟩ := hR _ _ (R.st (.ofEx e3) r)
    obtain ⟨x, hx, px⟩ := pr_get p hc
    exact .inr (.inl ⟨a, vs, i, x, rfl, r3, hs, ix_at e hx, q x H3 (e2.trans e3) (h' _ _ px)⟩)
theorem ty_ixL {β : Type} {P : β → VP} [∀ b, Mn (P b)] {l : List β} {i : Int} (j : Nat) (c : β) (R' : SV M) (h : Ty H0 M ps ta R) (hR : ∀ H v, R.R H v → LO P l (fun a => ¬ M a) H v) (hi : Ty H0 M ps tb (Iv M (.int i))) (e : i = (j : Int)) (hc : l[j]? = some c)
    (h' : ∀ H v, P c (fun a => ¬ M a) H v → R'.R H v) : Ty H0 M ps (tOp (rIx K) ta tb) R' := fun σ H g t Q q =>
  h σ H g t _ fun v H2 e2 r => hi σ H2 (g.up e2) (t.up e2) _ fun y H3 e3 r3 => by
    obtain ⟨a, vs, rfl, _, hs, p⟩ := hR _ _ (R.st (.ofEx e3) r)
    obtain ⟨x, hx, px⟩ := pr_get p hc
    exact .inl ⟨a, vs, i, x, rfl, r3, SqL.of hs, ix_at e hx, q x H3 (e2.trans e3) (h' _ _ px)⟩
/-- numerator and denominator -/
theorem ty_num (h : Ty H0 M ps ta (Qs M K r)) (hi : Ty H0 M ps tb (Iv M (.int 0))) : Ty H0 M ps (tOp (rIx K) ta tb) (Iv M (.int r.num)) := fun σ H g t Q q =>
  h σ H g t _ fun v H2 e2 r2 => hi σ H2 (g.up e2) (t.up e2) _ fun y H3 e3 r3 => by
    obtain ⟨a, rfl, hs⟩ := (Qs M K r).st (.ofEx e3) r2
    exact .inr (.inl ⟨a, _, 0, _, rfl, r3, hs, ix_at (j := 0) rfl rfl, q _ H3 (e2.trans e3) rfl⟩)
theorem ty_den (h : Ty H0 M ps ta (Qs M K r)) (hi : Ty H0 M ps tb (Iv M (.int 1))) : Ty H0 M ps (tOp (rIx K) ta tb) (Iv M (.int (r.den : Int))) := fun σ H g t Q q =>
  h σ H g t _ fun v H2 e2 r2 => hi σ H2 (g.up e2) (t.up e2) _ fun y H3 e3 r3 => by
    obtain ⟨a, rfl, hs⟩ := (Qs M K r).st (.ofEx e3) r2
    exact .inr (.inl ⟨a, _, 1, _, rfl, r3, hs, ix_at (j := 1) rfl rfl, q _ H3 (e2.trans e3) rfl⟩)
theorem ty_num0 (h : Ty H0 M ps ta (Qs M K r)) : Ty H0 M ps (tOp (rIx K) ta (tC (.int 0))) (Iv M (.int r.num)) := ty_num h ty_c
theorem ty_den1 (h : Ty H0 M ps ta (Qs M K r)) : Ty H0 M ps (tOp (rIx K) ta (tC (.int 1))) (Iv M (.int (r.den : Int))) := ty_den h ty_c
/-- a pair of ints that is a rational -/
theorem ty_pair {n d : Int} (h : Ty H0 M ps ta (Iv M (.int n))) (h' : Ty H0 M ps tb (Iv M (.int d))) (e1 : n = r.num) (e2 : d = (r.den : Int)) : Ty H0 M ps (tTup (tCons ta (tCons tb tNil))) (Qs M K r) := fun σ H g t Q q =>
  (ta_cons h (ta_cons h' ta_nil)) σ H g t _ fun vs H2 e p => by
    subst e1
    subst e2
    cases p with
    | cons r1 t1 => cases t1 with
      | cons r2 t2 =>
        cases t2
        have e : _ = V.int r.num := r1
        have e' : _ = V.int (r.den : Int) := r2
        rw [e, e']
        exact ⟨by show 2 ≤ sizeLine; decide, fun p hp => q _ _ (‹Ex H H2›.trans (Ex.new hp)) ⟨p, rfl, SqT.of upd_same⟩⟩
theorem wip_cons {R : SV M} {v : V} {ps : List (Option (SV M))} {σ : L2.St} (h : R.R H v) (t : Tsl ps σ H) : Tsl (some R :: ps) (some v :: σ) H := ⟨⟨v, rfl, h⟩, t⟩
theorem non_cons {o : Option V} {ps : List (Option (SV M))} {σ : L2.St} (t : Tsl ps σ H) : Tsl (none :: ps) (o :: σ) H := ⟨trivial, t⟩
theorem nil_ts : Tsl (M := M) [] [] H := trivial
end
/-! ### sizes -/
def Sm (q : Rat) : Prop := q.num.natAbs < 2 ^ 20000 ∧ q.den < 2 ^ 4400
theorem gcd_mod (a b : Nat) (h : b ≠ 0) : Nat.gcd b (a % b) = Nat.gcd a b := by
  rw [Nat.gcd_comm a b, Nat.gcd_rec b a, Nat.gcd_comm]
abbrev PI2 : Int × Int → VP := fun i => IV (.int i.2)
abbrev PI1 : Int × Int → VP := fun i => IV (.int i.1)
abbrev spGcd : Sp := Sp2 PI1 PI2 (fun _ => True) (fun i => IV (.int ((Nat.gcd i.1.natAbs i.2.natAbs : Nat) : Int)))
section
variable {P : Program} {w : World} {K : PySem.W.Frag} {mg : Str → Option Value} {base : Heap}
theorem abs_nat (i : Int) : (if i < 0 then -i else i) = (i.natAbs : Int) := by split <;> omega
theorem has_common_divisor (T : Tx K mg) : Has P w K mg base 1 "common_divisor" ["one", "other"] spGcd := by
  refine has2 T.d_common_divisor sc_common_divisor (fun _ _ _ _ _ _ us hl => match us, hl with | [_, _], _ => rfl) fun f cdv A outer s H E hr => ⟨_,
    (pss_cons (ps_par (i := 0) (j := 1) (by rfl) sc_common_divisor.nd rfl rfl (by decide) rfl rfl (pa_cons (pe_callB call_abs (by rfl) T.b_abs (by decide +kernel) (pa_cons (pv 0) pa_nil)) (pa_cons (pe_callB call_abs (by rfl) T.b_abs (by decide +kernel) (pa_cons (pv 1) pa_nil)) pa_nil)) (by rfl))
      (pss_cons (ps_while PassesOwn.never (pt_cmpR op_ne (pv 1) pe_int (nomark _)) (pss_one (ps_par (i := 0) (j := 1) (by rfl) sc_common_divisor.nd rfl rfl (by decide) rfl rfl (pa_cons (pv 1) (pa_cons (pe_op op_mod (pv 0) (pv 1)) pa_nil)) (by rfl))))
      (pss_one (ps_ret (pv 0))))), ?_⟩
  rintro ⟨i, j⟩ v1 v2 Q h1 h2 - ret
  have h1 : v1 = .int i := h1
  have h2 : v2 = .int j := h2
  subst h1 h2
  have g : Good H NoM H := .start H
  have ts : Tsl [some (Iv NoM (.int i)), some (Iv NoM (.int j))] (start ["one", "other"] [.int i, .int j]) H := wip_cons rfl (wip_cons rfl nil_ts)
  refine st_par g ts (ta_cons (ty_cb1 (ty_var rfl) fun H Q q => ⟨i, rfl, q⟩) (ta_cons (ty_cb1 (ty_var rfl) fun H Q q => ⟨j, rfl, q⟩) ta_nil)) fun σ1 H1 e1 g1 t1 => ?_
  rw [abs_nat, abs_nat] at t1
  refine q_while (fun m σ' H' => ∃ a b : Nat, Good H NoM H' ∧ Tsl [some (Iv NoM (.int a)), some (Iv NoM (.int b))] σ' H' ∧ Nat.gcd a b = Nat.gcd i.natAbs j.natAbs ∧ m = b) j.natAbs ⟨i.natAbs, j.natAbs, g1, t1, rfl, rfl⟩ ?_
  rintro m σ' H' ⟨a, b, g2, t2, hg, hm⟩
  subst hm
  refine ⟨decide (m ≠ 0), fun H2 e2 Q2 q2 => tt_is (tt_test (ty_neI (ty_var (i := 1) rfl) ty_c rfl)) ?_ σ' H2 (g2.up e2) (t2.up e2) Q2 q2, fun hb H2 e2 => ?_, fun hb H2 e2 => ?_⟩
  · rw [dec_int]; by_cases h : m = 0 <;> simp [h]
  · have hb : m ≠ 0 := of_decide_eq_true hb
    refine ⟨fun σ3 H3 => ∃ m', m' < m ∧ ∃ a b : Nat, Good H NoM H3 ∧ Tsl [some (Iv NoM (.int a)), some (Iv NoM (.int b))] σ3 H3 ∧ Nat.gcd a b = Nat.gcd i.natAbs j.natAbs ∧ m' = b, fun _ _ z => z, ?_⟩
    refine st_par1 (g2.up e2) (t2.up e2) (ta_cons (ty_var (i := 1) rfl) (ta_cons (ty_i (ty_var (i := 0) rfl) (ty_var (i := 1) rfl) (show (0:Int) < (m : Int) by omega)) ta_nil)) fun σ3 H3 e3 g3 t3 => ?_
    exact ⟨a % m, Nat.mod_lt _ (by omega), m, a % m, g3, t3, by rw [gcd_mod a m hb]; exact hg, rfl⟩
  · have hb : m = 0 := by simpa using hb
    subst hb
    refine st_ret (g2.up e2) (t2.up e2) (ty_var (i := 0) rfl) fun v H3 e3 r => ?_
    refine ret v H3 ((g2.up e2).up e3).ex0 ?_
    rw [show v = V.int (a : Int) from r]
    have : Nat.gcd a 0 = a := Nat.gcd_zero_right a
    show V.int (a : Int) = V.int ((Nat.gcd i.natAbs j.natAbs : Nat) : Int)
    rw [← hg, this]
end
end My
end
section
set_option Elab.async false
set_option linter.all false
set_option maxRecDepth 100000
set_option maxHeartbeats 2000000
namespace My
open PySem PySem.Spec PyProof.Rows L2 Evl
local macro_rules | `(tactic| walk_at "ty") => `(tactic| repeat' (first | exact ty_c | exact ty_var rfl | apply ty_num0 | apply ty_den1 | apply ty_i0 | apply ty_i | apply ty_un | apply ty_pair))
theorem if_raise {b : Bool} {p : Prop} (h : b = false) (h1 : b = true) : p := by rw [h] at h1; cases h1
section
variable {P : Program} {w : World} {K : PySem.W.Frag} {mg : Str → Option Value} {base : Heap}
theorem log2_lt_pow {n k : Nat} (h : n < 2 ^ k) (h0 : 0 < k) : n.log2 < k := PySem.Flt.log2_lt_of h0 h
theorem ty_gcd {M : Addr → Prop} {H0 : Hp} {ps : List (Option (SV M))} {ta tb : TE} {E : XK} {i j : Int} (h1 : Ty H0 M ps ta (Iv M (.int i))) (h2 : Ty H0 M ps tb (Iv M (.int j))) :
    Ty H0 M ps (tCall spGcd [] E (tCons ta (tCons tb tNil))) (Iv M (.int ((Nat.gcd i.natAbs j.natAbs : Nat) : Int))) :=
  ty_conv (ty_call2 (ι := Int × Int) (i, j) h1 h2 (fun _ _ h => h) (fun _ _ h => h) trivial) fun _ _ h => h
abbrev spLow (K : PySem.W.Frag) : Sp := Sp2 (ι := Int × Nat) (fun i => IV (.int i.1)) (fun i => IV (.int (i.2 : Int))) (fun i => i.2 ≠ 0 ∧ i.2 < 2 ^ 8900) (fun i => IQ K (mkRat i.1 i.2))
theorem has_lowest (T : Tx K mg) : Has P w K mg base 2 "lowest" ["numerator", "denominator"] (spLow K) := by
  have h_common_divisor := has_common_divisor (P := P) (w := w) (base := base) T
  refine has2 T.d_lowest sc_lowest (fun _ _ _ _ _ _ us hl => match us, hl with | [_, _], _ => rfl) fun f cdv A outer s H E hr => ⟨_,
    (pss_cons (ps_if (pt_cmpR op_eq (pv 1) pe_int (nomark _)) (pss_one ps_never) pss_nil)
      (pss_cons (ps_set (i := 2) sc_lowest.nd rfl (Or.inl rfl) (pe_has h_common_divisor (hr.mono (by decide)) (pa_cons (pv 0) (pa_cons (pv 1) pa_nil))))
      (pss_cons (ps_if (pt_cmpR op_lt (pv 1) pe_int (nomark _)) (pss_one (ps_set (i := 2) sc_lowest.nd rfl (Or.inl rfl) (pe_un un_neg (pv 2)))) pss_nil)
      (pss_one (ps_ret (pe_tup (pa_cons (pe_op op_fdivW (pv 0) (pv 2)) (pa_cons (pe_op op_fdivW (pv 1) (pv 2)) pa_nil)))))))), ?_⟩
  rintro ⟨n, d⟩ v1 v2 Q h1 h2 ⟨h0, hd⟩ ret
  have g : Good H NoM H := .start H
  have ts : Tsl [some (Iv NoM (.int n)), some (Iv NoM (.int (d : Int))), none] (start ["numerator", "denominator", "shared"] [v1, v2]) H := wip_cons h1 (wip_cons h2 (non_cons nil_ts))
  refine st_when g ts (tt_test (ty_eqI (ty_var rfl) ty_c rfl)) (fun hb => ?_) fun _ H1 e1 g1 t1 => ?_
  · rw [dec_int] at hb; exact absurd (by simpa using hb) h0
  refine st_set (Iv NoM (.int ((Nat.gcd n.natAbs d : Nat) : Int))) g1 t1 (ty_int (ty_gcd (ty_var (i := 0) rfl) (ty_var (i := 1) rfl)) rfl) fun σ2 H2 e2 g2 t2 => ?_
  refine st_when g2 t2 (tt_test (ty_i0 (ty_var (i := 1) rfl) ty_c)) (fun hb => ?_) fun _ H3 e3 g3 t3 => ?_
  · exact absurd (of_decide_eq_true hb) (by show ¬ (d : Int) < 0; omega)
  have hg0 : 0 < Nat.gcd n.natAbs d := Nat.gcd_pos_of_pos_right _ (by omega)
  have hg1 : Nat.gcd n.natAbs d ≤ d := Nat.le_of_dvd (by omega) (Nat.gcd_dvd_right _ _)
  have hw : CDivW n ((Nat.gcd n.natAbs d : Nat) : Int) := wide_div (b := 8900) (by omega) (by rw [Int.natAbs_natCast]; exact Nat.lt_of_le_of_lt hg1 hd) (by decide) (by decide)
  have hw2 : CDivW (d : Int) ((Nat.gcd n.natAbs d : Nat) : Int) := hw
  refine st_ret (R := Qs NoM K (mkRat n d)) g3 t3 ?_ fun v H' e r => ?_
  · show Ty _ _ _ _ _
    walk_at "ty"
    · exact hw
    · exact hw2
    · rw [Rat.num_mkRat, if_neg h0, Nat.gcd_comm]
    · rw [Rat.den_mkRat, if_neg h0, Nat.gcd_comm]; rfl
  · exact ret v H' ((e1.trans e2).trans (e3.trans e)) r
end
end My
end
section
set_option Elab.async false
set_option linter.all false
set_option maxRecDepth 100000
set_option maxHeartbeats 2000000
namespace My
open PySem PySem.Spec PyProof.Rows L2 Evl
local macro_rules | `(tactic| walk_at "ty") => `(tactic| repeat' (first | exact ty_c | exact ty_var rfl | apply ty_num0 | apply ty_den1 | apply ty_i0 | apply ty_i | apply ty_un | apply ty_pair))
section
variable {M : Addr → Prop} {H0 : Hp} {K : PySem.W.Frag} {ps : List (Option (SV M))} {ta tb : TE} {E : XK} {q r : Rat}
theorem ty_low {n : Int} {d : Nat} (h1 : Ty H0 M ps ta (Iv M (.int n))) (h2 : Ty H0 M ps tb (Iv M (.int (d : Int)))) (h0 : d ≠ 0) (h : d < 2 ^ 8900) : Ty H0 M ps (tCall (spLow K) [] E (tCons ta (tCons tb tNil))) (Qs M K (mkRat n d)) := by
  exact ty_conv (ty_call2 (ι := Int × Nat) (n, d) h1 h2 (fun _ _ h => h) (fun _ _ h => h) ⟨h0, h⟩) fun _ _ h => h
theorem ty_q (h : Ty H0 M ps ta (Qs M K q)) (e : q = r) : Ty H0 M ps ta (Qs M K r) := e ▸ h
theorem tyx_tup {H : Hp} {a : Addr} {xs : List V} (h : SqT K H a xs) : TyX K H (.ref a) (.type "tuple") := by
  rcases h with (h | ⟨o, h⟩) | ⟨o, its, n, h, hc, _⟩
  · exact .base (.tup h)
  · exact .fTuple h
  · exact .kTuple h hc
theorem sm_mul {q r : Rat} (hq : Sm q) (hr : Sm r) : CMulW q.num r.num ∧ CMulW q.num (r.den : Int) ∧ CMulW (r.den : Int) q.num ∧ CMulW (q.den : Int) (r.den : Int) ∧ q.den * r.den ≠ 0 ∧ q.den * r.den < 2 ^ 8900 := by
  have h1 : (q.den : Int).natAbs < 2 ^ 4400 := by rw [Int.natAbs_natCast]; exact hq.2
  have h2 : (r.den : Int).natAbs < 2 ^ 4400 := by rw [Int.natAbs_natCast]; exact hr.2
  refine ⟨wide_mul hq.1 hr.1 (by decide) (by decide) (by decide), wide_mul hq.1 h2 (by decide) (by decide) (by decide), wide_mul h2 hq.1 (by decide) (by decide) (by decide), wide_mul h1 h2 (by decide) (by decide) (by decide), Nat.mul_ne_zero q.den_nz r.den_nz, ?_⟩
  have e : (2 : Nat) ^ 4400 * 2 ^ 4400 ≤ 2 ^ 8900 := by rw [← Nat.pow_add]; exact Nat.pow_le_pow_right (by decide) (by decide)
  exact Nat.lt_of_lt_of_le (Nat.mul_lt_mul'' hq.2 hr.2) e
end
section
variable {P : Program} {w : World} {K : PySem.W.Frag} {mg : Str → Option Value} {base : Heap}
abbrev spQ2 (K : PySem.W.Frag) (f : Rat → Rat → Rat) : Sp := Sp2 (ι := Rat × Rat) (fun i => IQ K i.1) (fun i => IQ K i.2) (fun i => Sm i.1 ∧ Sm i.2) (fun i => IQ K (f i.1 i.2))
abbrev spPlus (K : PySem.W.Frag) : Sp := spQ2 K fun q r => q + r
abbrev spTimes (K : PySem.W.Frag) : Sp := spQ2 K fun q r => q * r
abbrev spMinus (K : PySem.W.Frag) : Sp := spQ2 K fun q r => q + -r
abbrev spNeg (K : PySem.W.Frag) : Sp := Sp1 (ι := Rat) (fun i => IQ K i) (fun _ => True) (fun i => IQ K (-i))
theorem has_plus (T : Tx K mg) : Has P w K mg base 3 "plus" ["one", "other"] (spPlus K) := by
  have h_lowest := has_lowest (P := P) (w := w) (base := base) T
  refine has2 T.d_plus sc_plus (fun _ _ _ _ _ _ us hl => match us, hl with | [_, _], _ => rfl) fun f cdv A outer s H E hr => ⟨_,
    (pss_one (ps_ret (pe_has h_lowest (hr.mono (by decide)) (pa_cons (pe_op op_add (pe_op op_mulW (pe_ix (ix_seqK (K := K)) (pv 0) pe_int (fun _ _ => rfl)) (pe_ix (ix_seqK (K := K)) (pv 1) pe_int (fun _ _ => rfl))) (pe_op op_mulW (pe_ix (ix_seqK (K := K)) (pv 1) pe_int (fun _ _ => rfl)) (pe_ix (ix_seqK (K := K)) (pv 0) pe_int (fun _ _ => rfl)))) (pa_cons (pe_op op_mulW (pe_ix (ix_seqK (K := K)) (pv 0) pe_int (fun _ _ => rfl)) (pe_ix (ix_seqK (K := K)) (pv 1) pe_int (fun _ _ => rfl))) pa_nil))))), ?_⟩
  rintro ⟨q, r⟩ v1 v2 Q h1 h2 ⟨hq, hr'⟩ ret
  have g : Good H NoM H := .start H
  have ts : Tsl [some (Qs NoM K q), some (Qs NoM K r)] (start ["one", "other"] [v1, v2]) H := wip_cons h1 (wip_cons h2 nil_ts)
  have hm := sm_mul hq hr'
  have hm' := sm_mul hr' hq
  refine st_ret (R := Qs NoM K (q + r)) g ts ?_ fun v H' e x => ?_
  · refine ty_q (ty_low ?_ ?_ (d := q.den * r.den) hm.2.2.2.2.1 hm.2.2.2.2.2) (Rat.add_def' q r).symm
    · walk_at "ty"
      · exact hm.2.1
      · exact hm'.2.1
    · apply ty_int
      · walk_at "ty"
        exact hm.2.2.2.1
      · rfl
  · exact ret v H' e x
theorem has_times (T : Tx K mg) : Has P w K mg base 3 "times" ["one", "other"] (spTimes K) := by
  have h_lowest := has_lowest (P := P) (w := w) (base := base) T
  refine has2 T.d_times sc_times (fun _ _ _ _ _ _ us hl => match us, hl with | [_, _], _ => rfl) fun f cdv A outer s H E hr => ⟨_,
    (pss_one (ps_ret (pe_has h_lowest (hr.mono (by decide)) (pa_cons (pe_op op_mulW (pe_ix (ix_seqK (K := K)) (pv 0) pe_int (fun _ _ => rfl)) (pe_ix (ix_seqK (K := K)) (pv 1) pe_int (fun _ _ => rfl))) (pa_cons (pe_op op_mulW (pe_ix (ix_seqK (K := K)) (pv 0) pe_int (fun _ _ => rfl)) (pe_ix (ix_seqK (K := K)) (pv 1) pe_int (fun _ _ => rfl))) pa_nil))))), ?_⟩
  rintro ⟨q, r⟩ v1 v2 Q h1 h2 ⟨hq, hr'⟩ ret
  have g : Good H NoM H := .start H
  have ts : Tsl [some (Qs NoM K q), some (Qs NoM K r)] (start ["one", "other"] [v1, v2]) H := wip_cons h1 (wip_cons h2 nil_ts)
  have hm := sm_mul hq hr'
  refine st_ret (R := Qs NoM K (q * r)) g ts ?_ fun v H' e x => ?_
  · refine ty_q (ty_low ?_ ?_ (d := q.den * r.den) hm.2.2.2.2.1 hm.2.2.2.2.2) (Rat.mul_def' q r).symm
    · walk_at "ty"
      exact hm.1
    · apply ty_int
      · walk_at "ty"
        exact hm.2.2.2.1
      · rfl
  · exact ret v H' e x
theorem has_negative (T : Tx K mg) : Has P w K mg base 1 "negative" ["one"] (spNeg K) := by
  refine has1 T.d_negative sc_negative (fun _ _ _ _ _ _ us hl => match us, hl with | [_], _ => rfl) fun f cdv A outer s H E hr => ⟨_,
    (pss_one (ps_ret (pe_tup (pa_cons (pe_un un_neg (pe_ix (ix_seqK (K := K)) (pv 0) pe_int (fun _ _ => rfl))) (pa_cons (pe_ix (ix_seqK (K := K)) (pv 0) pe_int (fun _ _ => rfl)) pa_nil))))), ?_⟩
  intro q v1 Q h1 _ ret
  have g : Good H NoM H := .start H
  have ts : Tsl [some (Qs NoM K q)] (start ["one"] [v1]) H := wip_cons h1 nil_ts
  refine st_ret (R := Qs NoM K (-q)) g ts ?_ fun v H' e x => ret v H' e x
  walk_at "ty"
  · rfl
  · rfl
end
section
variable {M : Addr → Prop} {H0 : Hp} {K : PySem.W.Frag} {ps : List (Option (SV M))} {ta tb : TE} {E : XK} {q r : Rat}
theorem ty_plus (h1 : Ty H0 M ps ta (Qs M K q)) (h2 : Ty H0 M ps tb (Qs M K r)) (s1 : Sm q) (s2 : Sm r) : Ty H0 M ps (tCall (spPlus K) [] E (tCons ta (tCons tb tNil))) (Qs M K (q + r)) :=
  ty_conv (ty_call2 (ι := Rat × Rat) (q, r) h1 h2 (fun _ _ h => h) (fun _ _ h => h) ⟨s1, s2⟩) fun _ _ h => h
theorem ty_times (h1 : Ty H0 M ps ta (Qs M K q)) (h2 : Ty H0 M ps tb (Qs M K r)) (s1 : Sm q) (s2 : Sm r) : Ty H0 M ps (tCall (spTimes K) [] E (tCons ta (tCons tb tNil))) (Qs M K (q * r)) :=
  ty_conv (ty_call2 (ι := Rat × Rat) (q, r) h1 h2 (fun _ _ h => h) (fun _ _ h => h) ⟨s1, s2⟩) fun _ _ h => h
theorem ty_minus (h1 : Ty H0 M ps ta (Qs M K q)) (h2 : Ty H0 M ps tb (Qs M K r)) (s1 : Sm q) (s2 : Sm r) : Ty H0 M ps (tCall (spMinus K) [] E (tCons ta (tCons tb tNil))) (Qs M K (q + -r)) :=
  ty_conv (ty_call2 (ι := Rat × Rat) (q, r) h1 h2 (fun _ _ h => h) (fun _ _ h => h) ⟨s1, s2⟩) fun _ _ h => h
theorem ty_neg (h1 : Ty H0 M ps ta (Qs M K q)) : Ty H0 M ps (tCall (spNeg K) [] E (tCons ta tNil)) (Qs M K (-q)) :=
  ty_conv (ty_call1 (ι := Rat) q h1 (fun _ _ h => h) trivial) fun _ _ h => h
theorem Sm.neg (h : Sm q) : Sm (-q) := ⟨by rw [Rat.neg_num, Int.natAbs_neg]; exact h.1, h.2⟩
end
section
variable {P : Program} {w : World} {K : PySem.W.Frag} {mg : Str → Option Value} {base : Heap}
theorem has_minus (T : Tx K mg) : Has P w K mg base 4 "minus" ["one", "other"] (spMinus K) := by
  have h_plus := has_plus (P := P) (w := w) (base := base) T
  have h_negative := has_negative (P := P) (w := w) (base := base) T
  refine has2 T.d_minus sc_minus (fun _ _ _ _ _ _ us hl => match us, hl with | [_, _], _ => rfl) fun f cdv A outer s H E hr => ⟨_,
    (pss_one (ps_ret (pe_has h_plus (hr.mono (by decide)) (pa_cons (pv 0) (pa_cons (pe_has h_negative (hr.mono (by decide)) (pa_cons (pv 1) pa_nil)) pa_nil))))), ?_⟩
  rintro ⟨q, r⟩ v1 v2 Q h1 h2 ⟨hq, hr'⟩ ret
  have g : Good H NoM H := .start H
  have ts : Tsl [some (Qs NoM K q), some (Qs NoM K r)] (start ["one", "other"] [v1, v2]) H := wip_cons h1 (wip_cons h2 nil_ts)
  exact st_ret (R := Qs NoM K (q + -r)) g ts (ty_plus (ty_var rfl) (ty_neg (ty_var rfl)) hq hr'.neg) fun v H' e x => ret v H' e x
/-- the divisor k / 1 -/
abbrev spOver (K : PySem.W.Frag) : Sp := Sp2 (ι := Rat × Nat) (fun i => IQ K i.1) (fun i => IQ K ((i.2 : Nat) : Rat)) (fun i => Sm i.1 ∧ i.2 ≠ 0 ∧ i.2 < 2 ^ 4400) (fun i => IQ K (i.1 / ((i.2 : Nat) : Rat)))
theorem div_nat (q : Rat) (k : Nat) (h : k ≠ 0) : mkRat (q.num * 1) (q.den * k) = q / ((k : Nat) : Rat) := by
  have e : q / ((k : Nat) : Rat) = mkRat q.num q.den * mkRat 1 k := by
    rw [Rat.mkRat_self, Rat.div_def]
    congr 1
    rw [Rat.mkRat_eq_div]
    have hk : ((k : Nat) : Rat) ≠ 0 := fun z => h (Rat.natCast_eq_zero_iff.mp z)
    exact (Rat.inv_eq_of_mul_eq_one (by rw [Rat.mul_comm]; exact Rat.div_mul_cancel hk))
  rw [e, Rat.mkRat_mul_mkRat]
theorem has_over (T : Tx K mg) : Has P w K mg base 3 "over" ["one", "other"] (spOver K) := by
  have h_lowest := has_lowest (P := P) (w := w) (base := base) T
  refine has2 T.d_over sc_over (fun _ _ _ _ _ _ us hl => match us, hl with | [_, _], _ => rfl) fun f cdv A outer s H E hr => ⟨_,
    (pss_one (ps_ret (pe_has h_lowest (hr.mono (by decide)) (pa_cons (pe_op op_mulW (pe_ix (ix_seqK (K := K)) (pv 0) pe_int (fun _ _ => rfl)) (pe_ix (ix_seqK (K := K)) (pv 1) pe_int (fun _ _ => rfl))) (pa_cons (pe_op op_mulW (pe_ix (ix_seqK (K := K)) (pv 0) pe_int (fun _ _ => rfl)) (pe_ix (ix_seqK (K := K)) (pv 1) pe_int (fun _ _ => rfl))) pa_nil))))), ?_⟩
  rintro ⟨q, k⟩ v1 v2 Q h1 h2 ⟨hq, h0, hk⟩ ret
  have g : Good H NoM H := .start H
  have ts : Tsl [some (Qs NoM K q), some (Qs NoM K ((k : Nat) : Rat))] (start ["one", "other"] [v1, v2]) H := wip_cons h1 (wip_cons h2 nil_ts)
  have hm : q.den * k < 2 ^ 8900 := by
    have e : (2 : Nat) ^ 4400 * 2 ^ 4400 ≤ 2 ^ 8900 := by rw [← Nat.pow_add]; exact Nat.pow_le_pow_right (by decide) (by decide)
    exact Nat.lt_of_lt_of_le (Nat.mul_lt_mul'' hq.2 hk) e
  refine st_ret (R := Qs NoM K (q / ((k : Nat) : Rat))) g ts ?_ fun v H' e x => ?_
  · refine ty_q (ty_low ?_ ?_ (d := q.den * k) (Nat.mul_ne_zero q.den_nz h0) hm) (div_nat q k h0)
    · apply ty_int
      · walk_at "ty"
        exact wide_mul (j := ((((k : Nat) : Rat).den : Nat) : Int)) (b := 1) hq.1 (show (1 : Nat) < 2 ^ 1 by decide) (by decide) (by decide) (by decide)
      · rfl
    · apply ty_int
      · walk_at "ty"
        refine wide_mul (a := 4400) (b := 4400) ?_ ?_ (by decide) (by decide) (by decide)
        · rw [Int.natAbs_natCast]; exact hq.2
        · show (k : Int).natAbs < _; rw [Int.natAbs_natCast]; exact hk
      · rfl
  · exact ret v H' e x
theorem has_number (T : Tx K mg) : Has P w K mg base 3 "number" ["value"] (Sp1 (ι := Rat) (fun i => IQ K i) (fun i => Sm i) (fun i => IQ K i)) := by
  have h_lowest := has_lowest (P := P) (w := w) (base := base) T
  refine has1 T.d_number sc_number (fun _ _ _ _ _ _ us hl => match us, hl with | [_], _ => rfl) fun f cdv A outer s H E hr => ⟨_,
    (pss_one (ps_ret (pe_ifExp (pt_val (pe_callB (isiK (K := K)) (by rfl) T.b_isinstance (by decide +kernel) (pa_cons (pv 0) (pa_cons (pe_bltn (v := .ty "tuple") (by rfl) T.b_tuple (by decide +kernel) rfl) pa_nil)))) (pe_has h_lowest (hr.mono (by decide)) (pa_cons (pe_ix (ix_seqK (K := K)) (pv 0) pe_int (fun _ _ => rfl)) (pa_cons (pe_ix (ix_seqK (K := K)) (pv 0) pe_int (fun _ _ => rfl)) pa_nil))) (pe_tup (pa_cons (pv 0) (pa_cons pe_int pa_nil)))))), ?_⟩
  intro q v1 Q h1 hq ret
  have g : Good H NoM H := .start H
  have ts : Tsl [some (Qs NoM K q)] (start ["value"] [v1]) H := wip_cons h1 nil_ts
  have hd : q.den < 2 ^ 8900 := Nat.lt_of_lt_of_le hq.2 (Nat.pow_le_pow_right (by decide) (by decide))
  refine st_ret (R := Qs NoM K q) g ts ?_ fun v H' e x => ret v H' e x
  refine ty_if (b := true) (tt_B (ty_cb (R := Iv NoM (.bl true)) (ta_cons (ty_var (R := Qs NoM K q) rfl) (ta_cons ty_c ta_nil)) fun H vs Q g p k => ?_)) (fun _ => ?_) fun z => by cases z
  · cases p with
    | cons r1 t1 => cases t1 with
      | cons r2 t2 =>
        cases t2
        obtain ⟨a, rfl, hs⟩ := r1
        have r2 : _ = V.ty "tuple" := r2
        subst r2
        exact ⟨_, _, _, _, true, rfl, .ty "tuple", tyx_tup hs, kit_ty (by decide +kernel), k _ H (Ex.refl H) rfl⟩
  · refine ty_q (ty_low ?_ ?_ (d := q.den) q.den_nz hd) (Rat.mkRat_self q)
    · walk_at "ty"
    · walk_at "ty"
end
end My
end
section
set_option Elab.async false
set_option linter.all false
set_option maxRecDepth 100000
set_option maxHeartbeats 2000000
namespace My
open PySem PySem.Spec PyProof.Rows L2 Evl
section
variable {M : Addr → Prop} {H0 : Hp} {K : PySem.W.Frag} {ps : List (Option (SV M))} {ta tb te : TE} {E : XK} {q r : Rat} {R R' : SV M} {β : Type} {Pb : β → VP} {l l' : List β}
theorem fr_an {W : VP} [Mn W] {H : Hp} {v : V} (h : (Fr M H0 W).R H v) : W (fun a => ¬ M a) H v := Mn.mono (fun _ q => q.1) h
theorem fr_tr {W : VP} [Mn W] {H : Hp} {v : V} (h : (Fr M H0 W).R H v) : W Tr H v := Mn.any h
theorem an_tr {W : VP} [Mn W] {H : Hp} {v : V} (h : (An M W).R H v) : W Tr H v := Mn.any h
theorem sz5 {n : Nat} (h : n ≤ 100000) : n ≤ sizeLine := sz_of h
/-- a new list of typed items -/
theorem ty_lst {t : TA} {Rs : List (SV M)} (h : TyA H0 M ps t Rs) (hl : Rs.length ≤ 100000) (hc : ∀ H vs, Paired (fun (R : SV M) v => R.R H v) Rs vs → Paired (fun b x => Pb b (fun a => ¬ M a ∧ H0 a = none) H x) l vs) [∀ b, Mn (Pb b)] : Ty H0 M ps (tLst t) (Fr M H0 (LO Pb l)) := fun σ H g ts Q q =>
  h σ H g ts _ fun vs H2 e p => ⟨by rw [← pr_len p]; exact sz5 hl, fun a ha => q _ _ (e.trans (Ex.new ha)) ⟨a, vs, rfl, (g.up e).fresh ha, upd_same, Paired.mapR (hc _ _ p) fun b x k => Mn.ex (Ex.new ha) k⟩⟩
theorem ty_tupl {t : TA} {Rs : List (SV M)} (h : TyA H0 M ps t Rs) (hl : Rs.length ≤ 100000) (hc : ∀ H vs, Paired (fun (R : SV M) v => R.R H v) Rs vs → Paired (fun b x => Pb b (fun a => ¬ M a) H x) l vs) [∀ b, Mn (Pb b)] : Ty H0 M ps (tTup t) (An M (TO' K Pb l)) := fun σ H g ts Q q =>
  h σ H g ts _ fun vs H2 e p => ⟨by rw [← pr_len p]; exact sz5 hl, fun a ha => q _ _ (e.trans (Ex.new ha)) ⟨a, vs, rfl, SqT.of upd_same, Paired.mapR (hc _ _ p) fun b x k => Mn.ex (Ex.new ha) k⟩⟩
theorem ty_lst1 [∀ b, Mn (Pb b)] {b : β} (h : Ty H0 M ps te R) (hc : ∀ H v, R.R H v → Pb b (fun a => ¬ M a ∧ H0 a = none) H v) : Ty H0 M ps (tLst (tCons te tNil)) (Fr M H0 (LO Pb [b])) :=
  ty_lst (ta_cons h ta_nil) (by show 1 ≤ 100000; decide) fun H vs p => by
    cases p with
    | cons r t => cases t; exact .cons (hc _ _ r) .nil
theorem ty_nil [∀ b, Mn (Pb b)] : Ty H0 M ps (tLst tNil) (Fr M H0 (LO Pb ([] : List β))) := ty_lst ta_nil (by show 0 ≤ 100000; decide) fun H vs p => by cases p; exact .nil
/-- xs + ys -/
theorem ty_cat [∀ b, Mn (Pb b)] (ha : Ty H0 M ps ta (Fr M H0 (LO Pb l))) (hb : Ty H0 M ps tb (Fr M H0 (LO Pb l'))) (hl : l.length + l'.length ≤ 100000) : Ty H0 M ps (tOp rCat ta tb) (Fr M H0 (LO Pb (l ++ l'))) := fun σ H g t Q q =>
  ha σ H g t _ fun v H2 e2 r2 => hb σ H2 (g.up e2) (t.up e2) _ fun y H3 e3 r3 => by
    obtain ⟨a, vs, rfl, sa, h1, p1⟩ := (Fr M H0 (LO Pb l)).st (.ofEx e3) r2
    obtain ⟨b, ws, rfl, sb, h2, p2⟩ := r3
    refine ⟨a, b, vs, ws, rfl, rfl, h1, h2, ?_, fun p hp => q _ _ ((e2.trans e3).trans (Ex.new hp)) ⟨p, vs ++ ws, rfl, ((g.up e2).up e3).fresh hp, upd_same, ?_⟩⟩
    · rw [← pr_len p1, ← pr_len p2]; exact sz5 hl
    · exact Paired.mapR (pr_app p1 p2) fun b x k => Mn.ex (Ex.new hp) k
/-- [x] * n -/
theorem ty_rep [∀ b, Mn (Pb b)] {c : β} {n : Int} {m : Nat} (ha : Ty H0 M ps ta (Fr M H0 (LO Pb [c]))) (hb : Ty H0 M ps tb (Iv M (.int n))) (hn : n = (m : Int)) (hl : m ≤ 100000) : Ty H0 M ps (tOp rRep ta tb) (Fr M H0 (LO Pb (List.replicate m c))) := fun σ H g t Q q =>
  ha σ H g t _ fun v H2 e2 r2 => hb σ H2 (g.up e2) (t.up e2) _ fun y H3 e3 r3 => by
    subst hn
    obtain ⟨a, vs, rfl, sa, h1, p1⟩ := (Fr M H0 (LO Pb [c])).st (.ofEx e3) r2
    cases p1 with
    | cons r1 t1 =>
      cases t1
      refine ⟨a, (m : Int), _, rfl, r3, h1, by omega, by omega, by show 1 * (m : Int).toNat ≤ sizeLine; rw [Nat.one_mul, Int.toNat_natCast]; exact sz5 hl, fun p hp => ?_⟩
      refine q _ _ ((e2.trans e3).trans (Ex.new hp)) ⟨p, _, rfl, ((g.up e2).up e3).fresh hp, upd_same, ?_⟩
      have e : ∀ (n : Nat) (x : V), (List.replicate n [x]).flatten = List.replicate n x := fun n x => by
        induction n with
        | zero => rfl
        | succ n ih => rw [List.replicate_succ, List.flatten_cons, ih]; rfl
      rw [Int.toNat_natCast, e]
      exact pr_rep (F := fun b x => Pb b _ _ x) (Mn.ex (Ex.new hp) r1) m
abbrev rLenA (K : PySem.W.Frag) : List V → Hp → VK → Prop := fun xs H Q => ∃ p ys, xs = [.ref p] ∧ (SqL K H p ys ∨ SqT K H p ys) ∧ Q (.int ys.length) H
theorem ty_lenL [∀ b, Mn (Pb b)] {l : List β} (h : Ty H0 M ps ta R) (hR : ∀ H v, R.R H v → LO Pb l Tr H v) : Ty H0 M ps (tCB (rLenA K) (tCons ta tNil)) (Iv M (.int (l.length : Int))) :=
  ty_cb (ta_cons h ta_nil) fun H vs Q g p q => by
    cases p with
    | cons r1 t1 =>
      cases t1
      obtain ⟨a, xs, rfl, _, h1, p1⟩ := hR _ _ r1
      exact ⟨a, xs, rfl, .inl (SqL.of h1), q _ H (Ex.refl H) (by rw [pr_len p1])⟩
theorem ty_lenT [∀ b, Mn (Pb b)] {l : List β} (h : Ty H0 M ps ta R) (hR : ∀ H v, R.R H v → TO' K Pb l Tr H v) : Ty H0 M ps (tCB (rLenA K) (tCons ta tNil)) (Iv M (.int (l.length : Int))) :=
  ty_cb (ta_cons h ta_nil) fun H vs Q g p q => by
    cases p with
    | cons r1 t1 =>
      cases t1
      obtain ⟨a, xs, rfl, h1, p1⟩ := hR _ _ r1
      exact ⟨a, xs, rfl, .inr h1, q _ H (Ex.refl H) (by rw [pr_len p1])⟩
theorem getD_some {l : List Rat} {j : Nat} (h : j < l.length) : l[j]? = some (Mi.at0 l j) := by
  unfold Mi.at0
  rw [List.getD_eq_getElem?_getD, List.getElem?_eq_getElem h]
  rfl
theorem ty_ixQL {l : List Rat} {i : Int} (j : Nat) (h : Ty H0 M ps ta R) (hi : Ty H0 M ps tb (Iv M (.int i))) (hR : ∀ H v, R.R H v → LO (IQ K) l (fun a => ¬ M a) H v) (e : i = (j : Int)) (hj : j < l.length) : Ty H0 M ps (tOp (rIx K) ta tb) (Qs M K (Mi.at0 l j)) :=
  ty_ixL j (Mi.at0 l j) _ h hR hi e (getD_some hj) fun _ _ k => k
theorem ty_ixQT {l : List Rat} {i : Int} (j : Nat) (h : Ty H0 M ps ta R) (hi : Ty H0 M ps tb (Iv M (.int i))) (hR : ∀ H v, R.R H v → TO' K (IQ K) l (fun a => ¬ M a) H v) (e : i = (j : Int)) (hj : j < l.length) : Ty H0 M ps (tOp (rIx K) ta tb) (Qs M K (Mi.at0 l j)) :=
  ty_ixT j (Mi.at0 l j) _ h hR hi e (getD_some hj) fun _ _ k => k
theorem ty_zero {mg : Str → Option Value} (T : Tx K mg) : Ty H0 M ps (tC (.ref (He.ga K "ZERO"))) (Qs M K 0) := ty_conv ty_c fun H v h => by
  rw [show v = _ from h]
  exact ⟨_, rfl, T.q_ZERO H⟩
theorem ty_one {mg : Str → Option Value} (T : Tx K mg) : Ty H0 M ps (tC (.ref (He.ga K "ONE"))) (Qs M K 1) := ty_conv ty_c fun H v h => by
  rw [show v = _ from h]
  exact ⟨_, rfl, T.q_ONE H⟩
abbrev rMin : List V → Hp → VK → Prop := fun xs H Q => ∃ i j, xs = [.int i, .int j] ∧ Q (.int (if j < i then j else i)) H
theorem ty_min {i j : Int} (h : Ty H0 M ps ta (Iv M (.int i))) (h' : Ty H0 M ps tb (Iv M (.int j))) : Ty H0 M ps (tCB rMin (tCons ta (tCons tb tNil))) (Iv M (.int (min i j))) := by
  refine ty_int (ty_cb2 (z := .int (if j < i then j else i)) h h' fun H Q q => ⟨i, j, rfl, q⟩) ?_
  split <;> omega
end
theorem sm_int (n : Int) (h : n.natAbs < 2 ^ 64) : Sm (n : Rat) := ⟨Nat.lt_of_lt_of_le h (Nat.pow_le_pow_right (by decide) (by decide)), by show 1 < 2 ^ 4400; exact Nat.one_lt_two_pow (by decide)⟩
def SumOk (l : List Rat) : Prop := (∀ x ∈ l, Sm x) ∧ ∀ i, i ≤ l.length → Sm (Mi.sumL (l.take i))
theorem sumL_snoc (l : List Rat) (x : Rat) : Mi.sumL (l ++ [x]) = Mi.sumL l + x := by unfold Mi.sumL; rw [List.foldl_append]; rfl
theorem take_snoc {α : Type} {l : List α} {i : Nat} {x : α} (h : l[i]? = some x) : l.take (i + 1) = l.take i ++ [x] := by
  rw [List.take_succ, h]; rfl
abbrev spSum (K : PySem.W.Frag) : Sp := Sp1 (ι := List Rat) (fun i => LO (IQ K) i) SumOk (fun i => IQ K (Mi.sumL i))
section
variable {P : Program} {w : World} {K : PySem.W.Frag} {mg : Str → Option Value} {base : Heap}
theorem has_sum_of (T : Tx K mg) : Has P w K mg base 4 "sum_of" ["numbers"] (spSum K) := by
  have h_plus := has_plus (P := P) (w := w) (base := base) T
  refine has1 T.d_sum_of sc_sum_of (fun _ _ _ _ _ _ us hl => match us, hl with | [_], _ => rfl) fun f cdv A outer s H E hr => ⟨_,
    (pss_cons (ps_set (i := 1) sc_sum_of.nd rfl (Or.inl rfl) (pe_gc T.g_ZERO))
      (pss_cons (ps_for PassesOwn.never rfl (pi_listK (K := K) (pv 0)) (pg_name (i := 2) sc_sum_of.nd rfl (Or.inl rfl)) (pss_one (ps_set (i := 1) sc_sum_of.nd rfl (Or.inl rfl) (pe_has h_plus (hr.mono (by decide)) (pa_cons (pv 1) (pa_cons (pv 2) pa_nil))))))
      (pss_one (ps_ret (pv 1))))), ?_⟩
  intro l v1 Q h1 hok ret
  have g : Good H NoM H := .start H
  have ts : Tsl [some (An NoM (LO (IQ K) l)), none, none] (start ["numbers", "found", "part"] [v1]) H := wip_cons (Mn.mono (fun _ _ z => z) h1) (non_cons (non_cons nil_ts))
  refine st_set (Qs NoM K 0) g ts (ty_zero T) fun σ1 H1 e1 g1 t1 => ?_
  refine st_forL (Pb := IQ K) (l := l) g1 t1 (ty_var rfl) (fun _ _ h => h) (fun i => [some (An NoM (LO (IQ K) l)), some (Qs NoM K (Mi.sumL (l.take i))), none]) (fun σ H t => t) (fun B i c σ2 H2 hc gB g2 t2 D' hD k => ?_) fun σ2 H2 g2 t2 => ?_
  · refine st_set1 (Qs NoM K (Mi.sumL (l.take i) + c)) g2 t2 (ty_plus (ty_var rfl) (ty_var (R := Qs NoM K c) rfl) (hok.2 i (by have := (List.getElem?_eq_some_iff.mp hc).1; omega)) (hok.1 c (List.mem_of_getElem? hc))) fun σ3 H3 e3 g3 t3 => ?_
    refine k σ3 H3 g3 (Tsl.to t3 ?_)
    rw [take_snoc hc, sumL_snoc]
    exact ⟨.inr rfl, .inr rfl, .inl rfl, trivial⟩
  · refine st_ret (R := Qs NoM K (Mi.sumL l)) g2 t2 (ty_q (ty_var rfl) (by rw [List.take_length])) fun v H' e x => ?_
    exact ret v H' (g2.up e).ex0 x
end
section
variable {M : Addr → Prop} {H0 : Hp} {K : PySem.W.Frag} {ps : List (Option (SV M))} {ta tb te : TE} {E : XK} {R : SV M}
theorem ty_sum {l : List Rat} (h1 : Ty H0 M ps ta R) (hR : ∀ H v, R.R H v → LO (IQ K) l Tr H v) (ok : SumOk l) : Ty H0 M ps (tCall (spSum K) [] E (tCons ta tNil)) (Qs M K (Mi.sumL l)) :=
  ty_conv (ty_call1 (ι := List Rat) l h1 hR ok) fun _ _ h => h
end
end My
end
section
set_option Elab.async false
set_option linter.all false
set_option maxRecDepth 100000
set_option maxHeartbeats 2000000
namespace My
open PySem PySem.Spec PyProof.Rows L2 Evl
local macro_rules | `(tactic| walk_at "ty") => `(tactic| repeat' (first | exact ty_c | exact ty_var rfl | apply ty_num0 | apply ty_den1 | apply ty_i0 | apply ty_i | apply ty_un | apply ty_pair | apply ty_min))
local macro_rules | `(tactic| walk_at "sub") => `(tactic| first | exact fun _ _ h => h | exact fun _ _ h => fr_an h | exact fun _ _ h => fr_tr h | exact fun _ _ h => an_tr h)
open Mi (at0 psIn psTo elIn elTo elTerm monicE monicFrom)
theorem at0_mem {l : List Rat} {j : Nat} (h : j < l.length) : at0 l j ∈ l := List.mem_of_getElem? (getD_some h)
theorem psTo_len (cs : List Rat) (n : Nat) : ∀ k, (psTo cs n k).length = k + 1
  | 0 => rfl
  | k + 1 => by unfold psTo; rw [List.length_append, psTo_len cs n k]; rfl
def PsOk (cs : List Rat) (n most : Nat) : Prop := (∀ x ∈ cs, Sm x) ∧ ∀ k, k < most → (∀ x ∈ psTo cs n k, Sm x) ∧ (∀ i, i ≤ min k n → Sm (psIn cs (psTo cs n k) n (k + 1) i)) ∧ (∀ i, i < min k n → Sm (at0 cs (n - (i + 1)) * at0 (psTo cs n k) (k + 1 - (i + 1))))
abbrev spPs (K : PySem.W.Frag) : Sp := Sp2 (ι := List Rat × Nat × Nat) (fun i => TO' K (IQ K) i.1) (fun i => IV (.int (i.2.2 : Int))) (fun i => i.1.length = i.2.1 + 1 ∧ i.2.1 ≤ 1000 ∧ i.2.2 ≤ 1000 ∧ PsOk i.1 i.2.1 i.2.2) (fun i => LO (IQ K) (psTo i.1 i.2.1 i.2.2))
section
variable {P : Program} {w : World} {K : PySem.W.Frag} {mg : Str → Option Value} {base : Heap}
theorem has_power_sums_of (T : Tx K mg) : Has P w K mg base 4 "power_sums_of" ["poly", "most"] (spPs K) := by
  have h_plus := has_plus (P := P) (w := w) (base := base) T
  have h_times := has_times (P := P) (w := w) (base := base) T
  have h_negative := has_negative (P := P) (w := w) (base := base) T
  refine has2 T.d_power_sums_of sc_power_sums_of (fun _ _ _ _ _ _ us hl => match us, hl with | [_, _], _ => rfl) fun f cdv A outer s H E hr => ⟨_,
    (pss_cons (ps_set (i := 2) sc_power_sums_of.nd rfl (Or.inl rfl) (pe_op op_sub (pe_callB (len_seqK (K := K)) (by rfl) T.b_len (by decide +kernel) (pa_cons (pv 0) pa_nil)) pe_int))
      (pss_cons (ps_set (i := 3) sc_power_sums_of.nd rfl (Or.inl rfl) (pe_lst (pa_cons (pe_tup (pa_cons (pv 2) (pa_cons pe_int pa_nil))) pa_nil)))
      (pss_cons (ps_for PassesOwn.never rfl (pi_range2 (by rfl) T.b_range (pa_cons pe_int (pa_cons (pe_op op_add (pv 1) pe_int) pa_nil))) (pg_name (i := 4) sc_power_sums_of.nd rfl (Or.inl rfl)) (pss_cons (ps_set (i := 5) sc_power_sums_of.nd rfl (Or.inl rfl) (pe_ifExp (pt_cmpR op_le (pv 4) (pv 2) (nomark _)) (pe_has h_times (hr.mono (by decide)) (pa_cons (pe_tup (pa_cons (pv 4) (pa_cons pe_int pa_nil))) (pa_cons (pe_ix (ix_seqK (K := K)) (pv 0) (pe_op op_sub (pv 2) (pv 4)) (fun _ _ => rfl)) pa_nil))) (pe_gc T.g_ZERO)))
      (pss_cons (ps_for PassesOwn.never rfl (pi_range2 (by rfl) T.b_range (pa_cons pe_int (pa_cons (pe_op op_add (pe_callB (call_min2 rfl) (by rfl) T.b_min (by decide +kernel) (pa_cons (pe_op op_sub (pv 4) pe_int) (pa_cons (pv 2) pa_nil))) pe_int) pa_nil))) (pg_name (i := 6) sc_power_sums_of.nd rfl (Or.inl rfl)) (pss_one (ps_set (i := 5) sc_power_sums_of.nd rfl (Or.inl rfl) (pe_has h_plus (hr.mono (by decide)) (pa_cons (pv 5) (pa_cons (pe_has h_times (hr.mono (by decide)) (pa_cons (pe_ix (ix_seqK (K := K)) (pv 0) (pe_op op_sub (pv 2) (pv 6)) (fun _ _ => rfl)) (pa_cons (pe_ix (ix_seqK (K := K)) (pv 3) (pe_op op_sub (pv 4) (pv 6)) (fun _ _ => rfl)) pa_nil))) pa_nil))))))
      (pss_one (ps_set (i := 3) sc_power_sums_of.nd rfl (Or.inl rfl) (pe_op op_cat (pv 3) (pe_lst (pa_cons (pe_has h_negative (hr.mono (by decide)) (pa_cons (pv 5) pa_nil)) pa_nil))))))))
      (pss_one (ps_ret (pv 3)))))), ?_⟩
  rintro ⟨cs, n, most⟩ v1 v2 Q h1 h2 ⟨hlen, hn, hmost, hcs, hps⟩ ret
  dsimp only at hlen hn hmost hcs hps
  have g : Good H NoM H := .start H
  have ts : Tsl [some (An NoM (TO' K (IQ K) cs)), some (Iv NoM (.int (most : Int))), none, none, none, none, none] (start ["poly", "most", "size", "found", "k", "part", "i"] [v1, v2]) H :=
    wip_cons (Mn.mono (fun _ _ z => z) h1) (wip_cons h2 (non_cons (non_cons (non_cons (non_cons (non_cons nil_ts))))))
  refine st_set (Iv NoM (.int (n : Int))) g ts ?_ fun σ1 H1 e1 g1 t1 => ?_
  · apply ty_int
    · apply ty_i0
      · exact ty_lenT (ty_var rfl) (fun _ _ h => an_tr h)
      · exact ty_c
    · rw [hlen]; omega
  refine st_set (Fr NoM H (LO (IQ K) (psTo cs n 0))) g1 t1 ?_ fun σ2 H2 e2 g2 t2 => ?_
  · refine ty_lst1 (R := Qs NoM K ((n : Int) : Rat)) ?_ fun _ _ h => h
    walk_at "ty"
    · rfl
    · rfl
  refine st_for2 most g2 t2 (lo := 1) (hi := (most : Int) + 1) ?_ (by omega) (by omega) (fun k => [some (An NoM (TO' K (IQ K) cs)), some (Iv NoM (.int (most : Int))), some (Iv NoM (.int (n : Int))), some (Fr NoM H (LO (IQ K) (psTo cs n k))), none, none, none]) (fun _ _ t => t) (fun k σ3 H3 hk g3 t3 D' hD cont => ?_) fun σ3 H3 g3 t3 => ?_
  · refine ta_cons ty_c (ta_cons ?_ ta_nil)
    walk_at "ty"
  · obtain ⟨hF, hin, htm⟩ := hps k hk
    have hFl := psTo_len cs n k
    refine st_set (Qs NoM K (psIn cs (psTo cs n k) n (k + 1) 0)) g3 t3 (ty_if (b := decide (k + 1 ≤ n)) (tt_is (tt_test (ty_i0 (ty_var rfl) (ty_var rfl))) ?_) (fun hb => ?_) fun hb => ?_) fun σ4 H4 e4 g4 t4 => ?_
    · exact decide_eq_decide.mpr (by omega)
    · have hb := of_decide_eq_true hb
      unfold psIn
      rw [if_pos hb]
      have hj : n - (k + 1) < cs.length := by omega
      refine ty_times (ty_pair (ty_var rfl) ty_c ?_ rfl) (ty_ixQT (n - (k + 1)) (ty_var rfl) (ty_i0 (ty_var rfl) (ty_var rfl)) (fun _ _ h => h) (by omega) hj) (sm_int _ (by omega)) (hcs _ (at0_mem hj))
      show (1 : Int) + (k : Int) = ((k + 1 : Nat) : Int)
      omega
    · have hb := of_decide_eq_false hb
      unfold psIn
      rw [if_neg hb]
      exact ty_zero T
    refine st_for2 (min k n) g4 t4 (lo := 1) (hi := min ((k : Int)) (n : Int) + 1) ?_ (by omega) (by omega) (fun i => [some (An NoM (TO' K (IQ K) cs)), some (Iv NoM (.int (most : Int))), some (Iv NoM (.int (n : Int))), some (Fr NoM H (LO (IQ K) (psTo cs n k))), some (Iv NoM (.int (1 + (k : Int)))), some (Qs NoM K (psIn cs (psTo cs n k) n (k + 1) i)), none]) (fun _ _ t => t) (fun i σ5 H5 hi g5 t5 D2 hD2 cont2 => ?_) fun σ5 H5 g5 t5 => ?_
    · refine ta_cons ty_c (ta_cons ?_ ta_nil)
      apply ty_int
      · walk_at "ty"
      · omega
    · have hj1 : n - (i + 1) < cs.length := by omega
      have hj2 : k + 1 - (i + 1) < (psTo cs n k).length := by omega
      refine st_set1 (Qs NoM K (psIn cs (psTo cs n k) n (k + 1) (i + 1))) g5 t5 (ty_plus (ty_var rfl) (ty_times (ty_ixQT (n - (i + 1)) (ty_var rfl) (ty_i0 (ty_var rfl) (ty_var rfl)) (fun _ _ h => h) (by omega) hj1) (ty_ixQL (k + 1 - (i + 1)) (ty_var rfl) (ty_i0 (ty_var rfl) (ty_var rfl)) (fun _ _ h => fr_an h) (by omega) hj2)
        (hcs _ (at0_mem hj1)) (hF _ (at0_mem hj2))) (hin i (by omega)) (htm i hi)) fun σ6 H6 e6 g6 t6 => ?_
      exact cont2 σ6 H6 g6 (Tsl.to t6 ⟨.inr rfl, .inr rfl, .inr rfl, .inr rfl, .inr rfl, .inr rfl, .inl rfl, trivial⟩)
    · refine st_set1 (Fr NoM H (LO (IQ K) (psTo cs n (k + 1)))) g5 t5 (ty_cat (ty_var rfl) (ty_lst1 (ty_neg (ty_var rfl)) fun _ _ h => h) (by rw [hFl]; show k + 1 + 1 ≤ 100000; omega)) fun σ6 H6 e6 g6 t6 => ?_
      exact cont σ6 H6 g6 (Tsl.to t6 ⟨.inr rfl, .inr rfl, .inr rfl, .inr rfl, .inl rfl, .inl rfl, .inl rfl, trivial⟩)
  · refine st_ret g3 t3 (ty_var (i := 3) rfl) fun v H' e x => ?_
    exact ret v H' (g3.up e).ex0 (Mn.mono (fun _ z => z.2) x)
end
end My
end
section
set_option Elab.async false
set_option linter.all false
set_option maxRecDepth 100000
set_option maxHeartbeats 2000000
namespace My
open PySem PySem.Spec PyProof.Rows L2 Evl
/-! comprehensions, typed -/
theorem wipe_get (σ : L2.St) : ∀ (vs : List Nat) (i : Nat), (wipe σ vs)[i]? = if i ∈ vs then σ[i]?.map (fun _ => none) else σ[i]?
  | [], i => by simp [wipe]
  | v :: vs, i => by
    unfold wipe
    rw [List.getElem?_set, wipe_get σ vs i, wipe_length]
    by_cases h : v = i
    · subst h
      by_cases hl : v < σ.length
      · simp [hl]
      · simp [hl]
    · rw [if_neg h]
      have : (i ∈ v :: vs) ↔ i ∈ vs := by simp [Ne.symm h]
      by_cases hm : i ∈ vs
      · rw [if_pos hm, if_pos (this.mpr hm)]
      · rw [if_neg hm, if_neg (fun z => hm (this.mp z))]
theorem wipe_set {σ : L2.St} {vs : List Nat} {j : Nat} (x : Option V) (h : j ∈ vs) : wipe ((wipe σ vs).set j x) vs = wipe σ vs := by
  apply List.ext_getElem?
  intro i
  rw [wipe_get, wipe_get, List.getElem?_set, wipe_get, wipe_length]
  by_cases hm : i ∈ vs
  · simp only [hm, if_true]
    by_cases e : j = i
    · subst e
      by_cases hl : j < σ.length <;> simp [hl]
    · simp only [e, if_false]
      cases σ[i]? <;> rfl
  · have e : j ≠ i := fun z => hm (z ▸ h)
    simp only [hm, if_false, e]
section
variable {M : Addr → Prop} {H0 : Hp} {K : PySem.W.Frag} {ps : List (Option (SV M))} {ta tb te : TE} {tt : TT} {E : XK} {q r : Rat} {R R' : SV M} {β : Type} {Pb : β → VP} {l l' : List β} {vs : List Nat}
/-- what a comprehension walks, typed: n turns, Psl the slots in each -/
def TyI (H0 : Hp) (M : Addr → Prop) (ps : List (Option (SV M))) (wi : TI) (g : TG) (vs : List Nat) (n : Nat) (Psl : Nat → List (Option (SV M))) : Prop :=
  ∀ σ H, Good H0 M H → Tsl ps σ H → ∀ R : It → Hp → Prop, (∀ (J : It) (H2 : Hp) (G : Hp → Prop) (Y : Nat → Hp → V → Hp → Prop), Ex H H2 → Walk J n G Y → (∀ H3, Ex H2 H3 → G H3) →
    (∀ i x H3 H4 (k : L2.St → Hp → Prop), i < n → Ex H2 H3 → Y i H3 x H4 → (∀ σ' H5, Ex H3 H5 → Tsl (Psl i) σ' H5 → wipe σ' vs = wipe σ vs → k σ' H5) → g x (wipe σ vs) H4 k) → R J H2) → wi σ H R
theorem ty_lcW [∀ b, Mn (Pb b)] {wi : TI} {g : TG} (n : Nat) (A : Nat → List β) (Psl : Nat → List (Option (SV M))) (hi : TyI H0 M ps wi g vs n Psl) (hn : n ≤ 40000) (h0 : A 0 = [])
    (he : ∀ (B : Hp) i, i < n → Good H0 M B → ∃ b, TyT B M (Psl i) tt b ∧ (b = true → ∃ c, A (i + 1) = A i ++ [c] ∧ Ty B M (Psl i) te (Fr M B (Pb c))) ∧ (b = false → A (i + 1) = A i)) :
    Ty H0 M ps (tLc wi g tt te vs) (Fr M H0 (LO Pb (A n))) := fun σ H gd ts Q q => by
  refine hi σ H gd ts _ fun J H2 G Y e2 hW hG hb D hD => ?_
  have gd2 := gd.up e2
  refine lc_it hW (fun i H' => Ex H2 H' ∧ ∃ xs, H' D = some (.lst xs) ∧ xs.length ≤ i ∧ Paired (fun b x => Pb b (fun a => (¬ M a ∧ H0 a = Option.none) ∧ a ≠ D) H' x) (A i) xs) ⟨Ex.new hD, [], upd_same, Nat.le_refl _, by rw [h0]; exact .nil⟩ (fun i H' _ p => hG H' p.1) (fun i x H' H4 hi' p y => ?_) fun H' p => ?_
  · obtain ⟨eH, xs, hx, hxl, hp⟩ := p
    refine hb i x H' H4 _ hi' eH y fun σ' H5 e5 t5 hw => ⟨hw, ?_⟩
    have gd5 := gd2.up (eH.trans e5)
    obtain ⟨b, hT, h1, h2⟩ := he H5 i hi' gd5
    have keep : ∀ {H7 : Hp} {S : Addr → Prop} {ys : List V} {H'' : Hp}, Ex H'' H7 → H'' D = some (.lst xs) → (∀ a, S a → a ≠ D) → ∀ a o, H'' a = some o → ((∃ xs, o = HO.lst xs) → S a) → upd H7 D (.lst ys) a = some o := fun {H7 S ys H''} e7 hxx hS a o ha ho => by
      have ne : a ≠ D := fun z => by
        subst z
        rw [hxx] at ha
        exact hS a (ho ⟨xs, (Option.some.inj ha).symm⟩) rfl
      rw [upd_ne ne]
      exact e7 a o ha
    refine hT σ' H5 gd5.base t5 _ fun H6 e6 => ?_
    cases b with
    | true =>
      obtain ⟨c, hA, hE⟩ := h1 rfl
      show te σ' H6 _
      refine hE σ' H6 (gd5.base.up e6) (t5.up e6) _ fun v H7 e7 r => ?_
      have e57 := e5.trans (e6.trans e7)
      have hx7 : H7 D = some (.lst xs) := e57 D _ hx
      refine ⟨xs, hx7, Nat.lt_of_le_of_lt (Nat.le_trans hxl (Nat.le_of_lt hi')) (sz_lt (by omega)), Ex.mut (eH.trans e57) hD, xs ++ [v], upd_same, by rw [List.length_append]; exact Nat.succ_le_succ hxl, ?_⟩
      rw [hA]
      refine pr_app (Paired.mapR hp fun b x k => Mn.up (fun _ z => z) (keep e57 hx fun a z => z.2) k) (.cons ?_ .nil)
      have r' : Pb c (fun a => (¬ M a ∧ H0 a = Option.none) ∧ a ≠ D) H7 v := Mn.mono (fun a z => ⟨gd5.fresh z.2, fun w => by
        have z2 := z.2
        rw [w, e5 D _ hx] at z2
        cases z2⟩) r
      exact Mn.up (fun _ z => z) (keep (Ex.refl H7) hx7 fun a z => z.2) r'
    | false =>
      show Ex H2 H6 ∧ _
      have e56 := e5.trans e6
      refine ⟨eH.trans e56, xs, e56 D _ hx, Nat.le_succ_of_le hxl, ?_⟩
      rw [h2 rfl]
      exact Paired.mapR hp fun b x k => Mn.ex e56 k
  · obtain ⟨eH, xs, hx, hxl, hp⟩ := p
    exact q _ H' (e2.trans eH) ⟨D, xs, rfl, gd2.fresh hD, hx, Paired.mapR hp fun b x k => Mn.mono (fun a z => z.1) k⟩
/-- range(n) -/
theorem ti_range1 {t : TA} {n : Int} {m j : Nat} (h : TyA H0 M ps t [Iv M (.int n)]) (hn : n = (m : Int)) (hm : m ≤ 100000) (hj : j ∈ vs) : TyI H0 M ps (iRng1 t) (gName j) vs m (fun i => (wipeP ps vs).set j (some (Iv M (.int (i : Int))))) := fun σ H g ts R k => by
  subst hn
  refine h σ H g ts _ fun us H1 e p => ?_
  cases p with
  | cons r1 t1 =>
    cases t1
    have r1 : _ = V.int (m : Int) := r1
    subst r1
    refine ⟨(m : Int), rfl, by omega, by omega, ?_⟩
    rw [Int.toNat_natCast]
    refine k _ H1 (fun _ => True) _ e walk_range (fun _ _ => trivial) fun i x H3 H4 k' hi e3 y hk => ?_
    obtain ⟨rfl, rfl⟩ := y
    have e0 : (0 : Int) + (i : Int) = (i : Int) := Int.zero_add _
    show k' ((wipe σ vs).set j (some (.int ((0 : Int) + (i : Int))))) H4
    rw [e0]
    exact hk _ H4 (Ex.refl H4) (((ts.up (e.trans e3)).wipe vs).set rfl) (wipe_set _ hj)
theorem ti_range2 {t : TA} {lo hi : Int} {m j : Nat} (h : TyA H0 M ps t [Iv M (.int lo), Iv M (.int hi)]) (hn : (hi - lo).toNat = m) (hb : -1000000 ≤ lo ∧ lo ≤ 1000000 ∧ -1000000 ≤ hi ∧ hi ≤ 1000000) (hj : j ∈ vs) : TyI H0 M ps (iRng2 t) (gName j) vs m (fun i => (wipeP ps vs).set j (some (Iv M (.int (lo + (i : Int)))))) := fun σ H g ts R k => by
  subst hn
  refine h σ H g ts _ fun us H1 e p => ?_
  cases p with
  | cons r1 t1 => cases t1 with
    | cons r2 t2 =>
      cases t2
      have r1 : _ = V.int lo := r1
      have r2 : _ = V.int hi := r2
      subst r1 r2
      refine ⟨lo, hi, rfl, ⟨by omega, by omega, by omega, by omega⟩, ?_⟩
      refine k _ H1 (fun _ => True) _ e walk_range (fun _ _ => trivial) fun i x H3 H4 k' hi e3 y hk => ?_
      obtain ⟨rfl, rfl⟩ := y
      exact hk _ H4 (Ex.refl H4) (((ts.up (e.trans e3)).wipe vs).set rfl) (wipe_set _ hj)
/-- a list; Pb' its items' words -/
theorem ti_list {γ : Type} {Pc : γ → VP} [∀ b, Mn (Pc b)] {xs : List γ} {tl : TE} {j : Nat} (d : γ) (h : Ty H0 M ps tl R) (hR : ∀ H v, R.R H v → LO Pc xs (fun a => ¬ M a) H v) (hj : j ∈ vs) :
    TyI H0 M ps (iList K tl) (gName j) vs xs.length (fun i => (wipeP ps vs).set j (some (An M (Pc (xs.getD i d))))) := fun σ H g ts R k => by
  refine h σ H g ts _ fun v H1 e r => ?_
  obtain ⟨a, us, rfl, ha, hl, p⟩ := hR _ _ r
  have hlen := pr_len p
  refine ⟨a, rfl, ⟨us, SqL.of hl⟩, ?_⟩
  refine k _ H1 (fun H => SqL K H a us) _ e (hlen ▸ walk_list) (fun H3 e3 => SqL.of (e3 a _ hl)) fun i x H3 H4 k' hi e3 y hk => ?_
  obtain ⟨rfl, hx⟩ := y
  obtain ⟨c, hc, pc⟩ := pr_get' p hx
  refine hk _ H4 (Ex.refl H4) (((ts.up (e.trans e3)).wipe vs).set ?_) (wipe_set _ hj)
  have ec : xs.getD i d = c := by rw [List.getD_eq_getElem?_getD, hc]; rfl
  rw [ec]
  exact Mn.ex e3 pc
theorem ti_tup {γ : Type} {Pc : γ → VP} [∀ b, Mn (Pc b)] {xs : List γ} {tl : TE} {j : Nat} (d : γ) (h : Ty H0 M ps tl R) (hR : ∀ H v, R.R H v → TO' K Pc xs (fun a => ¬ M a) H v) (hj : j ∈ vs) :
    TyI H0 M ps (iTup K tl) (gName j) vs xs.length (fun i => (wipeP ps vs).set j (some (An M (Pc (xs.getD i d))))) := fun σ H g ts R k => by
  refine h σ H g ts _ fun v H1 e r => ?_
  obtain ⟨a, us, rfl, hl, p⟩ := hR _ _ r
  have hlen := pr_len p
  refine ⟨a, rfl, ⟨us, hl⟩, ?_⟩
  refine k _ H1 (fun H => SqT K H a us) _ e (hlen ▸ walk_tup) (fun H3 e3 => ex_t e3 hl) fun i x H3 H4 k' hi e3 y hk => ?_
  obtain ⟨rfl, hx⟩ := y
  obtain ⟨c, hc, pc⟩ := pr_get' p hx
  refine hk _ H4 (Ex.refl H4) (((ts.up (e.trans e3)).wipe vs).set ?_) (wipe_set _ hj)
  have ec : xs.getD i d = c := by rw [List.getD_eq_getElem?_getD, hc]; rfl
  rw [ec]
  exact Mn.ex e3 pc
/-- two lists in step, the pair taken apart at once -/
theorem ti_zip {γ δ : Type} {Pc : γ → VP} {Pd : δ → VP} [∀ b, Mn (Pc b)] [∀ b, Mn (Pd b)] {xs : List γ} {ys : List δ} {t : TA} {j1 j2 : Nat} (d1 : γ) (d2 : δ) {R1 R2' : SV M} (h : TyA H0 M ps t [R1, R2']) (hR1 : ∀ H v, R1.R H v → LO Pc xs (fun a => ¬ M a) H v) (hR2 : ∀ H v, R2'.R H v → LO Pd ys (fun a => ¬ M a) H v)
    (hj1 : j1 ∈ vs) (hj2 : j2 ∈ vs) : TyI H0 M ps (iZip K t) (gTup K 2 (gCons (gName j1) (gCons (gName j2) gNil))) vs (min xs.length ys.length) (fun i => ((wipeP ps vs).set j1 (some (An M (Pc (xs.getD i d1))))).set j2 (some (An M (Pd (ys.getD i d2))))) := fun σ H g ts R k => by
  refine h σ H g ts _ fun us H1 e p => ?_
  cases p with
  | cons r1 t1 => cases t1 with
    | cons r2 t2 =>
      cases t2
      obtain ⟨a, us, rfl, ha, hl, p⟩ := hR1 _ _ r1
      obtain ⟨b, ws, rfl, hb, hl2, p2⟩ := hR2 _ _ r2
      have hlen := pr_len p
      have hlen2 := pr_len p2
      refine ⟨a, b, us, ws, rfl, SqL.of hl, SqL.of hl2, ?_⟩
      refine k _ H1 (fun H => SqL K H a us ∧ SqL K H b ws) _ e (walk_zip (by rw [hlen, hlen2])) (fun H3 e3 => ⟨SqL.of (e3 a _ hl), SqL.of (e3 b _ hl2)⟩) fun i x H3 H4 k' hi e3 y hk => ?_
      obtain ⟨T, x1, x2, rfl, hT, rfl, hx1, hx2⟩ := y
      obtain ⟨c, hc, pc⟩ := pr_get' p hx1
      obtain ⟨c2, hc2, pc2⟩ := pr_get' p2 hx2
      have eN := Ex.new (o := .tup [x1, x2]) hT
      refine ⟨T, [x1, x2], rfl, SqT.of upd_same, rfl, x1, [x2], rfl, x2, [], rfl, rfl, ?_⟩
      refine hk _ _ eN (Tsl.set (R := An M (Pd (ys.getD i d2))) ?_ (Tsl.set (R := An M (Pc (xs.getD i d1))) ?_ ((ts.up ((e.trans e3).trans eN)).wipe vs))) ?_
      · have ec : ys.getD i d2 = c2 := by rw [List.getD_eq_getElem?_getD, hc2]; rfl
        rw [ec]
        exact Mn.ex (e3.trans eN) pc2
      · have ec : xs.getD i d1 = c := by rw [List.getD_eq_getElem?_getD, hc]; rfl
        rw [ec]
        exact Mn.ex (e3.trans eN) pc
      · have w1 := wipe_set (σ := σ) (some x1) hj1
        apply List.ext_getElem?
        intro i
        rw [wipe_get, wipe_get, List.getElem?_set, List.getElem?_set, wipe_get, List.length_set, wipe_length]
        by_cases hm : i ∈ vs
        · simp only [hm, if_true]
          by_cases q2 : j2 = i
          · subst q2
            by_cases hl : j2 < σ.length <;> simp [hl]
          · simp only [q2, if_false]
            by_cases q1 : j1 = i
            · subst q1
              by_cases hl : j1 < σ.length <;> simp [hl]
            · simp only [q1, if_false]
              cases σ[i]? <;> rfl
        · have q2 : j2 ≠ i := fun z => hm (z ▸ hj2)
          have q1 : j1 ≠ i := fun z => hm (z ▸ hj1)
          simp only [hm, if_false, q1, q2]
/-- no test: the list is told item by item -/
theorem ty_lc [∀ b, Mn (Pb b)] {wi : TI} {g : TG} {n : Nat} {Psl : Nat → List (Option (SV M))} (l : List β) (hi : TyI H0 M ps wi g vs n Psl) (hl : l.length = n) (hn : n ≤ 40000) (he : ∀ (B : Hp) i c, l[i]? = some c → Good H0 M B → Ty B M (Psl i) te (Fr M B (Pb c))) :
    Ty H0 M ps (tLc wi g tYes te vs) (Fr M H0 (LO Pb l)) := by
  have h := ty_lcW (Pb := Pb) (te := te) (tt := tYes) n (fun i => l.take i) Psl hi hn rfl (fun B i hi' gB => by
    have hl' : i < l.length := by omega
    refine ⟨true, tt_yes, fun _ => ⟨l[i], ?_, ?_⟩, fun z => by cases z⟩
    · exact take_snoc (List.getElem?_eq_getElem hl')
    · exact he B i _ (List.getElem?_eq_getElem hl') gB)
  rw [← hl, List.take_length] at h
  exact h
theorem ty_fr (h : Ty H0 M ps te (Qs M K q)) : Ty H0 M ps te (Fr M H0 (IQ K q)) := ty_conv h fun _ _ k => k
abbrev rTupA (K : PySem.W.Frag) : List V → Hp → VK → Prop := fun xs H Q => ∃ p ys, xs = [.ref p] ∧ ((SqL K H p ys ∧ ∀ l, H l = none → Q (.ref l) (upd H l (.tup ys))) ∨ (SqT K H p ys ∧ Q (.ref p) H))
/-- tuple(xs), xs a list of rationals -/
theorem ty_tuple {l : List Rat} (h : Ty H0 M ps ta R) (hR : ∀ H v, R.R H v → LO (IQ K) l Tr H v) : Ty H0 M ps (tCB (rTupA K) (tCons ta tNil)) (An M (TO' K (IQ K) l)) :=
  ty_cb (ta_cons h ta_nil) fun H vs Q g p q => by
    cases p with
    | cons r1 t1 =>
      cases t1
      obtain ⟨a, xs, rfl, _, h1, p1⟩ := hR _ _ r1
      exact ⟨a, xs, rfl, .inl ⟨SqL.of h1, fun b hb => q _ _ (Ex.new hb) ⟨b, xs, rfl, SqT.of upd_same, Paired.mapR p1 fun c x k => Mn.ex (P := IQ K c) (Ex.new hb) k⟩⟩⟩
end
end My
end
section
set_option Elab.async false
set_option linter.all false
set_option maxRecDepth 100000
set_option maxHeartbeats 2000000
namespace My
open PySem PySem.Spec PyProof.Rows L2 Evl
local macro_rules | `(tactic| walk_at "ty") => `(tactic| repeat' (first | exact ty_c | exact ty_var rfl | apply ty_num0 | apply ty_den1 | apply ty_i0 | apply ty_i | apply ty_un | apply ty_pair | apply ty_min))
open Mi (at0 psIn psTo elIn elTo elTerm monicE monicFrom)
theorem elTo_len (s : List Rat) : ∀ k, (elTo s k).length = k + 1
  | 0 => rfl
  | k + 1 => by unfold elTo; rw [List.length_append, elTo_len s k]; rfl
theorem range_at {α : Type} {n i : Nat} {f : Nat → α} {c : α} (h : ((List.range n).map f)[i]? = some c) : i < n ∧ c = f i := by
  rw [List.getElem?_map] at h
  by_cases hi : i < n
  · rw [List.getElem?_range hi] at h
    exact ⟨hi, (Option.some.inj h).symm⟩
  · rw [List.getElem?_eq_none (by rw [List.length_range]; omega)] at h
    cases h
theorem map_at {α γ : Type} {l : List γ} {i : Nat} {f : γ → α} {c : α} (d : γ) (h : (l.map f)[i]? = some c) : i < l.length ∧ c = f (l.getD i d) := by
  rw [List.getElem?_map] at h
  by_cases hi : i < l.length
  · rw [List.getElem?_eq_getElem hi] at h
    refine ⟨hi, ?_⟩
    rw [List.getD_eq_getElem?_getD, List.getElem?_eq_getElem hi]
    exact (Option.some.inj h).symm
  · rw [List.getElem?_eq_none (by omega)] at h
    cases h
theorem getD_at {α : Type} {l : List α} {i : Nat} (d : α) (h : i < l.length) : l[i]? = some (l.getD i d) := by
  rw [List.getD_eq_getElem?_getD, List.getElem?_eq_getElem h]; rfl
def ElOk (s : List Rat) (most : Nat) : Prop := (∀ x ∈ s, Sm x) ∧ ∀ k, k < most → (∀ x ∈ elTo s k, Sm x) ∧ (∀ i, i ≤ k + 1 → Sm (elIn s (elTo s k) (k + 1) i)) ∧ (∀ i, i < k + 1 → Sm (elTerm s (elTo s k) (k + 1) i))
abbrev spEl (K : PySem.W.Frag) : Sp := Sp2 (ι := List Rat × Nat) (fun i => LO (IQ K) i.1) (fun i => IV (.int (i.2 : Int))) (fun i => i.2 < i.1.length ∧ i.2 ≤ 1000 ∧ ElOk i.1 i.2) (fun i => LO (IQ K) (elTo i.1 i.2))
abbrev spMo (K : PySem.W.Frag) : Sp := Sp1 (ι := List Rat × Nat) (fun i => LO (IQ K) i.1) (fun i => i.2 < i.1.length ∧ i.2 ≤ 1000 ∧ at0 i.1 0 = ((i.2 : Int) : Rat) ∧ ElOk i.1 i.2) (fun i => TO' K (IQ K) (monicFrom i.1 i.2))
section
variable {P : Program} {w : World} {K : PySem.W.Frag} {mg : Str → Option Value} {base : Heap}
theorem has_elementary_of (T : Tx K mg) : Has P w K mg base 5 "elementary_of" ["sums", "most"] (spEl K) := by
  have h_plus := has_plus (P := P) (w := w) (base := base) T
  have h_times := has_times (P := P) (w := w) (base := base) T
  have h_minus := has_minus (P := P) (w := w) (base := base) T
  have h_over := has_over (P := P) (w := w) (base := base) T
  refine has2 T.d_elementary_of sc_elementary_of (fun _ _ _ _ _ _ us hl => match us, hl with | [_, _], _ => rfl) fun f cdv A outer s H E hr => ⟨_,
    (pss_cons (ps_set (i := 2) sc_elementary_of.nd rfl (Or.inl rfl) (pe_lst (pa_cons (pe_gc T.g_ONE) pa_nil)))
      (pss_cons (ps_for PassesOwn.never rfl (pi_range2 (by rfl) T.b_range (pa_cons pe_int (pa_cons (pe_op op_add (pv 1) pe_int) pa_nil))) (pg_name (i := 3) sc_elementary_of.nd rfl (Or.inl rfl)) (pss_cons (ps_set (i := 4) sc_elementary_of.nd rfl (Or.inl rfl) (pe_gc T.g_ZERO))
      (pss_cons (ps_for PassesOwn.never rfl (pi_range2 (by rfl) T.b_range (pa_cons pe_int (pa_cons (pe_op op_add (pv 3) pe_int) pa_nil))) (pg_name (i := 5) sc_elementary_of.nd rfl (Or.inl rfl)) (pss_cons (ps_set (i := 6) sc_elementary_of.nd rfl (Or.inl rfl) (pe_has h_times (hr.mono (by decide)) (pa_cons (pe_ix (ix_seqK (K := K)) (pv 2) (pe_op op_sub (pv 3) (pv 5)) (fun _ _ => rfl)) (pa_cons (pe_ix (ix_seqK (K := K)) (pv 0) (pv 5) (fun _ _ => rfl)) pa_nil))))
      (pss_one (ps_set (i := 4) sc_elementary_of.nd rfl (Or.inl rfl) (pe_ifExp (pt_cmpR op_eq (pe_op op_mod (pv 5) pe_int) pe_int (nomark _)) (pe_has h_plus (hr.mono (by decide)) (pa_cons (pv 4) (pa_cons (pv 6) pa_nil))) (pe_has h_minus (hr.mono (by decide)) (pa_cons (pv 4) (pa_cons (pv 6) pa_nil))))))))
      (pss_one (ps_set (i := 2) sc_elementary_of.nd rfl (Or.inl rfl) (pe_op op_cat (pv 2) (pe_lst (pa_cons (pe_has h_over (hr.mono (by decide)) (pa_cons (pv 4) (pa_cons (pe_tup (pa_cons (pv 3) (pa_cons pe_int pa_nil))) pa_nil))) pa_nil))))))))
      (pss_one (ps_ret (pv 2))))), ?_⟩
  rintro ⟨s, most⟩ v1 v2 Q h1 h2 ⟨hlen, hmost, hs, hel⟩ ret
  dsimp only at hlen hmost hs hel
  have g : Good H NoM H := .start H
  have ts : Tsl [some (An NoM (LO (IQ K) s)), some (Iv NoM (.int (most : Int))), none, none, none, none, none] (start ["sums", "most", "found", "k", "part", "i", "term"] [v1, v2]) H :=
    wip_cons (Mn.mono (fun _ _ z => z) h1) (wip_cons h2 (non_cons (non_cons (non_cons (non_cons (non_cons nil_ts))))))
  refine st_set (Fr NoM H (LO (IQ K) (elTo s 0))) g ts (ty_lst1 (ty_one T) fun _ _ h => h) fun σ2 H2 e2 g2 t2 => ?_
  refine st_for2 most g2 t2 (lo := 1) (hi := (most : Int) + 1) ?_ (by omega) (by omega) (fun k => [some (An NoM (LO (IQ K) s)), some (Iv NoM (.int (most : Int))), some (Fr NoM H (LO (IQ K) (elTo s k))), none, none, none, none]) (fun _ _ t => t) (fun k σ3 H3 hk g3 t3 D' hD cont => ?_) fun σ3 H3 g3 t3 => ?_
  · refine ta_cons ty_c (ta_cons ?_ ta_nil)
    walk_at "ty"
  · obtain ⟨hF, hin, htm⟩ := hel k hk
    have hFl := elTo_len s k
    refine st_set (Qs NoM K (elIn s (elTo s k) (k + 1) 0)) g3 t3 (ty_zero T) fun σ4 H4 e4 g4 t4 => ?_
    refine st_for2 (k + 1) g4 t4 (lo := 1) (hi := 1 + (k : Int) + 1) ?_ (by omega) (by omega) (fun i => [some (An NoM (LO (IQ K) s)), some (Iv NoM (.int (most : Int))), some (Fr NoM H (LO (IQ K) (elTo s k))), some (Iv NoM (.int (1 + (k : Int)))), some (Qs NoM K (elIn s (elTo s k) (k + 1) i)), none, none]) (fun _ _ t => Tsl.to t ⟨.inr rfl, .inr rfl, .inr rfl, .inr rfl, .inr rfl, .inl rfl, .inl rfl, trivial⟩) (fun i σ5 H5 hi g5 t5 D2 hD2 cont2 => ?_) fun σ5 H5 g5 t5 => ?_
    · refine ta_cons ty_c (ta_cons ?_ ta_nil)
      walk_at "ty"
    · have hj1 : k + 1 - (i + 1) < (elTo s k).length := by omega
      have hj2 : i + 1 < s.length := by omega
      refine st_set (Qs NoM K (elTerm s (elTo s k) (k + 1) i)) g5 t5 (ty_times (ty_ixQL (k + 1 - (i + 1)) (ty_var rfl) (ty_i0 (ty_var rfl) (ty_var rfl)) (fun _ _ h => fr_an h) (by omega) hj1) (ty_ixQL (i + 1) (ty_var rfl) (ty_var rfl) (fun _ _ h => h) (by omega) hj2) (hF _ (at0_mem hj1)) (hs _ (at0_mem hj2))) fun σ6 H6 e6 g6 t6 => ?_
      refine st_set1 (Qs NoM K (elIn s (elTo s k) (k + 1) (i + 1))) g6 t6 (ty_if (b := decide ((i + 1) % 2 = 1)) (tt_is (tt_test (ty_eqI (ty_i (ty_var rfl) ty_c (show (0 : Int) < 2 by decide)) ty_c rfl)) ?_) (fun hb => ?_) fun hb => ?_) fun σ7 H7 e7 g7 t7 => ?_
      · rw [dec_int, Bool.beq_eq_decide_eq]
        exact decide_eq_decide.mpr (by omega)
      · have hb := of_decide_eq_true hb
        rw [show elIn s (elTo s k) (k + 1) (i + 1) = elIn s (elTo s k) (k + 1) i + elTerm s (elTo s k) (k + 1) i from if_pos hb]
        exact ty_plus (ty_var rfl) (ty_var rfl) (hin i (by omega)) (htm i hi)
      · have hb := of_decide_eq_false hb
        rw [show elIn s (elTo s k) (k + 1) (i + 1) = elIn s (elTo s k) (k + 1) i + -(elTerm s (elTo s k) (k + 1) i) from if_neg hb]
        exact ty_minus (ty_var rfl) (ty_var rfl) (hin i (by omega)) (htm i hi)
      · exact cont2 σ7 H7 g7 (Tsl.to t7 ⟨.inr rfl, .inr rfl, .inr rfl, .inr rfl, .inr rfl, .inl rfl, .inl rfl, trivial⟩)
    · have ho : Ty H NoM [some (An NoM (LO (IQ K) s)), some (Iv NoM (.int (most : Int))), some (Fr NoM H (LO (IQ K) (elTo s k))), some (Iv NoM (.int (1 + (k : Int)))), some (Qs NoM K (elIn s (elTo s k) (k + 1) (k + 1))), none, none] (tTup (tCons (tVar 3) (tCons (tC (.int 1)) tNil))) (Qs NoM K ((k + 1 : Nat) : Rat)) := by
        apply ty_pair
        · exact ty_var rfl
        · exact ty_c
        · show (1 : Int) + (k : Int) = ((k + 1 : Nat) : Int)
          omega
        · rfl
      refine st_set1 (Fr NoM H (LO (IQ K) (elTo s (k + 1)))) g5 t5 (ty_cat (ty_var rfl) (ty_lst1 (ty_conv (ty_call2 (ι := Rat × Nat) (_, k + 1) (ty_var (i := 4) rfl) ho (fun _ _ h => h) (fun _ _ h => h) ⟨hin (k + 1) (Nat.le_refl _), by omega, Nat.lt_of_lt_of_le (show k + 1 < 2 ^ 12 by omega) (Nat.pow_le_pow_right (by decide) (by decide))⟩) fun _ _ h => h) fun _ _ h => h) (by rw [hFl]; show k + 1 + 1 ≤ 100000; omega)) fun σ6 H6 e6 g6 t6 => ?_
      exact cont σ6 H6 g6 (Tsl.to t6 ⟨.inr rfl, .inr rfl, .inr rfl, .inl rfl, .inl rfl, .inl rfl, .inl rfl, trivial⟩)
  · refine st_ret g3 t3 (ty_var (i := 2) rfl) fun v H' e x => ?_
    exact ret v H' (g3.up e).ex0 (Mn.mono (fun _ z => z.2) x)
end
section
variable {M : Addr → Prop} {H0 : Hp} {K : PySem.W.Frag} {ps : List (Option (SV M))} {ta tb te : TE} {E : XK} {R R1 : SV M}
theorem ty_el {s : List Rat} {n : Nat} (h1 : Ty H0 M ps ta R) (hR : ∀ H v, R.R H v → LO (IQ K) s Tr H v) (h2 : Ty H0 M ps tb (Iv M (.int (n : Int)))) (hl : n < s.length) (hn : n ≤ 1000) (ok : ElOk s n) : Ty H0 M ps (tCall (spEl K) [] E (tCons ta (tCons tb tNil))) (Fr M H0 (LO (IQ K) (elTo s n))) :=
  ty_call2 (ι := List Rat × Nat) (s, n) h1 h2 hR (fun _ _ h => h) ⟨hl, hn, ok⟩
theorem ty_ps {cs : List Rat} {n m : Nat} (h1 : Ty H0 M ps ta R) (hR : ∀ H v, R.R H v → TO' K (IQ K) cs Tr H v) (h2 : Ty H0 M ps tb (Iv M (.int (m : Int)))) (hl : cs.length = n + 1) (hn : n ≤ 1000) (hm : m ≤ 1000) (ok : PsOk cs n m) : Ty H0 M ps (tCall (spPs K) [] E (tCons ta (tCons tb tNil))) (Fr M H0 (LO (IQ K) (psTo cs n m))) :=
  ty_call2 (ι := List Rat × Nat × Nat) (cs, n, m) h1 h2 hR (fun _ _ h => h) ⟨hl, hn, hm, ok⟩
theorem ty_mo {s : List Rat} {n : Nat} (h1 : Ty H0 M ps ta R) (hR : ∀ H v, R.R H v → LO (IQ K) s Tr H v) (hl : n < s.length) (hn : n ≤ 1000) (h0 : at0 s 0 = ((n : Int) : Rat)) (ok : ElOk s n) : Ty H0 M ps (tCall (spMo K) [] E (tCons ta tNil)) (An M (TO' K (IQ K) (monicFrom s n))) :=
  ty_conv (ty_call1 (ι := List Rat × Nat) (s, n) h1 hR ⟨hl, hn, h0, ok⟩) fun _ _ h => fr_an h
end
section
variable {P : Program} {w : World} {K : PySem.W.Frag} {mg : Str → Option Value} {base : Heap}
theorem has_monic_from (T : Tx K mg) : Has P w K mg base 6 "monic_from" ["sums"] (spMo K) := by
  have h_elementary_of := has_elementary_of (P := P) (w := w) (base := base) T
  have h_negative := has_negative (P := P) (w := w) (base := base) T
  refine has1 T.d_monic_from sc_monic_from (fun _ _ _ _ _ _ us hl => match us, hl with | [_], _ => rfl) fun f cdv A outer s H E hr => ⟨_,
    (pss_cons (ps_set (i := 1) sc_monic_from.nd rfl (Or.inr rfl) (pe_ix (ix_seqK (K := K)) (pe_ix (ix_seqK (K := K)) (pv 0) pe_int (fun _ _ => rfl)) pe_int (fun _ _ => rfl)))
      (pss_cons (ps_set (i := 2) sc_monic_from.nd rfl (Or.inr rfl) (pe_has h_elementary_of (hr.mono (by decide)) (pa_cons (pv 0) (pa_cons (pv 1) pa_nil))))
      (pss_one (ps_ret (pe_callTy (tuple_ofK (K := K)) (by rfl) T.b_tuple (by decide +kernel) (pa_cons (pe_lc (own := [("k", 3)]) rfl sc_monic_from.nd (pi_range1 (by rfl) T.b_range (pa_cons (pe_op op_add (pv 1) pe_int) pa_nil)) (blkOk_by (by kernel_rfl)) (fun _ _ _ _ _ => (pg_name (i := 3) sc_monic_from.nd rfl (Or.inl rfl))) (fun _ _ _ _ _ => pts_nil) (fun _ _ _ _ _ => (pe_ifExp (pt_cmpR op_eq (pe_op op_mod (pe_op op_sub (pv 1) (pv 3)) pe_int) pe_int (nomark _)) (pe_ix (ix_seqK (K := K)) (pv 2) (pe_op op_sub (pv 1) (pv 3)) (fun _ _ => rfl)) (pe_has h_negative (hr.mono (by decide)) (pa_cons (pe_ix (ix_seqK (K := K)) (pv 2) (pe_op op_sub (pv 1) (pv 3)) (fun _ _ => rfl)) pa_nil))))) pa_nil)))))), ?_⟩
  rintro ⟨s, n⟩ v1 Q h1 ⟨hlen, hn, h0, hel⟩ ret
  dsimp only at hlen hn h0
  have g : Good H NoM H := .start H
  have ts : Tsl [some (An NoM (LO (IQ K) s)), none, none, none] (start ["sums", "size", "parts", "k"] [v1]) H := wip_cons (Mn.mono (fun _ _ z => z) h1) (non_cons (non_cons (non_cons nil_ts)))
  refine st_set (Iv NoM (.int (n : Int))) g ts (ty_int (ty_num0 (ty_ixQL 0 (ty_var rfl) ty_c (fun _ _ h => h) rfl (by omega))) (by rw [h0]; rfl)) fun σ2 H2 e2 g2 t2 => ?_
  refine st_set (Fr NoM H (LO (IQ K) (elTo s n))) g2 t2 (ty_el (ty_var rfl) (fun _ _ h => an_tr h) (ty_var rfl) hlen hn hel) fun σ3 H3 e3 g3 t3 => ?_
  have hFl := elTo_len s n
  refine st_ret (R := An NoM (TO' K (IQ K) (monicFrom s n))) g3 t3 (ty_tuple (ty_lc (monicFrom s n) (ti_range1 (m := n + 1) (ta_cons (ty_i0 (ty_var rfl) ty_c) ta_nil) (by omega) (by omega) (by decide)) (by unfold monicFrom monicE; rw [List.length_map, List.length_range]) (by omega) fun B i c hc gB => ?_) fun _ _ h => fr_tr h) fun v H' e x => ?_
  · obtain ⟨hi, rfl⟩ := range_at hc
    have hj : n - i < (elTo s n).length := by omega
    refine ty_fr (ty_if (b := decide ((n - i) % 2 = 0)) (tt_is (tt_test (ty_eqI (ty_i (ty_i0 (ty_var rfl) (ty_var rfl)) ty_c (show (0 : Int) < 2 by decide)) ty_c rfl)) ?_) (fun hb => ?_) fun hb => ?_)
    · rw [dec_int, Bool.beq_eq_decide_eq]
      exact decide_eq_decide.mpr (by omega)
    · have hb := of_decide_eq_true hb
      refine ty_q (ty_ixQL (n - i) (ty_var rfl) (ty_i0 (ty_var rfl) (ty_var rfl)) (fun _ _ h => fr_an h) (by omega) hj) (if_pos hb).symm
    · have hb := of_decide_eq_false hb
      refine ty_q (ty_neg (ty_ixQL (n - i) (ty_var rfl) (ty_i0 (ty_var rfl) (ty_var rfl)) (fun _ _ h => fr_an h) (by omega) hj)) (if_neg hb).symm
  · exact ret v H' (g3.up e).ex0 x
end
end My
end
section
set_option Elab.async false
set_option linter.all false
set_option maxRecDepth 100000
set_option maxHeartbeats 2000000
namespace My
open PySem PySem.Spec PyProof.Rows L2 Evl
local macro_rules | `(tactic| walk_at "ty") => `(tactic| repeat' (first | exact ty_c | exact ty_var rfl | apply ty_num0 | apply ty_den1 | apply ty_i0 | apply ty_i | apply ty_un | apply ty_pair | apply ty_min))
open Mi (at0 psIn psTo elIn elTo elTerm monicE monicFrom binRow convT conv chTo)
abbrev II : Int → VP := fun n => IV (.int n)
section
variable {M : Addr → Prop} {H0 : Hp} {K : PySem.W.Frag} {ps : List (Option (SV M))} {ta tb te : TE} {E : XK} {R R1 : SV M} {β : Type} {Pb : β → VP}
theorem pr_atI {α γ : Type} {F : α → γ → Prop} {l : List α} {m : List γ} {i : Int} {c : α} (p : Paired F l m) (h : atI l i = some c) : ∃ x, atI m i = some x ∧ F c x := by
  unfold atI at h ⊢
  rw [← pr_len p]
  cases e : ixN l.length i with
  | none => rw [e] at h; cases h
  | some j =>
    rw [e] at h
    exact pr_get p h
theorem ty_ixLn [∀ b, Mn (Pb b)] {l : List β} {i : Int} (c : β) (R' : SV M) (h : Ty H0 M ps ta R) (hR : ∀ H v, R.R H v → LO Pb l (fun a => ¬ M a) H v) (hi : Ty H0 M ps tb (Iv M (.int i))) (hc : atI l i = some c)
    (h' : ∀ H v, Pb c (fun a => ¬ M a) H v → R'.R H v) : Ty H0 M ps (tOp (rIx K) ta tb) R' := fun σ H g t Q q =>
  h σ H g t _ fun v H2 e2 r => hi σ H2 (g.up e2) (t.up e2) _ fun y H3 e3 r3 => by
    obtain ⟨a, vs, rfl, _, hs, p⟩ := hR _ _ (R.st (.ofEx e3) r)
    obtain ⟨x, hx, px⟩ := pr_atI p hc
    exact .inl ⟨a, vs, i, x, rfl, r3, SqL.of hs, hx, q x H3 (e2.trans e3) (h' _ _ px)⟩
/-- parts of a slice -/
def TyO (H0 : Hp) (M : Addr → Prop) (ps : List (Option (SV M))) (t : TO) (o : Option Int) : Prop := ∀ σ H, Good H0 M H → Tsl ps σ H → ∀ Q : Option Int → Hp → Prop, (∀ H2, Ex H H2 → Q o H2) → t σ H Q
theorem to_none : TyO H0 M ps tNoPart none := fun σ H _ _ Q q => q H (Ex.refl H)
theorem to_some {i : Int} (h : Ty H0 M ps te (Iv M (.int i))) : TyO H0 M ps (tPart te) (some i) := fun σ H g t Q q => h σ H g t _ fun v H2 e r => ⟨i, r, q H2 e⟩
def cutL {α : Type} (xs : List α) (lo hi : Option Int) : List α := (xs.drop (HT.sIx xs.length 0 lo)).take (HT.sIx xs.length xs.length hi - HT.sIx xs.length 0 lo)
theorem ty_slL [∀ b, Mn (Pb b)] {l : List β} {tl th : TO} {lo hi : Option Int} (S : Addr → Prop) (hS : ∀ a, S a → ¬ M a) (hS2 : ∀ a, ¬ M a ∧ H0 a = none → S a) (h : Ty H0 M ps te R) (hR : ∀ H v, R.R H v → LO Pb l S H v) (h1 : TyO H0 M ps tl lo) (h2 : TyO H0 M ps th hi) : Ty H0 M ps (tSl (rSlL K) te tl th) (At M S hS (LO Pb (cutL l lo hi))) := fun σ H g t Q q =>
  h σ H g t _ fun v H2 e2 r => h1 σ H2 (g.up e2) (t.up e2) _ fun H3 e3 => h2 σ H3 ((g.up e2).up e3) ((t.up e2).up e3) _ fun H4 e4 => by
    obtain ⟨a, vs, rfl, _, hs, p⟩ := hR _ _ (R.st (.ofEx (e3.trans e4)) r)
    have hlen := pr_len p
    refine ⟨a, vs, rfl, SqL.of hs, fun b hb => q _ _ ((e2.trans (e3.trans e4)).trans (Ex.new hb)) ⟨b, _, rfl, hS2 _ ((((g.up e2).up e3).up e4).fresh hb), upd_same, ?_⟩⟩
    refine Paired.mapR (F := fun b x => Pb b S H4 x) ?_ fun c x k => Mn.ex (Ex.new hb) k
    unfold cutV cutL
    rw [← hlen]
    exact pr_take _ (pr_drop _ p)
end
/-! lists that are stored to -/
def Mo (F : Addr) (R : SV NoM) : Prop := ∀ {H : Hp} {xs ys : List V} {v : V}, H F = some (.lst xs) → R.R H v → R.R (upd H F (.lst ys)) v
theorem mo_iv {F : Addr} {x : V} : Mo F (Iv NoM x) := fun _ h => h
theorem upd_keep {F : Addr} {H : Hp} {xs ys : List V} {S : Addr → Prop} (hF : H F = some (.lst xs)) (hS : ∀ a, S a → a ≠ F) : ∀ a o, H a = some o → ((∃ xs, o = HO.lst xs) → S a) → upd H F (.lst ys) a = some o := fun a o e n => by
  have ne : a ≠ F := fun z => by
    subst z
    rw [hF] at e
    exact hS a (n ⟨xs, (Option.some.inj e).symm⟩) rfl
  rw [upd_ne ne]
  exact e
theorem mo_qs {F : Addr} {K : PySem.W.Frag} {q : Rat} : Mo F (Qs NoM K q) := fun hF ⟨a, e, h⟩ => ⟨a, e, sqt_up (S := fun _ => False) (fun b o eb n => by
  by_cases z : b = F
  · subst z
    rw [hF] at eb
    exact (n ⟨_, (Option.some.inj eb).symm⟩).elim
  · rw [upd_ne z]; exact eb) h⟩
theorem mo_at {F : Addr} {S : Addr → Prop} {hS' : ∀ a, S a → ¬ NoM a} {P : VP} [Mn P] (hS : ∀ a, S a → a ≠ F) : Mo F (At NoM S hS' P) := fun hF h => Mn.up (fun _ q => q) (upd_keep hF hS) h
/-- a tuple of rationals stands in any case -/
theorem mo_tq {F : Addr} {K : PySem.W.Frag} {l : List Rat} : Mo F (An NoM (TO' K (IQ K) l)) := fun hF h => Mn.up (P := TO' K (IQ K) l) (S := fun a => a ≠ F) (S' := fun a => ¬ NoM a) (fun _ _ z => z) (upd_keep hF fun _ h => h) h
def MoAll (F : Addr) (ps : List (Option (SV NoM))) : Prop := match ps with
  | [] => True
  | none :: r => MoAll F r
  | some R :: r => Mo F R ∧ MoAll F r
theorem Tsl.mut {F : Addr} {H : Hp} {xs ys : List V} (hF : H F = some (.lst xs)) : ∀ {ps : List (Option (SV NoM))} {σ : L2.St}, Tsl ps σ H → MoAll F ps → Tsl ps σ (upd H F (.lst ys))
  | [], [], _, _ => trivial
  | Option.none :: _, _ :: _, h, m => ⟨trivial, Tsl.mut hF h.2 m⟩
  | some R :: _, _ :: _, h, m => by
    obtain ⟨⟨v, e, r⟩, h2⟩ := h
    exact ⟨⟨v, e, m.1 hF r⟩, Tsl.mut hF h2 m.2⟩
  | [], _ :: _, h, _ => h.elim
  | _ :: _, [], h, _ => h.elim
/-- what was known ahead of F avoids F -/
theorem avoid {P : VP} [Mn P] {S : Addr → Prop} {Hb H : Hp} {F : Addr} {v : V} (h : P S Hb v) (hF : Hb F = none) (e : Ex Hb H) : P (fun a => S a ∧ a ≠ F) H v := Mn.ex e (Mn.mono (fun a z => ⟨z.1, fun w => z.2 (w ▸ hF)⟩) (Mn.tr h))
theorem good_mut {H0 H : Hp} {F : Addr} {ys : List V} (g : Good H0 NoM H) (h : H0 F = none) : Good H0 NoM (upd H F (.lst ys)) := ⟨.ofEx (Ex.mut g.ex0 h), fun _ m => m.elim⟩
/-- xs.append(e), xs at F -/
theorem st_app {ps : List (Option (SV NoM))} {σ : L2.St} {H B : Hp} {K : PySem.W.Frag} {tl te : TE} {R : SV NoM} {D : Ends} {F : Addr} {xs : List V} (g : Good B NoM H) (ts : Tsl ps σ H) (hl : Ty B NoM ps tl (Iv NoM (.ref F))) (hF : H F = some (.lst xs)) (hz : xs.length < 100000) (h : Ty B NoM ps te R)
    (k : ∀ v H1, Ex H H1 → H1 F = some (.lst xs) → Tsl ps σ H1 → R.R H1 v → D.nx σ (upd H1 F (.lst (xs ++ [v])))) : tDrop (tBM K "list" rAppend tl (tCons te tNil)) D σ H :=
  hl σ H g ts _ fun v H1 e1 r1 => by
    have r1 : v = .ref F := r1
    subst r1
    refine ⟨.inl ⟨rfl, xs, sq_of (e1 F _ hF)⟩, ?_⟩
    refine h σ H1 (g.up e1) (ts.up e1) _ fun u H2 e2 r2 => ?_
    exact ⟨F, xs, u, rfl, rfl, e2 F _ (e1 F _ hF), sz_lt hz, k u H2 (e1.trans e2) (e2 F _ (e1 F _ hF)) ((ts.up e1).up e2) r2⟩
/-- xs[i] = e, xs at F -/
theorem st_store {ps : List (Option (SV NoM))} {σ : L2.St} {H B : Hp} {ta tb te : TE} {R : SV NoM} {D : Ends} {F : Addr} {xs : List V} {i : Int} (j : Nat) (g : Good B NoM H) (ts : Tsl ps σ H) (h : Ty B NoM ps te R) (hl : Ty B NoM ps ta (Iv NoM (.ref F))) (hi : Ty B NoM ps tb (Iv NoM (.int i))) (hF : H F = some (.lst xs)) (e : i = (j : Int)) (hj : j < xs.length)
    (k : ∀ v H1, Ex H H1 → H1 F = some (.lst xs) → Tsl ps σ H1 → R.R H1 v → D.nx σ (upd H1 F (.lst (xs.set j v)))) : tAsg te (gSub ta tb rSetL) D σ H :=
  h σ H g ts _ fun v H1 e1 r1 => hl σ H1 (g.up e1) (ts.up e1) _ fun o H2 e2 r2 => hi σ H2 ((g.up e1).up e2) ((ts.up e1).up e2) _ fun y H3 e3 r3 => by
    subst e
    have eA := (e1.trans e2).trans e3
    exact ⟨F, xs, (j : Int), j, r2, r3, eA F _ hF, ixN_nat hj, k v H3 eA (eA F _ hF) (ts.up eA) (R.st (.ofEx (e2.trans e3)) r1)⟩
/-! binomials, convolutions -/
abbrev spBin : Sp := Sp1 (ι := Nat) (fun n => IV (.int (n : Int))) (fun n => n ≤ 1000) (fun n => LO (LO II) ((List.range (n + 1)).map binRow))
section
variable {P : Program} {w : World} {K : PySem.W.Frag} {mg : Str → Option Value} {base : Heap}
theorem bin_len : ∀ k, (binRow k).length = k + 1
  | 0 => rfl
  | k + 1 => by
    have ih := bin_len k
    unfold binRow
    rw [List.length_append, List.length_append, List.length_zipWith, List.length_tail, ih]
    show 1 + min (k + 1) (k + 1 - 1) + 1 = k + 1 + 1
    omega
theorem cut_tail {α : Type} (l : List α) : cutL l (some 1) none = l.tail := by
  unfold cutL
  have e1 : HT.sIx l.length 0 (some 1) = min 1 l.length := HT.sIx_nat l.length 0 1
  rw [e1, HT.sIx_none]
  cases l with
  | nil => rfl
  | cons x r =>
    have e2 : min 1 (x :: r).length = 1 := by simp
    rw [e2]
    show r.take ((x :: r).length - 1) = r
    simp
theorem zip_at {α γ δ : Type} {f : α → γ → δ} {l : List α} {m : List γ} {i : Nat} {c : δ} (d1 : α) (d2 : γ) (h : (List.zipWith f l m)[i]? = some c) : i < l.length ∧ i < m.length ∧ c = f (l.getD i d1) (m.getD i d2) := by
  have hi : i < (List.zipWith f l m).length := (List.getElem?_eq_some_iff.mp h).1
  rw [List.length_zipWith] at hi
  have h1 : i < l.length := by omega
  have h2 : i < m.length := by omega
  refine ⟨h1, h2, ?_⟩
  rw [List.getElem?_zipWith, List.getElem?_eq_getElem h1, List.getElem?_eq_getElem h2] at h
  rw [List.getD_eq_getElem?_getD, List.getElem?_eq_getElem h1, List.getD_eq_getElem?_getD, List.getElem?_eq_getElem h2]
  exact (Option.some.inj h).symm
theorem has_binomials (T : Tx K mg) : Has P w K mg base 1 "binomials" ["most"] spBin := by
  refine has1 T.d_binomials sc_binomials (fun _ _ _ _ _ _ us hl => match us, hl with | [_], _ => rfl) fun f cdv A outer s H E hr => ⟨_,
    (pss_cons (ps_set (i := 1) sc_binomials.nd rfl (Or.inl rfl) (pe_lst (pa_cons (pe_lst (pa_cons pe_int pa_nil)) pa_nil)))
      (pss_cons (ps_for PassesOwn.never rfl (pi_range1 (by rfl) T.b_range (pa_cons (pv 0) pa_nil)) (pg_name (i := 2) sc_binomials.nd rfl (Or.inl rfl)) (pss_cons (ps_set (i := 3) sc_binomials.nd rfl (Or.inl rfl) (pe_ix (ix_seqK (K := K)) (pv 1) (pe_un un_neg pe_int) (fun _ _ => rfl)))
      (pss_one (ps_set (i := 1) sc_binomials.nd rfl (Or.inl rfl) (pe_op op_cat (pv 1) (pe_lst (pa_cons (pe_op op_cat (pe_op op_cat (pe_lst (pa_cons pe_int pa_nil)) (pe_lc (own := [("a", 4), ("b", 5)]) rfl sc_binomials.nd (pi_zipK (K := K) T.b_zip (pa_cons (pv 3) (pa_cons (pe_slice (sl_listK (K := K)) (pv 3) (po_some pe_int) po_none) pa_nil))) (blkOk_by (by kernel_rfl)) (fun _ _ _ _ _ => (pg_tupK (K := K) (n := 2) rfl (pgs_cons (pg_name (i := 4) sc_binomials.nd rfl (Or.inl rfl)) (pgs_cons (pg_name (i := 5) sc_binomials.nd rfl (Or.inl rfl)) pgs_nil)))) (fun _ _ _ _ _ => pts_nil) (fun _ _ _ _ _ => (pe_op op_add (pv 4) (pv 5))))) (pe_lst (pa_cons pe_int pa_nil))) pa_nil)))))))
      (pss_one (ps_ret (pv 1))))), ?_⟩
  intro n v1 Q h1 hn ret
  have g : Good H NoM H := .start H
  have ts : Tsl [some (Iv NoM (.int (n : Int))), none, none, none, none, none] (start ["most", "rows", "k", "last", "a", "b"] [v1]) H := wip_cons h1 (non_cons (non_cons (non_cons (non_cons (non_cons nil_ts)))))
  refine st_set (Fr NoM H (LO (LO II) ((List.range (0 + 1)).map binRow))) g ts (ty_lst1 (ty_lst1 (b := (1 : Int)) ty_c fun _ _ h => h) fun _ _ h => h) fun σ2 H2 e2 g2 t2 => ?_
  refine st_for1 n g2 t2 (ta_cons (ty_var rfl) ta_nil) (by omega) (by omega) (fun k => [some (Iv NoM (.int (n : Int))), some (Fr NoM H (LO (LO II) ((List.range (k + 1)).map binRow))), none, none, none, none]) (fun _ _ t => t) (fun k σ3 H3 hk g3 t3 D' hD cont => ?_) fun σ3 H3 g3 t3 => ?_
  · have hl := bin_len k
    refine st_set (An NoM (LO II (binRow k))) g3 t3 (ty_ixLn (binRow k) _ (ty_var rfl) (fun _ _ h => fr_an h) (ty_un ty_c) (by rw [List.range_succ, List.map_append]; exact atI_last _ _) fun _ _ h => h) fun σ4 H4 e4 g4 t4 => ?_
    refine st_set1 (Fr NoM H (LO (LO II) ((List.range (k + 1 + 1)).map binRow))) g4 t4 ?_ fun σ6 H6 e6 g6 t6 => cont σ6 H6 g6 (Tsl.to t6 ⟨.inr rfl, .inr rfl, .inl rfl, .inl rfl, .inr rfl, .inr rfl, trivial⟩)
    have eR : (List.range (k + 1 + 1)).map binRow = (List.range (k + 1)).map binRow ++ [binRow (k + 1)] := by rw [List.range_succ (n := k + 1), List.map_append]; rfl
    rw [eR]
    refine ty_cat (Pb := LO II) (l := (List.range (k + 1)).map binRow) (l' := [binRow (k + 1)]) ?_ ?_ (by rw [List.length_map, List.length_range]; simp; omega)
    · exact ty_var rfl
    refine ty_lst1 (R := Fr NoM H (LO II (binRow (k + 1)))) ?_ fun _ _ h => h
    have hz : (List.zipWith (· + ·) (binRow k) (binRow k).tail).length ≤ 1000 := by rw [List.length_zipWith, List.length_tail, hl]; omega
    refine ty_cat (Pb := II) (l := [1] ++ List.zipWith (· + ·) (binRow k) (binRow k).tail) (l' := [1]) ?_ ?_ (by rw [List.length_append]; simp; omega)
    · refine ty_cat (Pb := II) (l := [1]) (l' := List.zipWith (· + ·) (binRow k) (binRow k).tail) ?_ ?_ (by simp; omega)
      · refine ty_lst1 (R := Iv NoM (.int 1)) ?_ fun _ _ h => h
        exact ty_c
      · refine ty_lc (List.zipWith (· + ·) (binRow k) (binRow k).tail) (ti_zip (0 : Int) (0 : Int) (Pc := II) (Pd := II) (xs := binRow k) (ys := (binRow k).tail) (R1 := An NoM (LO II (binRow k))) (R2' := An NoM (LO II (cutL (binRow k) (some 1) none))) ?_ (fun _ _ h => h) (fun _ _ h => by rw [cut_tail] at h; exact h) (by decide) (by decide)) (List.length_zipWith ..) (by rw [hl]; simp; omega) fun B i c hc gB => ?_
        · refine ta_cons (ty_var rfl) (ta_cons ?_ ta_nil)
          refine ty_slL (R := An NoM (LO II (binRow k))) (fun a => ¬ NoM a) (fun _ h => h) (fun _ h => h.1) ?_ (fun _ _ h => h) ?_ ?_
          · exact ty_var rfl
          · exact to_some ty_c
          · exact to_none
        · obtain ⟨_, _, rfl⟩ := zip_at 0 0 hc
          refine ty_conv (R := Iv NoM (.int ((binRow k).getD i 0 + (binRow k).tail.getD i 0))) ?_ fun _ _ h => h
          apply ty_i0
          · exact ty_conv (ty_var (i := 4) rfl) fun _ _ h => h
          · exact ty_conv (ty_var (i := 5) rfl) fun _ _ h => h
    · refine ty_lst1 (R := Iv NoM (.int 1)) ?_ fun _ _ h => h
      exact ty_c
  · refine st_ret g3 t3 (ty_var (i := 1) rfl) fun v H' e x => ?_
    exact ret v H' (g3.up e).ex0 (Mn.mono (fun _ z => z.2) x)
end
end My
end
section
set_option Elab.async false
set_option linter.all false
set_option maxRecDepth 100000
set_option maxHeartbeats 2000000
namespace My
open PySem PySem.Spec PyProof.Rows L2 Evl
local macro_rules | `(tactic| walk_at "ty") => `(tactic| repeat' (first | exact ty_c | exact ty_var rfl | apply ty_num0 | apply ty_den1 | apply ty_i0 | apply ty_i | apply ty_un | apply ty_pair | apply ty_min))
open Mi (at0 psIn psTo elIn elTo elTerm monicE monicFrom binRow convT conv chTo)
def ConvOk (a b : List Rat) : Prop := a ≠ [] ∧ a.length ≤ 100 ∧ a.length ≤ b.length ∧ (∀ x ∈ a, Sm x) ∧ (∀ x ∈ b, Sm x) ∧ ∀ k, k < a.length → SumOk ((List.range (k + 1)).map fun j => convT a b k j) ∧ ∀ j, j ≤ k → Sm (at0 a j * at0 b (k - j)) ∧ ((binRow k).getD j 0).natAbs < 2 ^ 64
abbrev spConv (K : PySem.W.Frag) : Sp := Sp2 (ι := List Rat × List Rat) (fun i => LO (IQ K) i.1) (fun i => LO (IQ K) i.2) (fun i => ConvOk i.1 i.2) (fun i => LO (IQ K) (conv i.1 i.2))
abbrev spPow : Sp := Sp2 (ι := Int × Nat) (fun i => IV (.int i.1)) (fun i => IV (.int (i.2 : Int))) (fun i => i.1.natAbs < 2 ^ 60 ∧ i.2 ≤ 1000) (fun i => IV (.int (i.1 ^ i.2)))
abbrev spCh : Sp := Sp2 (ι := Nat × Nat) (fun i => IV (.int (i.1 : Int))) (fun i => IV (.int (i.2 : Int))) (fun i => i.1 ≤ 1000 ∧ i.2 ≤ 1000) (fun i => IV (.int (Mi.choices i.1 i.2 : Int)))
section
variable {M : Addr → Prop} {H0 : Hp} {K : PySem.W.Frag} {ps : List (Option (SV M))} {ta tb te : TE} {E : XK} {R R1 : SV M} {β : Type} {Pb : β → VP}
theorem ty_bin {n : Nat} (h1 : Ty H0 M ps ta (Iv M (.int (n : Int)))) (hn : n ≤ 1000) : Ty H0 M ps (tCall spBin [] E (tCons ta tNil)) (Fr M H0 (LO (LO II) ((List.range (n + 1)).map binRow))) :=
  ty_call1 (ι := Nat) n h1 (fun _ _ h => h) hn
theorem ty_conv' {a b : List Rat} {R2' : SV M} (h1 : Ty H0 M ps ta R) (hR : ∀ H v, R.R H v → LO (IQ K) a Tr H v) (h2 : Ty H0 M ps tb R2') (hR2 : ∀ H v, R2'.R H v → LO (IQ K) b Tr H v) (ok : ConvOk a b) : Ty H0 M ps (tCall (spConv K) [] E (tCons ta (tCons tb tNil))) (Fr M H0 (LO (IQ K) (conv a b))) :=
  ty_call2 (ι := List Rat × List Rat) (a, b) h1 h2 hR hR2 ok
theorem ty_pow {i : Int} {n : Nat} (h1 : Ty H0 M ps ta (Iv M (.int i))) (h2 : Ty H0 M ps tb (Iv M (.int (n : Int)))) (hi : i.natAbs < 2 ^ 60) (hn : n ≤ 1000) : Ty H0 M ps (tCall spPow [] E (tCons ta (tCons tb tNil))) (Iv M (.int (i ^ n))) :=
  ty_conv (ty_call2 (ι := Int × Nat) (i, n) h1 h2 (fun _ _ h => h) (fun _ _ h => h) ⟨hi, hn⟩) fun _ _ h => h
theorem ty_ch {n m : Nat} (h1 : Ty H0 M ps ta (Iv M (.int (n : Int)))) (h2 : Ty H0 M ps tb (Iv M (.int (m : Int)))) (hn : n ≤ 1000) (hm : m ≤ 1000) : Ty H0 M ps (tCall spCh [] E (tCons ta (tCons tb tNil))) (Iv M (.int (Mi.choices n m : Int))) :=
  ty_conv (ty_call2 (ι := Nat × Nat) (n, m) h1 h2 (fun _ _ h => h) (fun _ _ h => h) ⟨hn, hm⟩) fun _ _ h => h
/-- an item of an item -/
theorem ty_ixII {l : List (List Int)} {i : Int} (j : Nat) (h : Ty H0 M ps ta R) (hi : Ty H0 M ps tb (Iv M (.int i))) (hR : ∀ H v, R.R H v → LO (LO II) l (fun a => ¬ M a) H v) (e : i = (j : Int)) (hj : j < l.length) : Ty H0 M ps (tOp (rIx K) ta tb) (An M (LO II (l.getD j []))) :=
  ty_ixL j (l.getD j []) _ h hR hi e (getD_at [] hj) fun _ _ k => k
theorem ty_ixI {l : List Int} {i : Int} (j : Nat) (h : Ty H0 M ps ta R) (hi : Ty H0 M ps tb (Iv M (.int i))) (hR : ∀ H v, R.R H v → LO II l (fun a => ¬ M a) H v) (e : i = (j : Int)) (hj : j < l.length) : Ty H0 M ps (tOp (rIx K) ta tb) (Iv M (.int (l.getD j 0))) :=
  ty_ixL j (l.getD j 0) _ h hR hi e (getD_at 0 hj) fun _ _ k => k
theorem ty_ixQQ {l : List (List Rat)} {i : Int} (j : Nat) (h : Ty H0 M ps ta R) (hi : Ty H0 M ps tb (Iv M (.int i))) (hR : ∀ H v, R.R H v → LO (LO (IQ K)) l (fun a => ¬ M a) H v) (e : i = (j : Int)) (hj : j < l.length) : Ty H0 M ps (tOp (rIx K) ta tb) (An M (LO (IQ K) (l.getD j []))) :=
  ty_ixL j (l.getD j []) _ h hR hi e (getD_at [] hj) fun _ _ k => k
end
section
variable {P : Program} {w : World} {K : PySem.W.Frag} {mg : Str → Option Value} {base : Heap}
theorem has_convolved (T : Tx K mg) : Has P w K mg base 5 "convolved" ["one", "other"] (spConv K) := by
  have h_sum_of := has_sum_of (P := P) (w := w) (base := base) T
  have h_times := has_times (P := P) (w := w) (base := base) T
  have h_binomials := has_binomials (P := P) (w := w) (base := base) T
  refine has2 T.d_convolved sc_convolved (fun _ _ _ _ _ _ us hl => match us, hl with | [_, _], _ => rfl) fun f cdv A outer s H E hr => ⟨_,
    (pss_cons (ps_set (i := 2) sc_convolved.nd rfl (Or.inr rfl) (pe_has h_binomials (hr.mono (by decide)) (pa_cons (pe_op op_sub (pe_callB (len_seqK (K := K)) (by rfl) T.b_len (by decide +kernel) (pa_cons (pv 0) pa_nil)) pe_int) pa_nil)))
      (pss_one (ps_ret (pe_lc (own := [("k", 3)]) rfl sc_convolved.nd (pi_range1 (by rfl) T.b_range (pa_cons (pe_callB (len_seqK (K := K)) (by rfl) T.b_len (by decide +kernel) (pa_cons (pv 0) pa_nil)) pa_nil)) (blkOk_by (by kernel_rfl)) (fun _ _ _ _ _ => (pg_name (i := 3) sc_convolved.nd rfl (Or.inr rfl))) (fun _ _ _ _ _ => pts_nil) (fun _ _ _ _ _ => (pe_has h_sum_of (hr.mono (by decide)) (pa_cons (pe_lc (own := [("j", 4)]) rfl sc_convolved.nd (pi_range1 (by rfl) T.b_range (pa_cons (pe_op op_add (pv 3) pe_int) pa_nil)) (blkOk_by (by kernel_rfl)) (fun _ _ _ _ _ => (pg_name (i := 4) sc_convolved.nd rfl (Or.inl rfl))) (fun _ _ _ _ _ => pts_nil) (fun _ _ _ _ _ => (pe_has h_times (hr.mono (by decide)) (pa_cons (pe_tup (pa_cons (pe_ix (ix_seqK (K := K)) (pe_ix (ix_seqK (K := K)) (pv 2) (pv 3) (fun _ _ => rfl)) (pv 4) (fun _ _ => rfl)) (pa_cons pe_int pa_nil))) (pa_cons (pe_has h_times (hr.mono (by decide)) (pa_cons (pe_ix (ix_seqK (K := K)) (pv 0) (pv 4) (fun _ _ => rfl)) (pa_cons (pe_ix (ix_seqK (K := K)) (pv 1) (pe_op op_sub (pv 3) (pv 4)) (fun _ _ => rfl)) pa_nil))) pa_nil))))) pa_nil))))))), ?_⟩
  rintro ⟨a, b⟩ v1 v2 Q h1 h2 ⟨ha0, hal, hab, ha, hb, hk⟩ ret
  dsimp only at ha0 hal hab ha hb hk
  have g : Good H NoM H := .start H
  have hpos : 0 < a.length := List.length_pos_iff.mpr ha0
  have ts : Tsl [some (An NoM (LO (IQ K) a)), some (An NoM (LO (IQ K) b)), none, none, none] (start ["one", "other", "rows", "k", "j"] [v1, v2]) H :=
    wip_cons (Mn.mono (fun _ _ z => z) h1) (wip_cons (Mn.mono (fun _ _ z => z) h2) (non_cons (non_cons (non_cons nil_ts))))
  refine st_set (Fr NoM H (LO (LO II) ((List.range a.length).map binRow))) g ts ?_ fun σ2 H2 e2 g2 t2 => ?_
  · refine ty_conv (ty_bin (n := a.length - 1) ?_ (by omega)) fun _ _ h => ?_
    · apply ty_int
      · apply ty_i0
        · exact ty_lenL (ty_var rfl) fun _ _ h => an_tr h
        · exact ty_c
      · omega
    · rw [show a.length - 1 + 1 = a.length by omega] at h
      exact h
  refine st_ret (R := Fr NoM H (LO (IQ K) (conv a b))) g2 t2 ?_ fun v H' e x => ?_
  · refine ty_lc (conv a b) (ti_range1 (m := a.length) (ta_cons ?_ ta_nil) rfl (by omega) (by decide)) (by unfold conv; rw [List.length_map, List.length_range]) (by omega) fun B i c hc gB => ?_
    · exact ty_lenL (ty_var rfl) fun _ _ h => an_tr h
    obtain ⟨hi, rfl⟩ := range_at hc
    obtain ⟨hsum, hjs⟩ := hk i hi
    refine ty_fr (ty_sum (l := (List.range (i + 1)).map fun j => convT a b i j) (R := Fr NoM B (LO (IQ K) ((List.range (i + 1)).map fun j => convT a b i j))) ?_ (fun _ _ h => fr_tr h) hsum)
    refine ty_lc _ (ti_range1 (n := (i : Int) + 1) (m := i + 1) (ta_cons ?_ ta_nil) (by omega) (by omega) (by decide)) (by rw [List.length_map, List.length_range]) (by omega) fun B2 j c2 hc2 gB2 => ?_
    · exact ty_i0 (ty_var rfl) ty_c
    obtain ⟨hj, rfl⟩ := range_at hc2
    obtain ⟨hm, hbn⟩ := hjs j (by omega)
    have hj1 : j < a.length := by omega
    have hj2 : i - j < b.length := by omega
    refine ty_fr (ty_times (q := (((binRow i).getD j 0 : Int) : Rat)) (r := at0 a j * at0 b (i - j)) ?_ ?_ (sm_int _ hbn) hm)
    · refine ty_pair (n := (binRow i).getD j 0) (d := 1) ?_ ty_c rfl rfl
      have eB : (((List.range a.length).map binRow).getD i []) = binRow i := by
        rw [List.getD_eq_getElem?_getD, List.getElem?_map, List.getElem?_range hi]; rfl
      refine ty_ixI j (R := An NoM (LO II (binRow i))) ?_ (ty_var rfl) (fun _ _ h => h) rfl (by rw [bin_len]; exact hj)
      have q := ty_ixII (K := K) (H0 := B2) (M := NoM) (l := (List.range a.length).map binRow) (R := Fr NoM H (LO (LO II) ((List.range a.length).map binRow))) (i := (i : Int)) i (ps := (wipeP ((wipeP ([some (An NoM (LO (IQ K) a)), some (An NoM (LO (IQ K) b)), some (Fr NoM H (LO (LO II) ((List.range a.length).map binRow))), none, none]) [3]).set 3 (some (Iv NoM (.int (i : Int))))) [4]).set 4 (some (Iv NoM (.int (j : Int))))) (ta := tVar 2) (tb := tVar 3) (ty_var rfl) (ty_var rfl) (fun _ _ h => fr_an h) rfl (by rw [List.length_map, List.length_range]; exact hi)
      rw [eB] at q
      exact q
    · refine ty_times (ty_ixQL (R := An NoM (LO (IQ K) a)) j ?_ ?_ (fun _ _ h => h) rfl hj1) (ty_ixQL (R := An NoM (LO (IQ K) b)) (i := (i : Int) - (j : Int)) (i - j) ?_ ?_ (fun _ _ h => h) ?_ hj2) (ha _ (at0_mem hj1)) (hb _ (at0_mem hj2))
      · exact ty_var rfl
      · exact ty_var rfl
      · exact ty_var rfl
      · exact ty_i0 (ty_var rfl) (ty_var rfl)
      · omega
  · exact ret v H' (g2.up e).ex0 (Mn.mono (fun _ z => z.2) x)
theorem has_power_of (T : Tx K mg) : Has P w K mg base 1 "power_of" ["base", "exponent"] spPow := by
  refine has2 T.d_power_of sc_power_of (fun _ _ _ _ _ _ us hl => match us, hl with | [_, _], _ => rfl) fun f cdv A outer s H E hr => ⟨_,
    (pss_cons (ps_set (i := 2) sc_power_of.nd rfl (Or.inl rfl) pe_int)
      (pss_cons (ps_for PassesOwn.never rfl (pi_range1 (by rfl) T.b_range (pa_cons (pv 1) pa_nil)) (pg_name (i := 3) sc_power_of.nd rfl (Or.inl rfl)) (pss_one (ps_aug (i := 2) sc_power_of.nd rfl (Or.inl rfl) (pv 0) iop_mul)))
      (pss_one (ps_ret (pv 2))))), ?_⟩
  rintro ⟨b, n⟩ v1 v2 Q h1 h2 ⟨hb, hn⟩ ret
  dsimp only at hb hn
  have g : Good H NoM H := .start H
  have ts : Tsl [some (Iv NoM (.int b)), some (Iv NoM (.int (n : Int))), none, none] (start ["base", "exponent", "found", "k"] [v1, v2]) H := wip_cons h1 (wip_cons h2 (non_cons (non_cons nil_ts)))
  refine st_set (Iv NoM (.int (b ^ 0))) g ts (ty_int ty_c (by simp)) fun σ2 H2 e2 g2 t2 => ?_
  refine st_for1 n g2 t2 (ta_cons (ty_var rfl) ta_nil) (by omega) (by omega) (fun k => [some (Iv NoM (.int b)), some (Iv NoM (.int (n : Int))), some (Iv NoM (.int (b ^ k))), none]) (fun _ _ t => t) (fun k σ3 H3 hk g3 t3 D' hD cont => ?_) fun σ3 H3 g3 t3 => ?_
  · obtain ⟨v, ev, rv⟩ := t3.get (i := 2) (R := Iv NoM (.int (b ^ k))) rfl
    have rv : v = .int (b ^ k) := rv
    subst rv
    refine ⟨_, ev, ty_var (i := 0) (R := Iv NoM (.int b)) rfl σ3 H3 g3 t3 _ fun y H4 e4 r4 => ⟨b ^ k, b, rfl, r4, .inr ⟨by omega, by omega⟩, ?_⟩⟩
    refine cont _ H4 (g3.up e4) (Tsl.to ((t3.up e4).set (R := Iv NoM (.int (b ^ (k + 1)))) (i := 2) ?_) ⟨.inr rfl, .inr rfl, .inr rfl, .inl rfl, trivial⟩)
    show V.int (b ^ k * b) = V.int (b ^ (k + 1))
    rw [Int.pow_succ]
  · refine st_ret g3 t3 (ty_var (i := 2) rfl) fun v H' e x => ?_
    exact ret v H' (g3.up e).ex0 x
theorem has_choices (T : Tx K mg) : Has P w K mg base 1 "choices" ["size", "many"] spCh := by
  refine has2 T.d_choices sc_choices (fun _ _ _ _ _ _ us hl => match us, hl with | [_, _], _ => rfl) fun f cdv A outer s H E hr => ⟨_,
    (pss_cons (ps_if (pt_cmpR op_gt (pv 1) (pv 0) (nomark _)) (pss_one (ps_ret pe_int)) pss_nil)
      (pss_cons (ps_set (i := 2) sc_choices.nd rfl (Or.inl rfl) pe_int)
      (pss_cons (ps_for PassesOwn.never rfl (pi_range1 (by rfl) T.b_range (pa_cons (pe_callB (call_min2 rfl) (by rfl) T.b_min (by decide +kernel) (pa_cons (pv 1) (pa_cons (pe_op op_sub (pv 0) (pv 1)) pa_nil))) pa_nil)) (pg_name (i := 3) sc_choices.nd rfl (Or.inl rfl)) (pss_one (ps_set (i := 2) sc_choices.nd rfl (Or.inl rfl) (pe_op op_fdiv (pe_op op_mul (pv 2) (pe_op op_sub (pv 0) (pv 3))) (pe_op op_add (pv 3) pe_int)))))
      (pss_one (ps_ret (pv 2)))))), ?_⟩
  rintro ⟨n, m⟩ v1 v2 Q h1 h2 ⟨hn, hm⟩ ret
  dsimp only at hn hm
  have g : Good H NoM H := .start H
  have ts : Tsl [some (Iv NoM (.int (n : Int))), some (Iv NoM (.int (m : Int))), none, none] (start ["size", "many", "found", "k"] [v1, v2]) H := wip_cons h1 (wip_cons h2 (non_cons (non_cons nil_ts)))
  refine st_when (b := decide (m > n)) g ts (tt_is (tt_test (ty_i0 (ty_var rfl) (ty_var rfl))) (decide_eq_decide.mpr (by omega))) (fun hb H1 e1 g1 t1 => ?_) fun hb H1 e1 g1 t1 => ?_
  · have hb := of_decide_eq_true hb
    refine st_ret (R := Iv NoM (.int 0)) g1 t1 ty_c fun v H' e x => ret v H' (g1.up e).ex0 ?_
    show v = V.int ((Mi.choices n m : Nat) : Int)
    unfold Mi.choices
    rw [if_pos hb]
    exact x
  have hb := of_decide_eq_false hb
  refine st_set (Iv NoM (.int ((chTo n 0 : Nat) : Int))) g1 t1 (ty_int ty_c rfl) fun σ2 H2 e2 g2 t2 => ?_
  refine st_for1 (min m (n - m)) g2 t2 (hi := ((min m (n - m) : Nat) : Int)) (ta_cons ?_ ta_nil) (by omega) (by omega) (fun k => [some (Iv NoM (.int (n : Int))), some (Iv NoM (.int (m : Int))), some (Iv NoM (.int ((chTo n k : Nat) : Int))), none]) (fun _ _ t => t) (fun k σ3 H3 hk g3 t3 D' hD cont => ?_) fun σ3 H3 g3 t3 => ?_
  · apply ty_int
    · walk_at "ty"
    · omega
  · refine st_set1 (Iv NoM (.int ((chTo n (k + 1) : Nat) : Int))) g3 t3 ?_ fun σ4 H4 e4 g4 t4 => cont σ4 H4 g4 (Tsl.to t4 ⟨.inr rfl, .inr rfl, .inr rfl, .inl rfl, trivial⟩)
    apply ty_int
    · apply ty_i
      · apply ty_i
        · exact ty_var rfl
        · exact ty_i0 (ty_var rfl) (ty_var rfl)
        · exact .inr ⟨by omega, by omega⟩
      · exact ty_i0 (ty_var rfl) ty_c
      · exact ⟨by omega, by omega⟩
    · have e : ((n : Int) - (k : Int)) = ((n - k : Nat) : Int) := by omega
      rw [e]
      show ((chTo n k : Nat) : Int) * ((n - k : Nat) : Int) / ((k : Int) + 1) = ((chTo n k * (n - k) / (k + 1) : Nat) : Int)
      rw [Int.natCast_ediv, Int.natCast_mul]
      rfl
  · refine st_ret g3 t3 (ty_var (i := 2) rfl) fun v H' e x => ?_
    refine ret v H' (g3.up e).ex0 ?_
    show v = V.int ((Mi.choices n m : Nat) : Int)
    unfold Mi.choices
    rw [if_neg hb]
    exact x
end
end My
end
section
set_option Elab.async false
set_option linter.all false
set_option maxRecDepth 100000
set_option maxHeartbeats 2000000
namespace My
open PySem PySem.Spec PyProof.Rows L2 Evl
local macro_rules | `(tactic| walk_at "ty") => `(tactic| repeat' (first | exact ty_c | exact ty_var rfl | apply ty_num0 | apply ty_den1 | apply ty_i0 | apply ty_i | apply ty_un | apply ty_pair | apply ty_min))
open Mi (at0 psIn psTo elIn elTo elTerm monicE monicFrom binRow convT conv chTo acRow acRows acSign acIn acTo addChoices mcS mcTo mulChoices)
/-! a list at F that is stored to: its items lie in S -/
def Ow {β : Type} (F : Addr) (S : Addr → Prop) (Pb : β → VP) [∀ b, Mn (Pb b)] (l : List β) : SV NoM := ⟨fun H v => v = .ref F ∧ ∃ vs, H F = some (.lst vs) ∧ Paired (fun b x => Pb b S H x) l vs, fun k ⟨e, vs, h, p⟩ => ⟨e, vs, k F _ h fun _ m => m, Paired.mapR p fun b x q => Mn.up (fun _ z => z) (fun a o ea n => k a o ea fun _ m => m) q⟩⟩
/-- .. just made -/
def Nw {β : Type} (H0 : Hp) (Pb : β → VP) [∀ b, Mn (Pb b)] (l : List β) : SV NoM := ⟨fun H v => ∃ F, v = .ref F ∧ H0 F = none ∧ (Ow F (fun a => H0 a = none ∧ a ≠ F) Pb l).R H (.ref F), fun k ⟨F, e, n, h⟩ => ⟨F, e, n, (Ow F (fun a => H0 a = none ∧ a ≠ F) Pb l).st k h⟩⟩
section
variable {H0 : Hp} {K : PySem.W.Frag} {ps : List (Option (SV NoM))} {ta tb te : TE} {E : XK} {R R1 : SV NoM} {β : Type} {Pb : β → VP} [∀ b, Mn (Pb b)] {l : List β} {F : Addr} {S : Addr → Prop} {H : Hp} {v : V} {σ : L2.St} {D : Ends}
theorem ow_an (h : (Ow F S Pb l).R H v) : LO Pb l (fun a => ¬ NoM a) H v := by
  obtain ⟨e, vs, h, p⟩ := h
  exact ⟨F, vs, e, fun m => m, h, Paired.mapR p fun b x q => Mn.mono (fun _ _ m => m) q⟩
theorem ow_tr (h : (Ow F S Pb l).R H v) : LO Pb l Tr H v := Mn.any (ow_an h)
theorem Tsl.put {i : Nat} (r : R.R H v) (hv : σ[i]? = some (some v)) (t : Tsl ps σ H) : Tsl (ps.set i (some R)) σ H := by
  have q := Tsl.set (i := i) r t
  have e : σ.set i (some v) = σ := by
    apply List.ext_getElem?
    intro j
    rw [List.getElem?_set]
    by_cases h : i = j
    · subst h
      rw [hv]
      have hl : i < σ.length := (List.getElem?_eq_some_iff.mp hv).1
      simp [hl]
    · rw [if_neg h]
  rw [e] at q
  exact q
theorem ty_lst1N {b : β} (h : Ty H0 NoM ps te R) (hc : ∀ H v, R.R H v → Pb b (fun a => ¬ NoM a ∧ H0 a = none) H v) : Ty H0 NoM ps (tLst (tCons te tNil)) (Nw H0 Pb [b]) := fun σ H g ts Q q =>
  (ta_cons h ta_nil) σ H g ts _ fun vs H2 e p => by
    cases p with
    | cons r t =>
      cases t
      refine ⟨by show 1 ≤ sizeLine; decide, fun a ha => q _ _ (e.trans (Ex.new ha)) ⟨a, rfl, ((g.up e).fresh ha).2, rfl, _, upd_same, .cons ?_ .nil⟩⟩
      have k := Mn.tr (hc _ _ r)
      exact Mn.ex (Ex.new ha) (Mn.mono (fun c z => ⟨z.1.2, fun w => z.2 (w ▸ ha)⟩) k)
theorem st_setV {i : Nat} {tz : TS} {B : Hp} (R : SV NoM) (g : Good B NoM H) (ts : Tsl ps σ H) (h : Ty B NoM ps te R) (k : ∀ v H', Ex H H' → R.R H' v → tz D (σ.set i (some v)) H') : tSeq (tAsg te (gName i)) tz D σ H := h σ H g ts _ k
/-- found.append(e) -/
theorem st_appO {B : Hp} {i : Nat} (c : β) (g : Good B NoM H) (gH : Good H0 NoM H) (n0 : H0 F = none) (ts : Tsl ps σ H) (hs : ps[i]? = some (some (Ow F S Pb l))) (hz : l.length < 100000) (h : Ty B NoM ps te R) (hc : ∀ H v, R.R H v → Pb c S H v) (hS : ∀ a, S a → a ≠ F) (hm : MoAll F (ps.set i none))
    (k : ∀ H', Good H0 NoM H' → Tsl (ps.set i (some (Ow F S Pb (l ++ [c])))) σ H' → D.nx σ H') : tDrop (tBM K "list" rAppend (tVar i) (tCons te tNil)) D σ H := by
  obtain ⟨v, ev, e, vs, hF, p⟩ := ts.get hs
  subst e
  refine st_app g ts (ty_conv (ty_var hs) fun _ _ r => r.1) hF (by rw [← pr_len p]; exact hz) h fun u H1 e1 h1 t1 r1 => ?_
  refine k _ (good_mut (gH.up e1) n0) ?_
  obtain ⟨v2, ev2, e2, ws, hw, p2⟩ := t1.get hs
  subst e2
  rw [h1] at hw
  cases hw
  have t2 := Tsl.mut (ys := vs ++ [u]) h1 (t1.drop (i := i)) hm
  have t3 := Tsl.put (R := Ow F S Pb (l ++ [c])) (i := i) ⟨rfl, vs ++ [u], upd_same, pr_app (Paired.mapR p2 fun b x q => Mn.up (fun _ z => z) (upd_keep h1 hS) q) (.cons (Mn.up (fun _ z => z) (upd_keep h1 hS) (hc _ _ r1)) .nil)⟩ ev2 t2
  rw [List.set_set] at t3
  exact t3
end
theorem divN_pos (k : Nat) (h : k ≠ 0) : (DivN.divN (1 : Rat) k).num = 1 ∧ (DivN.divN (1 : Rat) k).den = k := by
  have e : DivN.divN (1 : Rat) k = mkRat 1 k := by
    have := div_nat 1 k h
    rw [show (1 : Rat).num * 1 = 1 from rfl, show (1 : Rat).den * k = k by show 1 * k = k; omega] at this
    exact this.symm
  rw [e, Rat.num_mkRat, Rat.den_mkRat, if_neg h, if_neg h]
  simp
theorem divN_neg (k : Nat) (h : k ≠ 0) : (DivN.divN (-1 : Rat) k).num = -1 ∧ (DivN.divN (-1 : Rat) k).den = k := by
  have e : DivN.divN (-1 : Rat) k = mkRat (-1) k := by
    have := div_nat (-1) k h
    rw [show (-1 : Rat).num * 1 = -1 from rfl, show (-1 : Rat).den * k = k by show 1 * k = k; omega] at this
    exact this.symm
  rw [e, Rat.num_mkRat, Rat.den_mkRat, if_neg h, if_neg h]
  simp
def AcOk (cs : List Rat) (n many t : Nat) (s : List Rat) (R : List (List Rat)) : Prop :=
  t = Mi.choices n many ∧ t ≤ 50 ∧ s = psTo cs n t ∧ R = acRows s many t ∧ PsOk cs n t ∧ (∀ x ∈ s, Sm x) ∧ (∀ i, i ≤ many → ∀ j, j ≤ t → ((i : Int) ^ j).natAbs < 2 ^ 64) ∧
  (∀ k, k < many → ∀ i, i < k + 1 → ConvOk ((acTo R t k).getD (k + 1 - (i + 1)) []) (R.getD (i + 1) []) ∧ (acIn R (acTo R t k) (k + 1) t i).length = t + 1 ∧ (conv ((acTo R t k).getD (k + 1 - (i + 1)) []) (R.getD (i + 1) [])).length = t + 1 ∧
    ∀ j, j < t + 1 → Sm (at0 (acIn R (acTo R t k) (k + 1) t i) j) ∧ Sm (at0 (conv ((acTo R t k).getD (k + 1 - (i + 1)) []) (R.getD (i + 1) [])) j) ∧ Sm (acSign (i + 1) (k + 1) * at0 (conv ((acTo R t k).getD (k + 1 - (i + 1)) []) (R.getD (i + 1) [])) j)) ∧
  t < ((acTo R t many).getD many []).length ∧ at0 ((acTo R t many).getD many []) 0 = ((t : Int) : Rat) ∧ ElOk ((acTo R t many).getD many []) t
abbrev spAc (K : PySem.W.Frag) : Sp := Sp2 (ι := List Rat × Nat × Nat) (fun i => TO' K (IQ K) i.1) (fun i => IV (.int (i.2.2 : Int))) (fun i => i.1.length = i.2.1 + 1 ∧ i.2.1 ≤ 50 ∧ i.2.2 ≤ 50 ∧ ∃ t s R, AcOk i.1 i.2.1 i.2.2 t s R) (fun i => TO' K (IQ K) (addChoices i.1 i.2.1 i.2.2))
theorem acTo_len (R : List (List Rat)) (t : Nat) : ∀ k, (acTo R t k).length = k + 1
  | 0 => rfl
  | k + 1 => by unfold acTo; rw [List.length_append, acTo_len R t k]; rfl
theorem sm_div1 (i k : Nat) (h : k ≠ 0) (hk : k < 2 ^ 60) : Sm (acSign i k : Rat) := by
  unfold acSign
  have hp : (2 : Nat) ^ 60 ≤ 2 ^ 4400 := Nat.pow_le_pow_right (by decide) (by decide)
  split
  · obtain ⟨a, b⟩ := divN_pos k h
    exact ⟨by rw [a]; exact Nat.one_lt_two_pow (by decide), by rw [b]; omega⟩
  · obtain ⟨a, b⟩ := divN_neg k h
    exact ⟨by rw [a]; exact Nat.one_lt_two_pow (by decide), by rw [b]; omega⟩
section
variable {P : Program} {w : World} {K : PySem.W.Frag} {mg : Str → Option Value} {base : Heap}
theorem has_add_choices (T : Tx K mg) : Has P w K mg base 7 "add_choices" ["poly", "many"] (spAc K) := by
  have h_monic_from := has_monic_from (P := P) (w := w) (base := base) T
  have h_plus := has_plus (P := P) (w := w) (base := base) T
  have h_times := has_times (P := P) (w := w) (base := base) T
  have h_convolved := has_convolved (P := P) (w := w) (base := base) T
  have h_power_of := has_power_of (P := P) (w := w) (base := base) T
  have h_power_sums_of := has_power_sums_of (P := P) (w := w) (base := base) T
  have h_choices := has_choices (P := P) (w := w) (base := base) T
  refine has2 T.d_add_choices sc_add_choices (fun _ _ _ _ _ _ us hl => match us, hl with | [_, _], _ => rfl) fun f cdv A outer s H E hr => ⟨_,
    (pss_cons (ps_set (i := 2) sc_add_choices.nd rfl (Or.inr rfl) (pe_has h_choices (hr.mono (by decide)) (pa_cons (pe_op op_sub (pe_callB (len_seqK (K := K)) (by rfl) T.b_len (by decide +kernel) (pa_cons (pv 0) pa_nil)) pe_int) (pa_cons (pv 1) pa_nil))))
      (pss_cons (ps_set (i := 3) sc_add_choices.nd rfl (Or.inr rfl) (pe_has h_power_sums_of (hr.mono (by decide)) (pa_cons (pv 0) (pa_cons (pv 2) pa_nil))))
      (pss_cons (ps_setLc (i := 4) (own := [("i", 8)]) rfl sc_add_choices.nd rfl rfl (sw_true rfl rfl rfl (by decide +kernel)) (pi_range1 (by rfl) T.b_range (pa_cons (pe_op op_add (pv 1) pe_int) pa_nil)) (blkOk_by (by kernel_rfl)) (fun _ _ _ _ _ => (pg_name (i := 8) sc_add_choices.nd rfl (Or.inr rfl))) (fun _ _ _ _ _ => pts_nil) (fun _ _ _ _ _ => (pe_lc (own := [("j", 11)]) rfl sc_add_choices.nd (pi_range1 (by rfl) T.b_range (pa_cons (pe_op op_add (pv 2) pe_int) pa_nil)) (blkOk_by (by kernel_rfl)) (fun _ _ _ _ _ => (pg_name (i := 11) sc_add_choices.nd rfl (Or.inl rfl))) (fun _ _ _ _ _ => pts_nil) (fun _ _ _ _ _ => (pe_has h_times (hr.mono (by decide)) (pa_cons (pe_ix (ix_seqK (K := K)) (pv 3) (pv 11) (fun _ _ => rfl)) (pa_cons (pe_tup (pa_cons (pe_has h_power_of (hr.mono (by decide)) (pa_cons (pv 8) (pa_cons (pv 11) pa_nil))) (pa_cons pe_int pa_nil))) pa_nil)))))))
      (pss_cons (ps_set (i := 5) sc_add_choices.nd rfl (Or.inl rfl) (pe_lst (pa_cons (pe_op op_cat (pe_lst (pa_cons (pe_gc T.g_ONE) pa_nil)) (pe_op op_rep (pe_lst (pa_cons (pe_gc T.g_ZERO) pa_nil)) (pv 2))) pa_nil)))
      (pss_cons (ps_for PassesOwn.never rfl (pi_range2 (by rfl) T.b_range (pa_cons pe_int (pa_cons (pe_op op_add (pv 1) pe_int) pa_nil))) (pg_name (i := 6) sc_add_choices.nd rfl (Or.inl rfl)) (pss_cons (ps_set (i := 7) sc_add_choices.nd rfl (Or.inl rfl) (pe_op op_rep (pe_lst (pa_cons (pe_gc T.g_ZERO) pa_nil)) (pe_op op_add (pv 2) pe_int)))
      (pss_cons (ps_for PassesOwn.never rfl (pi_range2 (by rfl) T.b_range (pa_cons pe_int (pa_cons (pe_op op_add (pv 6) pe_int) pa_nil))) (pg_name (i := 8) sc_add_choices.nd rfl (Or.inl rfl)) (pss_cons (ps_set (i := 9) sc_add_choices.nd rfl (Or.inl rfl) (pe_has h_convolved (hr.mono (by decide)) (pa_cons (pe_ix (ix_seqK (K := K)) (pv 5) (pe_op op_sub (pv 6) (pv 8)) (fun _ _ => rfl)) (pa_cons (pe_ix (ix_seqK (K := K)) (pv 4) (pv 8) (fun _ _ => rfl)) pa_nil))))
      (pss_cons (ps_set (i := 10) sc_add_choices.nd rfl (Or.inr rfl) (pe_ifExp (pt_cmpR op_eq (pe_op op_mod (pv 8) pe_int) pe_int (nomark _)) (pe_tup (pa_cons pe_int (pa_cons (pv 6) pa_nil))) (pe_tup (pa_cons (pe_un un_neg pe_int) (pa_cons (pv 6) pa_nil)))))
      (pss_one (ps_setLc (i := 7) (own := [("a", 12), ("b", 13)]) rfl sc_add_choices.nd rfl rfl (sw_true rfl rfl rfl (by decide +kernel)) (pi_zipK (K := K) T.b_zip (pa_cons (pv 7) (pa_cons (pv 9) pa_nil))) (blkOk_by (by kernel_rfl)) (fun _ _ _ _ _ => (pg_tupK (K := K) (n := 2) rfl (pgs_cons (pg_name (i := 12) sc_add_choices.nd rfl (Or.inl rfl)) (pgs_cons (pg_name (i := 13) sc_add_choices.nd rfl (Or.inl rfl)) pgs_nil)))) (fun _ _ _ _ _ => pts_nil) (fun _ _ _ _ _ => (pe_has h_plus (hr.mono (by decide)) (pa_cons (pv 12) (pa_cons (pe_has h_times (hr.mono (by decide)) (pa_cons (pv 10) (pa_cons (pv 13) pa_nil))) pa_nil)))))))))
      (pss_one (ps_expr (pe_bm PySem.F.plainAttrs_list PySem.F.slot_list_append PySem.F.type_list_append mt_append (pv 5) (pa_cons (pv 7) pa_nil)))))))
      (pss_one (ps_ret (pe_has h_monic_from (hr.mono (by decide)) (pa_cons (pe_ix (ix_seqK (K := K)) (pv 5) (pv 1) (fun _ _ => rfl)) pa_nil))))))))), ?_⟩
  rintro ⟨cs, n, many⟩ v1 v2 Q h1 h2 ⟨hlen, hn, hmany, t, s, R, ht, ht50, hs, hR, hps, hsm, hpow, hac, hfl, hf0, hel⟩ ret
  dsimp only at hlen hn hmany ht hs hR hps hpow hac hfl hf0 hel
  have g : Good H NoM H := .start H
  have ts : Tsl [some (An NoM (TO' K (IQ K) cs)), some (Iv NoM (.int (many : Int))), none, none, none, none, none, none, none, none, none, none, none, none] (start ["poly", "many", "total", "sums", "rows", "found", "k", "current", "i", "part", "sign", "j", "a", "b"] [v1, v2]) H :=
    wip_cons (Mn.mono (fun _ _ z => z) h1) (wip_cons h2 (non_cons (non_cons (non_cons (non_cons (non_cons (non_cons (non_cons (non_cons (non_cons (non_cons (non_cons (non_cons nil_ts)))))))))))))
  have hsl : s.length = t + 1 := by rw [hs, psTo_len]
  have hRl : R.length = many + 1 := by rw [hR]; unfold acRows; rw [List.length_map, List.length_range]
  refine st_set (Iv NoM (.int (t : Int))) g ts ?_ fun σ2 H2 e2 g2 t2 => ?_
  · rw [ht]
    refine ty_ch (n := n) (m := many) ?_ ?_ (by omega) (by omega)
    · apply ty_int
      · apply ty_i0
        · exact ty_lenT (ty_var rfl) fun _ _ h => an_tr h
        · exact ty_c
      · omega
    · exact ty_var rfl
  refine st_set (Fr NoM H (LO (IQ K) s)) g2 t2 ?_ fun σ3 H3 e3 g3 t3 => ?_
  · rw [hs]
    exact ty_ps (n := n) (R := An NoM (TO' K (IQ K) cs)) (ty_var rfl) (fun _ _ h => an_tr h) (ty_var rfl) hlen (by omega) (by omega) hps
  refine st_set (Fr NoM H (LO (LO (IQ K)) R)) g3 t3 ?_ fun σ4 H4 e4 g4 t4 => ?_
  · refine ty_lc R (ti_range1 (n := (many : Int) + 1) (m := many + 1) (ta_cons ?_ ta_nil) (by omega) (by omega) (by decide)) hRl (by omega) fun B i c hc gB => ?_
    · exact ty_i0 (ty_var rfl) ty_c
    rw [hR] at hc
    obtain ⟨hi, rfl⟩ := range_at hc
    refine ty_lc (acRow s t i) (ti_range1 (n := (t : Int) + 1) (m := t + 1) (ta_cons ?_ ta_nil) (by omega) (by omega) (by decide)) (by unfold acRow; rw [List.length_map, List.length_range]) (by omega) fun B2 j c2 hc2 gB2 => ?_
    · exact ty_i0 (ty_var rfl) ty_c
    obtain ⟨hj, rfl⟩ := range_at hc2
    have hp := hpow i (by omega) j (by omega)
    refine ty_fr (ty_times (q := at0 s j) (r := (((i : Int) ^ j : Int) : Rat)) ?_ ?_ (hsm _ (at0_mem (by omega))) (sm_int _ hp))
    · exact ty_ixQL (R := Fr NoM H (LO (IQ K) s)) j (ty_var rfl) (ty_var rfl) (fun _ _ h => fr_an h) rfl (by omega)
    · exact ty_pair (n := (i : Int) ^ j) (d := 1) (ty_pow (ty_var rfl) (ty_var rfl) (by omega) (by omega)) ty_c rfl rfl
  -- found
  refine st_setV (Nw H4 (LO (IQ K)) [(1 : Rat) :: List.replicate t 0]) g4.base t4 ?_ fun v H5 e5 r5 => ?_
  · refine ty_lst1N (Pb := LO (IQ K)) (H0 := H4) (b := (1 : Rat) :: List.replicate t 0) (R := Fr NoM H4 (LO (IQ K) ((1 : Rat) :: List.replicate t 0))) ?_ (fun _ _ h => h)
    refine ty_cat (Pb := IQ K) (l := [(1 : Rat)]) (l' := List.replicate t 0) ?_ ?_ (by rw [List.length_replicate]; simp; omega)
    · exact ty_lst1 (R := Qs NoM K 1) (ty_one T) fun _ _ h => h
    · refine ty_rep (Pb := IQ K) (c := (0 : Rat)) (n := (t : Int)) ?_ ?_ rfl (by omega)
      · exact ty_lst1 (R := Qs NoM K 0) (ty_zero T) fun _ _ h => h
      · exact ty_var rfl
  obtain ⟨F, rfl, hF4, hO⟩ := r5
  have g5 := g4.up e5
  have hFH : H F = none := fresh_back g4.ex0 hF4
  -- what was known avoids F
  have t5 : Tsl [some (An NoM (TO' K (IQ K) cs)), some (Iv NoM (.int (many : Int))), some (Iv NoM (.int (t : Int))), some (At NoM (fun a => a ≠ F) (fun _ _ m => m) (LO (IQ K) s)), some (At NoM (fun a => a ≠ F) (fun _ _ m => m) (LO (LO (IQ K)) R)), some (Ow F (fun a => a ≠ F) (LO (IQ K)) (acTo R t 0)), none, none, none, none, none, none, none, none] (σ4.set 5 (some (.ref F))) H5 := by
    have q := (t4.up e5).set (i := 5) (R := Ow F (fun a => a ≠ F) (LO (IQ K)) (acTo R t 0)) (v := .ref F) ?_
    · obtain ⟨v3, ev3, r3⟩ := t4.get (i := 3) (R := Fr NoM H (LO (IQ K) s)) rfl
      obtain ⟨v4, ev4, r4⟩ := t4.get (i := 4) (R := Fr NoM H (LO (LO (IQ K)) R)) rfl
      have q3 := Tsl.put (i := 3) (R := At NoM (fun a => a ≠ F) (fun _ _ m => m) (LO (IQ K) s)) (Mn.mono (P := LO (IQ K) s) (fun _ z => z.2) (avoid (P := LO (IQ K) s) r3 hF4 e5)) (by rw [List.getElem?_set_ne (by decide)]; exact ev3) q
      have q4 := Tsl.put (i := 4) (R := At NoM (fun a => a ≠ F) (fun _ _ m => m) (LO (LO (IQ K)) R)) (Mn.mono (P := LO (LO (IQ K)) R) (fun _ z => z.2) (avoid (P := LO (LO (IQ K)) R) r4 hF4 e5)) (by rw [List.getElem?_set_ne (by decide)]; exact ev4) q3
      exact q4
    · obtain ⟨_, vs, hv, p⟩ := hO
      exact ⟨rfl, vs, hv, Paired.mapR p fun b x z => Mn.mono (fun _ w => w.2) z⟩
  refine st_for2 many g5 t5 (lo := 1) (hi := (many : Int) + 1) (ta_cons ty_c (ta_cons (ty_i0 (ty_var rfl) ty_c) ta_nil)) (by omega) (by omega) (fun k => [some (An NoM (TO' K (IQ K) cs)), some (Iv NoM (.int (many : Int))), some (Iv NoM (.int (t : Int))), some (At NoM (fun a => a ≠ F) (fun _ _ m => m) (LO (IQ K) s)), some (At NoM (fun a => a ≠ F) (fun _ _ m => m) (LO (LO (IQ K)) R)), some (Ow F (fun a => a ≠ F) (LO (IQ K)) (acTo R t k)), none, none, none, none, none, none, none, none]) (fun _ _ t => t) (fun k σ6 H6 hk g6 t6 D' hD cont => ?_) fun σ6 H6 g6 t6 => ?_
  · have hFl := acTo_len R t k
    have ac := hac k hk
    have hF6 : H6 F ≠ none := by
      obtain ⟨v, ev, e, vs, hv, p⟩ := t6.get (i := 5) (R := Ow F (fun a => a ≠ F) (LO (IQ K)) (acTo R t k)) rfl
      rw [hv]; exact fun z => by cases z
    refine st_set (Fr NoM H6 (LO (IQ K) (acIn R (acTo R t k) (k + 1) t 0))) g6.base t6 ?_ fun σ7 H7 e7 g7 t7 => ?_
    · refine ty_rep (Pb := IQ K) (c := (0 : Rat)) (n := (t : Int) + 1) ?_ ?_ rfl (by omega)
      · exact ty_lst1 (R := Qs NoM K 0) (ty_zero T) fun _ _ h => h
      · exact ty_i0 (ty_var rfl) ty_c
    refine st_for2 (k + 1) g7 t7 (lo := 1) (hi := 1 + (k : Int) + 1) (ta_cons ty_c (ta_cons (ty_i0 (ty_var rfl) ty_c) ta_nil)) (by omega) (by omega) (fun i => [some (An NoM (TO' K (IQ K) cs)), some (Iv NoM (.int (many : Int))), some (Iv NoM (.int (t : Int))), some (At NoM (fun a => a ≠ F) (fun _ _ m => m) (LO (IQ K) s)), some (At NoM (fun a => a ≠ F) (fun _ _ m => m) (LO (LO (IQ K)) R)), some (Ow F (fun a => a ≠ F) (LO (IQ K)) (acTo R t k)), some (Iv NoM (.int (1 + (k : Int)))), some (Fr NoM H6 (LO (IQ K) (acIn R (acTo R t k) (k + 1) t i))), none, none, none, none, none, none]) (fun _ _ t => t) (fun i σ8 H8 hi g8 t8 D2 hD2 cont2 => ?_) fun σ8 H8 g8 t8 => ?_
    · obtain ⟨cok, hl1, hl2, hj⟩ := ac i hi
      refine st_set (Fr NoM H6 (LO (IQ K) (conv ((acTo R t k).getD (k + 1 - (i + 1)) []) (R.getD (i + 1) [])))) g8 t8 ?_ fun σ9 H9 e9 g9 t9 => ?_
      · refine ty_conv' (R := An NoM (LO (IQ K) ((acTo R t k).getD (k + 1 - (i + 1)) []))) (R2' := An NoM (LO (IQ K) (R.getD (i + 1) []))) ?_ (fun _ _ h => an_tr h) ?_ (fun _ _ h => an_tr h) cok
        · exact ty_ixQQ (R := Ow F (fun a => a ≠ F) (LO (IQ K)) (acTo R t k)) (i := 1 + (k : Int) - (1 + (i : Int))) (k + 1 - (i + 1)) (ty_var rfl) (ty_i0 (ty_var rfl) (ty_var rfl)) (fun _ _ h => ow_an h) (by omega) (by omega)
        · exact ty_ixQQ (R := At NoM (fun a => a ≠ F) (fun _ _ m => m) (LO (LO (IQ K)) R)) (i + 1) (ty_var rfl) (ty_var rfl) (fun _ _ h => Mn.mono (fun _ _ m => m) h) (by omega) (by omega)
      refine st_set (Qs NoM K (acSign (i + 1) (k + 1))) g9 t9 ?_ fun σa Ha ea ga ta => ?_
      · refine ty_if (b := decide ((i + 1) % 2 = 1)) (tt_is (tt_test (ty_eqI (ty_i (ty_var rfl) ty_c (show (0 : Int) < 2 by decide)) ty_c rfl)) ?_) (fun hb => ?_) fun hb => ?_
        · rw [dec_int, Bool.beq_eq_decide_eq]
          exact decide_eq_decide.mpr (by omega)
        · have hb := of_decide_eq_true hb
          obtain ⟨a, b⟩ := divN_pos (k + 1) (by omega)
          rw [show (acSign (i + 1) (k + 1) : Rat) = DivN.divN 1 (k + 1) from if_pos hb]
          exact ty_pair ty_c (ty_var rfl) a.symm (by rw [b]; omega)
        · have hb := of_decide_eq_false hb
          obtain ⟨a, b⟩ := divN_neg (k + 1) (by omega)
          rw [show (acSign (i + 1) (k + 1) : Rat) = DivN.divN (-1) (k + 1) from if_neg hb]
          exact ty_pair (ty_un ty_c) (ty_var rfl) a.symm (by rw [b]; omega)
      refine st_set1 (Fr NoM H6 (LO (IQ K) (acIn R (acTo R t k) (k + 1) t (i + 1)))) ga ta ?_ fun σb Hb eb gb tb => cont2 σb Hb gb (Tsl.to tb ⟨.inr rfl, .inr rfl, .inr rfl, .inr rfl, .inr rfl, .inr rfl, .inr rfl, .inr rfl, .inl rfl, .inl rfl, .inl rfl, .inl rfl, .inl rfl, .inl rfl, trivial⟩)
      refine ty_lc (acIn R (acTo R t k) (k + 1) t (i + 1)) (ti_zip (0 : Rat) (0 : Rat) (Pc := IQ K) (Pd := IQ K) (xs := acIn R (acTo R t k) (k + 1) t i) (ys := conv ((acTo R t k).getD (k + 1 - (i + 1)) []) (R.getD (i + 1) [])) (R1 := Fr NoM H6 (LO (IQ K) (acIn R (acTo R t k) (k + 1) t i))) (R2' := Fr NoM H6 (LO (IQ K) (conv ((acTo R t k).getD (k + 1 - (i + 1)) []) (R.getD (i + 1) [])))) (ta_cons (ty_var rfl) (ta_cons (ty_var rfl) ta_nil)) (fun _ _ h => fr_an h) (fun _ _ h => fr_an h) (by decide) (by decide)) (List.length_zipWith ..) (by rw [hl1, hl2]; omega) fun B2 j c2 hc2 gB2 => ?_
      obtain ⟨j1, j2, rfl⟩ := zip_at (0 : Rat) (0 : Rat) hc2
      obtain ⟨s1, s2, s3⟩ := hj j (by omega)
      refine ty_fr (ty_plus (q := at0 (acIn R (acTo R t k) (k + 1) t i) j) (r := acSign (i + 1) (k + 1) * at0 (conv ((acTo R t k).getD (k + 1 - (i + 1)) []) (R.getD (i + 1) [])) j) (ty_conv (ty_var (i := 12) rfl) fun _ _ h => h) ?_ s1 s3)
      exact ty_times (ty_var (i := 10) rfl) (ty_conv (ty_var (i := 13) rfl) fun _ _ h => h) (sm_div1 _ _ (by omega) (by omega)) s2
    · refine st_appO (H0 := H) (F := F) (i := 5) (S := fun a => a ≠ F) (l := acTo R t k) (acIn R (acTo R t k) (k + 1) t (k + 1)) (R := Fr NoM H6 (LO (IQ K) (acIn R (acTo R t k) (k + 1) t (k + 1)))) g8 (g6.trans g8) hFH t8 rfl (by omega) (ty_var rfl) (fun _ _ h => Mn.mono (fun a z w => hF6 (by rw [← w]; exact z.2)) h) (fun _ z => z) ?_ fun H9 g9 t9 => cont _ H9 g9 (Tsl.to t9 ⟨.inr rfl, .inr rfl, .inr rfl, .inr rfl, .inr rfl, .inr rfl, .inl rfl, .inl rfl, .inl rfl, .inl rfl, .inl rfl, .inl rfl, .inl rfl, .inl rfl, trivial⟩)
      exact ⟨mo_tq, mo_iv, mo_iv, mo_at fun _ z => z, mo_at fun _ z => z, mo_iv, mo_at fun a z w => hF6 (by rw [← w]; exact z.2), trivial⟩
  · refine st_ret (R := An NoM (TO' K (IQ K) (addChoices cs n many))) g6 t6 ?_ fun v H' e x => ret v H' (g6.up e).ex0 x
    have eA : addChoices cs n many = monicFrom ((acTo R t many).getD many []) t := by
      unfold addChoices
      rw [hR, hs, ht]
    rw [eA]
    refine ty_mo (R := An NoM (LO (IQ K) ((acTo R t many).getD many []))) ?_ (fun _ _ h => an_tr h) hfl (by omega) hf0 hel
    exact ty_ixQQ (R := Ow F (fun a => a ≠ F) (LO (IQ K)) (acTo R t many)) many (ty_var rfl) (ty_var rfl) (fun _ _ h => ow_an h) rfl (by rw [acTo_len]; omega)
end
end My
end
section
set_option Elab.async false
set_option linter.all false
set_option maxRecDepth 100000
set_option maxHeartbeats 2000000
namespace My
open PySem PySem.Spec PyProof.Rows L2 Evl
open Mi (at0 psIn psTo elIn elTo elTerm monicE monicFrom binRow convT conv chTo acRow acRows acSign acIn acTo addChoices mcS mcTo mulChoices)
def McOk (cs : List Rat) (n many t : Nat) (s : List Rat) : Prop :=
  t = Mi.choices n many ∧ t ≤ 50 ∧ s = psTo cs n (t * many) ∧ PsOk cs n (t * many) ∧ (∀ x ∈ s, Sm x) ∧ (∀ r, r < t → ElOk (mcS s many (r + 1)) many) ∧ at0 (mcTo s many t t) 0 = ((t : Int) : Rat) ∧ ElOk (mcTo s many t t) t
abbrev spMc (K : PySem.W.Frag) : Sp := Sp2 (ι := List Rat × Nat × Nat) (fun i => TO' K (IQ K) i.1) (fun i => IV (.int (i.2.2 : Int))) (fun i => i.1.length = i.2.1 + 1 ∧ i.2.1 ≤ 50 ∧ i.2.2 ≤ 20 ∧ ∃ t s, McOk i.1 i.2.1 i.2.2 t s) (fun i => TO' K (IQ K) (mulChoices i.1 i.2.1 i.2.2))
theorem mcTo_len (s : List Rat) (many t : Nat) : ∀ r, (mcTo s many t r).length = r + 1
  | 0 => rfl
  | r + 1 => by unfold mcTo; rw [List.length_append, mcTo_len s many t r]; rfl
section
variable {P : Program} {w : World} {K : PySem.W.Frag} {mg : Str → Option Value} {base : Heap}
theorem has_multiply_choices (T : Tx K mg) : Has P w K mg base 7 "multiply_choices" ["poly", "many"] (spMc K) := by
  have h_monic_from := has_monic_from (P := P) (w := w) (base := base) T
  have h_elementary_of := has_elementary_of (P := P) (w := w) (base := base) T
  have h_power_sums_of := has_power_sums_of (P := P) (w := w) (base := base) T
  have h_choices := has_choices (P := P) (w := w) (base := base) T
  refine has2 T.d_multiply_choices sc_multiply_choices (fun _ _ _ _ _ _ us hl => match us, hl with | [_, _], _ => rfl) fun f cdv A outer s H E hr => ⟨_,
    (pss_cons (ps_set (i := 2) sc_multiply_choices.nd rfl (Or.inl rfl) (pe_has h_choices (hr.mono (by decide)) (pa_cons (pe_op op_sub (pe_callB (len_seqK (K := K)) (by rfl) T.b_len (by decide +kernel) (pa_cons (pv 0) pa_nil)) pe_int) (pa_cons (pv 1) pa_nil))))
      (pss_cons (ps_set (i := 3) sc_multiply_choices.nd rfl (Or.inr rfl) (pe_has h_power_sums_of (hr.mono (by decide)) (pa_cons (pv 0) (pa_cons (pe_op op_mul (pv 2) (pv 1)) pa_nil))))
      (pss_cons (ps_set (i := 4) sc_multiply_choices.nd rfl (Or.inl rfl) (pe_lst (pa_cons (pe_tup (pa_cons (pv 2) (pa_cons pe_int pa_nil))) pa_nil)))
      (pss_cons (ps_for PassesOwn.never rfl (pi_range2 (by rfl) T.b_range (pa_cons pe_int (pa_cons (pe_op op_add (pv 2) pe_int) pa_nil))) (pg_name (i := 5) sc_multiply_choices.nd rfl (Or.inr rfl)) (pss_one (ps_expr (pe_bm PySem.F.plainAttrs_list PySem.F.slot_list_append PySem.F.type_list_append mt_append (pv 4) (pa_cons (pe_ix (ix_seqK (K := K)) (pe_has h_elementary_of (hr.mono (by decide)) (pa_cons (pe_lc (own := [("i", 6)]) rfl sc_multiply_choices.nd (pi_range1 (by rfl) T.b_range (pa_cons (pe_op op_add (pv 1) pe_int) pa_nil)) (blkOk_by (by kernel_rfl)) (fun _ _ _ _ _ => (pg_name (i := 6) sc_multiply_choices.nd rfl (Or.inl rfl))) (fun _ _ _ _ _ => pts_nil) (fun _ _ _ _ _ => (pe_ix (ix_seqK (K := K)) (pv 3) (pe_op op_mul (pv 6) (pv 5)) (fun _ _ => rfl)))) (pa_cons (pv 1) pa_nil))) (pv 1) (fun _ _ => rfl)) pa_nil)))))
      (pss_one (ps_ret (pe_has h_monic_from (hr.mono (by decide)) (pa_cons (pv 4) pa_nil)))))))), ?_⟩
  rintro ⟨cs, n, many⟩ v1 v2 Q h1 h2 ⟨hlen, hn, hmany, t, s, ht, ht50, hs, hps, hsm, hel, hf0, hfe⟩ ret
  dsimp only at hlen hn hmany ht hs hps hel hf0 hfe
  have g : Good H NoM H := .start H
  have ts : Tsl [some (An NoM (TO' K (IQ K) cs)), some (Iv NoM (.int (many : Int))), none, none, none, none, none] (start ["poly", "many", "total", "sums", "found", "r", "i"] [v1, v2]) H :=
    wip_cons (Mn.mono (fun _ _ z => z) h1) (wip_cons h2 (non_cons (non_cons (non_cons (non_cons (non_cons nil_ts))))))
  have htm : t * many ≤ 1000 := Nat.le_trans (Nat.mul_le_mul ht50 hmany) (by decide)
  have hsl : s.length = t * many + 1 := by rw [hs, psTo_len]
  refine st_set (Iv NoM (.int (t : Int))) g ts ?_ fun σ2 H2 e2 g2 t2 => ?_
  · rw [ht]
    refine ty_ch (n := n) (m := many) ?_ ?_ (by omega) (by omega)
    · apply ty_int
      · apply ty_i0
        · exact ty_lenT (ty_var rfl) fun _ _ h => an_tr h
        · exact ty_c
      · omega
    · exact ty_var rfl
  refine st_set (Fr NoM H (LO (IQ K) s)) g2 t2 ?_ fun σ3 H3 e3 g3 t3 => ?_
  · rw [hs]
    refine ty_ps (n := n) (m := t * many) (R := An NoM (TO' K (IQ K) cs)) (ty_var rfl) (fun _ _ h => an_tr h) ?_ hlen (by omega) (by omega) hps
    apply ty_int
    · apply ty_i
      · exact ty_var rfl
      · exact ty_var rfl
      · exact .inl ⟨by omega, by omega⟩
    · rw [Int.natCast_mul]
  refine st_setV (Nw H3 (IQ K) (mcTo s many t 0)) g3.base t3 ?_ fun v H5 e5 r5 => ?_
  · refine ty_lst1N (Pb := IQ K) (H0 := H3) (b := ((t : Int) : Rat)) (R := Qs NoM K ((t : Int) : Rat)) ?_ (fun _ _ h => h)
    exact ty_pair (ty_var rfl) ty_c rfl rfl
  obtain ⟨F, rfl, hF3, hO⟩ := r5
  have g5 := g3.up e5
  have hFH : H F = none := fresh_back g3.ex0 hF3
  have t5 : Tsl [some (An NoM (TO' K (IQ K) cs)), some (Iv NoM (.int (many : Int))), some (Iv NoM (.int (t : Int))), some (At NoM (fun a => a ≠ F) (fun _ _ m => m) (LO (IQ K) s)), some (Ow F (fun a => a ≠ F) (IQ K) (mcTo s many t 0)), none, none] (σ3.set 4 (some (.ref F))) H5 := by
    have q := (t3.up e5).set (i := 4) (R := Ow F (fun a => a ≠ F) (IQ K) (mcTo s many t 0)) (v := .ref F) ?_
    · obtain ⟨v3, ev3, r3⟩ := t3.get (i := 3) (R := Fr NoM H (LO (IQ K) s)) rfl
      exact Tsl.put (i := 3) (R := At NoM (fun a => a ≠ F) (fun _ _ m => m) (LO (IQ K) s)) (Mn.mono (P := LO (IQ K) s) (fun _ z => z.2) (avoid (P := LO (IQ K) s) r3 hF3 e5)) (by rw [List.getElem?_set_ne (by decide)]; exact ev3) q
    · obtain ⟨_, vs, hv, p⟩ := hO
      exact ⟨rfl, vs, hv, p⟩
  refine st_for2 t g5 t5 (lo := 1) (hi := (t : Int) + 1) (ta_cons ty_c (ta_cons (ty_i0 (ty_var rfl) ty_c) ta_nil)) (by omega) (by omega) (fun r => [some (An NoM (TO' K (IQ K) cs)), some (Iv NoM (.int (many : Int))), some (Iv NoM (.int (t : Int))), some (At NoM (fun a => a ≠ F) (fun _ _ m => m) (LO (IQ K) s)), some (Ow F (fun a => a ≠ F) (IQ K) (mcTo s many t r)), none, none]) (fun _ _ t => t) (fun r σ6 H6 hr6 g6 t6 D' hD cont => ?_) fun σ6 H6 g6 t6 => ?_
  · have hFl := mcTo_len s many t r
    refine st_appO (H0 := H) (F := F) (i := 4) (S := fun a => a ≠ F) (l := mcTo s many t r) (at0 (elTo (mcS s many (r + 1)) many) many) (R := Qs NoM K (at0 (elTo (mcS s many (r + 1)) many) many)) g6.base g6 hFH t6 rfl (by omega) ?_ (fun _ _ h => h) (fun _ z => z) ⟨mo_tq, mo_iv, mo_iv, mo_at fun _ z => z, mo_iv, trivial⟩ fun H9 g9 t9 => cont _ H9 g9 (Tsl.to t9 ⟨.inr rfl, .inr rfl, .inr rfl, .inr rfl, .inr rfl, .inl rfl, .inl rfl, trivial⟩)
    refine ty_ixQL (R := Fr NoM H6 (LO (IQ K) (elTo (mcS s many (r + 1)) many))) many ?_ (ty_var rfl) (fun _ _ h => fr_an h) rfl (by rw [elTo_len]; omega)
    refine ty_el (R := Fr NoM H6 (LO (IQ K) (mcS s many (r + 1)))) ?_ (fun _ _ h => fr_tr h) (ty_var rfl) (by unfold mcS; rw [List.length_map, List.length_range]; omega) (by omega) (hel r hr6)
    refine ty_lc (mcS s many (r + 1)) (ti_range1 (n := (many : Int) + 1) (m := many + 1) (ta_cons ?_ ta_nil) (by omega) (by omega) (by decide)) (by unfold mcS; rw [List.length_map, List.length_range]) (by omega) fun B i c hc gB => ?_
    · exact ty_i0 (ty_var rfl) ty_c
    obtain ⟨hi, rfl⟩ := range_at hc
    have hj : i * (r + 1) < s.length := by
      rw [hsl]
      have h1 : i * (r + 1) ≤ many * t := Nat.mul_le_mul (by omega) (by omega)
      have h2 := Nat.mul_comm many t
      omega
    refine ty_fr (ty_ixQL (R := At NoM (fun a => a ≠ F) (fun _ _ m => m) (LO (IQ K) s)) (i := (i : Int) * (1 + (r : Int))) (i * (r + 1)) (ty_var rfl) ?_ (fun _ _ h => Mn.mono (fun _ _ m => m) h) ?_ hj)
    · exact ty_i (ty_var rfl) (ty_var rfl) (.inl ⟨by omega, by omega⟩)
    · rw [Int.natCast_mul, Int.natCast_succ, Int.add_comm]
  · refine st_ret (R := An NoM (TO' K (IQ K) (mulChoices cs n many))) g6 t6 ?_ fun v H' e x => ret v H' (g6.up e).ex0 x
    have eA : mulChoices cs n many = monicFrom (mcTo s many t t) t := by
      unfold mulChoices
      rw [hs, ht]
    rw [eA]
    exact ty_mo (R := Ow F (fun a => a ≠ F) (IQ K) (mcTo s many t t)) (ty_var rfl) (fun _ _ h => ow_tr h) (by rw [mcTo_len]; omega) (by omega) hf0 hfe
end
end My
end
section
set_option Elab.async false
set_option linter.all false
set_option maxRecDepth 100000
set_option maxHeartbeats 2000000
namespace My
open PySem PySem.Spec PyProof.Rows L2 Evl
open Mi (at0 at2 sumL diag matSum cols matMul trace chCur chPart chParts charPoly)
/-! comparing rationals -/
def qD (r : Rat) : PyData := .tuple [.int r.num, .int (r.den : Int)]
theorem dp_q {K : PySem.W.Frag} {H : Hp} {v : V} {r : Rat} (h : IQ K r Tr H v) : Dp K H v (qD r) := by
  obtain ⟨a, rfl, h⟩ := h
  exact .tup h (.cons (.int _) (.cons (.int _) .nil))
theorem eqv_q (q r : Rat) : PyData.eqv (qD q) (qD r) = decide (q = r) := by
  show ((q.num == r.num) && (((q.den : Int) == (r.den : Int)) && true)) = decide (q = r)
  rw [Bool.and_true]
  by_cases h : q = r
  · subst h; simp
  · rw [decide_eq_false h]
    by_cases h1 : q.num = r.num
    · have h2 : ¬ q.den = r.den := fun z => h (Rat.ext h1 z)
      have h3 : ((q.den : Int) == (r.den : Int)) = false := beq_eq_false_iff_ne.mpr (by omega)
      rw [h3, Bool.and_false]
    · have h3 : (q.num == r.num) = false := beq_eq_false_iff_ne.mpr h1
      rw [h3, Bool.false_and]
theorem shaped_q (r : Rat) : SeqAt.shaped (qD r) = true := by
  show ((qD r).canLay0 && decide ((qD r).depth ≤ 64)) = true
  rfl
section
variable {M : Addr → Prop} {H0 : Hp} {K : PySem.W.Frag} {ps : List (Option (SV M))} {ta tb te : TE} {E : XK} {q r : Rat} {R R1 : SV M}
theorem ty_neQ (ha : Ty H0 M ps ta (Qs M K q)) (hb : Ty H0 M ps tb (Qs M K r)) : Ty H0 M ps (tOp (rNeD K) ta tb) (Iv M (.bl (!decide (q = r)))) := fun σ H g t Q k =>
  ha σ H g t _ fun v H2 e2 h2 => hb σ H2 (g.up e2) (t.up e2) _ fun w H3 e3 h3 => ⟨qD q, qD r, dp_q ((Qs M K q).st (.ofEx e3) h2), dp_q h3, shaped_q q, shaped_q r, by rw [eqv_q]; exact k _ H3 (e2.trans e3) rfl⟩
theorem ty_eqQ (ha : Ty H0 M ps ta (Qs M K q)) (hb : Ty H0 M ps tb (Qs M K r)) : Ty H0 M ps (tOp (rEqD K) ta tb) (Iv M (.bl (decide (q = r)))) := fun σ H g t Q k =>
  ha σ H g t _ fun v H2 e2 h2 => hb σ H2 (g.up e2) (t.up e2) _ fun w H3 e3 h3 => ⟨qD q, qD r, dp_q ((Qs M K q).st (.ofEx e3) h2), dp_q h3, shaped_q q, shaped_q r, by rw [eqv_q]; exact k _ H3 (e2.trans e3) rfl⟩
end
abbrev spDiag (K : PySem.W.Frag) : Sp := Sp2 (ι := Nat × Rat) (fun i => IV (.int (i.1 : Int))) (fun i => IQ K i.2) (fun i => i.1 ≤ 1000) (fun i => LO (LO (IQ K)) (diag i.1 i.2))
def MsOk (a b : List (List Rat)) : Prop := a.length ≤ 1000 ∧ ∀ i, i < a.length → i < b.length → (a.getD i []).length ≤ 1000 ∧ ∀ j, j < (a.getD i []).length → j < (b.getD i []).length → Sm (at2 a i j) ∧ Sm (at2 b i j)
abbrev spMs (K : PySem.W.Frag) : Sp := Sp2 (ι := List (List Rat) × List (List Rat)) (fun i => LO (LO (IQ K)) i.1) (fun i => LO (LO (IQ K)) i.2) (fun i => MsOk i.1 i.2) (fun i => LO (LO (IQ K)) (matSum i.1 i.2))
def MmOk (a b : List (List Rat)) : Prop := a.length ≤ 1000 ∧ b.length ≤ 1000 ∧ (∀ i, i < b.length → b.length ≤ (b.getD i []).length) ∧
  ∀ i, i < a.length → (a.getD i []).length ≤ 1000 ∧ ∀ k, k < b.length → (∀ j, j < (a.getD i []).length → j < b.length → Sm (at2 a i j) ∧ Sm (at2 b j k)) ∧ SumOk (List.zipWith (· * ·) (a.getD i []) ((cols b).getD k []))
abbrev spMm (K : PySem.W.Frag) : Sp := Sp2 (ι := List (List Rat) × List (List Rat)) (fun i => LO (LO (IQ K)) i.1) (fun i => LO (LO (IQ K)) i.2) (fun i => MmOk i.1 i.2) (fun i => LO (LO (IQ K)) (matMul i.1 i.2))
/-! sums without their zeros -/
theorem sum_filter (f : Nat → Bool) (p : Nat → Rat) (h : ∀ i, f i = false → p i = 0) : ∀ n, sumL (((List.range n).filter f).map p) = sumL ((List.range n).map p)
  | 0 => rfl
  | n + 1 => by
    rw [List.range_succ, List.filter_append, List.map_append, List.map_append, List.filter_cons]
    have ih := sum_filter f p h n
    cases hf : f n with
    | true =>
      rw [if_pos rfl]
      show sumL (_ ++ [p n]) = sumL (_ ++ [p n])
      rw [sumL_snoc, sumL_snoc, ih]
    | false =>
      rw [if_neg (by decide)]
      show sumL (_ ++ []) = sumL (_ ++ [p n])
      rw [List.append_nil, sumL_snoc, ih, h n hf, Rat.add_zero]
theorem sumok_filter (f : Nat → Bool) (p : Nat → Rat) (h : ∀ i, f i = false → p i = 0) : ∀ n, SumOk ((List.range n).map p) → SumOk (((List.range n).filter f).map p)
  | 0, k => k
  | n + 1, k => by
    have e1 : (List.range (n + 1)).map p = (List.range n).map p ++ [p n] := by rw [List.range_succ, List.map_append]; rfl
    have k0 : SumOk ((List.range n).map p) := by
      refine ⟨fun x hx => k.1 x (by rw [e1]; exact List.mem_append_left _ hx), fun i hi => ?_⟩
      have q := k.2 i (by rw [e1, List.length_append]; omega)
      rw [e1, List.take_append_of_le_length hi] at q
      exact q
    have ih := sumok_filter f p h n k0
    rw [List.range_succ, List.filter_append, List.map_append, List.filter_cons]
    cases hf : f n with
    | true =>
      rw [if_pos rfl]
      show SumOk (_ ++ [p n])
      refine ⟨fun x hx => ?_, fun i hi => ?_⟩
      · rcases List.mem_append.mp hx with hx | hx
        · exact ih.1 x hx
        · exact k.1 x (by rw [e1]; exact List.mem_append_right _ hx)
      · by_cases hl : i ≤ (((List.range n).filter f).map p).length
        · rw [List.take_append_of_le_length hl]
          exact ih.2 i hl
        · rw [List.length_append] at hi
          have hi' : i = (((List.range n).filter f).map p).length + 1 := by
            have : i ≤ (((List.range n).filter f).map p).length + 1 := hi
            omega
          rw [List.take_of_length_le (by rw [List.length_append]; exact Nat.le_of_eq hi'.symm), sumL_snoc, sum_filter f p h n]
          have q := k.2 (n + 1) (by rw [List.length_map, List.length_range]; exact Nat.le_refl _)
          rw [List.take_of_length_le (by rw [List.length_map, List.length_range]; exact Nat.le_refl _), e1, sumL_snoc] at q
          exact q
    | false =>
      rw [if_neg (by decide)]
      show SumOk (_ ++ [])
      rw [List.append_nil]
      exact ih
theorem zip_range {f : Rat → Rat → Rat} (l m : List Rat) : List.zipWith f l m = (List.range (min l.length m.length)).map fun j => f (at0 l j) (at0 m j) := by
  apply List.ext_getElem?
  intro i
  rw [List.getElem?_zipWith, List.getElem?_map]
  by_cases h : i < min l.length m.length
  · rw [List.getElem?_range h, getD_some (l := l) (by omega), getD_some (l := m) (by omega)]
    rfl
  · rw [List.getElem?_eq_none (l := List.range _) (by rw [List.length_range]; omega)]
    by_cases h1 : i < l.length
    · rw [List.getElem?_eq_none (l := m) (by omega)]
      cases l[i]? <;> rfl
    · rw [List.getElem?_eq_none (l := l) (by omega)]
      rfl
section
variable {P : Program} {w : World} {K : PySem.W.Frag} {mg : Str → Option Value} {base : Heap}
theorem has_diagonal (T : Tx K mg) : Has P w K mg base 1 "diagonal" ["size", "value"] (spDiag K) := by
  refine has2 T.d_diagonal sc_diagonal (fun _ _ _ _ _ _ us hl => match us, hl with | [_, _], _ => rfl) fun f cdv A outer s H E hr => ⟨_,
    (pss_one (ps_ret (pe_lc (own := [("row", 2)]) rfl sc_diagonal.nd (pi_range1 (by rfl) T.b_range (pa_cons (pv 0) pa_nil)) (blkOk_by (by kernel_rfl)) (fun _ _ _ _ _ => (pg_name (i := 2) sc_diagonal.nd rfl (Or.inr rfl))) (fun _ _ _ _ _ => pts_nil) (fun _ _ _ _ _ => (pe_lc (own := [("column", 3)]) rfl sc_diagonal.nd (pi_range1 (by rfl) T.b_range (pa_cons (pv 0) pa_nil)) (blkOk_by (by kernel_rfl)) (fun _ _ _ _ _ => (pg_name (i := 3) sc_diagonal.nd rfl (Or.inl rfl))) (fun _ _ _ _ _ => pts_nil) (fun _ _ _ _ _ => (pe_ifExp (pt_cmpR op_eq (pv 2) (pv 3) (nomark _)) (pv 1) (pe_gc T.g_ZERO)))))))), ?_⟩
  rintro ⟨n, q⟩ v1 v2 Q h1 h2 hn ret
  dsimp only at hn
  have g : Good H NoM H := .start H
  have ts : Tsl [some (Iv NoM (.int (n : Int))), some (Qs NoM K q), none, none] (start ["size", "value", "row", "column"] [v1, v2]) H := wip_cons h1 (wip_cons h2 (non_cons (non_cons nil_ts)))
  refine st_ret (R := Fr NoM H (LO (LO (IQ K)) (diag n q))) g ts ?_ fun v H' e x => ret v H' e (Mn.mono (fun _ z => z.2) x)
  refine ty_lc (diag n q) (ti_range1 (m := n) (ta_cons (ty_var rfl) ta_nil) rfl (by omega) (by decide)) (by unfold diag; rw [List.length_map, List.length_range]) (by omega) fun B i c hc gB => ?_
  obtain ⟨hi, rfl⟩ := range_at hc
  refine ty_lc _ (ti_range1 (m := n) (ta_cons (ty_var rfl) ta_nil) rfl (by omega) (by decide)) (by rw [List.length_map, List.length_range]) (by omega) fun B2 j c2 hc2 gB2 => ?_
  obtain ⟨hj, rfl⟩ := range_at hc2
  refine ty_fr (ty_if (b := decide (i = j)) (tt_is (tt_test (ty_eqI (ty_var rfl) (ty_var rfl) rfl)) ?_) (fun hb => ?_) fun hb => ?_)
  · rw [dec_int, Bool.beq_eq_decide_eq]
    exact decide_eq_decide.mpr (by omega)
  · exact ty_q (ty_var (i := 1) rfl) (if_pos (of_decide_eq_true hb)).symm
  · exact ty_q (ty_zero T) (if_neg (of_decide_eq_false hb)).symm
theorem has_matrix_sum (T : Tx K mg) : Has P w K mg base 4 "matrix_sum" ["one", "other"] (spMs K) := by
  have h_plus := has_plus (P := P) (w := w) (base := base) T
  refine has2 T.d_matrix_sum sc_matrix_sum (fun _ _ _ _ _ _ us hl => match us, hl with | [_, _], _ => rfl) fun f cdv A outer s H E hr => ⟨_,
    (pss_one (ps_ret (pe_lc (own := [("left", 2), ("right", 3)]) rfl sc_matrix_sum.nd (pi_zipK (K := K) T.b_zip (pa_cons (pv 0) (pa_cons (pv 1) pa_nil))) (blkOk_by (by kernel_rfl)) (fun _ _ _ _ _ => (pg_tupK (K := K) (n := 2) rfl (pgs_cons (pg_name (i := 2) sc_matrix_sum.nd rfl (Or.inl rfl)) (pgs_cons (pg_name (i := 3) sc_matrix_sum.nd rfl (Or.inl rfl)) pgs_nil)))) (fun _ _ _ _ _ => pts_nil) (fun _ _ _ _ _ => (pe_lc (own := [("a", 4), ("b", 5)]) rfl sc_matrix_sum.nd (pi_zipK (K := K) T.b_zip (pa_cons (pv 2) (pa_cons (pv 3) pa_nil))) (blkOk_by (by kernel_rfl)) (fun _ _ _ _ _ => (pg_tupK (K := K) (n := 2) rfl (pgs_cons (pg_name (i := 4) sc_matrix_sum.nd rfl (Or.inl rfl)) (pgs_cons (pg_name (i := 5) sc_matrix_sum.nd rfl (Or.inl rfl)) pgs_nil)))) (fun _ _ _ _ _ => pts_nil) (fun _ _ _ _ _ => (pe_has h_plus (hr.mono (by decide)) (pa_cons (pv 4) (pa_cons (pv 5) pa_nil))))))))), ?_⟩
  rintro ⟨a, b⟩ v1 v2 Q h1 h2 ⟨hal, hab⟩ ret
  dsimp only at hal hab
  have g : Good H NoM H := .start H
  have ts : Tsl [some (An NoM (LO (LO (IQ K)) a)), some (An NoM (LO (LO (IQ K)) b)), none, none, none, none] (start ["one", "other", "left", "right", "a", "b"] [v1, v2]) H :=
    wip_cons (Mn.mono (fun _ _ z => z) h1) (wip_cons (Mn.mono (fun _ _ z => z) h2) (non_cons (non_cons (non_cons (non_cons nil_ts)))))
  refine st_ret (R := Fr NoM H (LO (LO (IQ K)) (matSum a b))) g ts ?_ fun v H' e x => ret v H' e (Mn.mono (fun _ z => z.2) x)
  refine ty_lc (matSum a b) (ti_zip ([] : List Rat) ([] : List Rat) (Pc := LO (IQ K)) (Pd := LO (IQ K)) (xs := a) (ys := b) (R1 := An NoM (LO (LO (IQ K)) a)) (R2' := An NoM (LO (LO (IQ K)) b)) (ta_cons (ty_var rfl) (ta_cons (ty_var rfl) ta_nil)) (fun _ _ h => h) (fun _ _ h => h) (by decide) (by decide)) (List.length_zipWith ..) (by omega) fun B i c hc gB => ?_
  obtain ⟨i1, i2, rfl⟩ := zip_at ([] : List Rat) ([] : List Rat) hc
  obtain ⟨hl, hs⟩ := hab i i1 i2
  refine ty_lc _ (ti_zip (0 : Rat) (0 : Rat) (Pc := IQ K) (Pd := IQ K) (xs := a.getD i []) (ys := b.getD i []) (R1 := An NoM (LO (IQ K) (a.getD i []))) (R2' := An NoM (LO (IQ K) (b.getD i []))) (ta_cons (ty_var rfl) (ta_cons (ty_var rfl) ta_nil)) (fun _ _ h => h) (fun _ _ h => h) (by decide) (by decide)) (List.length_zipWith ..) (by omega) fun B2 j c2 hc2 gB2 => ?_
  obtain ⟨j1, j2, rfl⟩ := zip_at (0 : Rat) (0 : Rat) hc2
  obtain ⟨s1, s2⟩ := hs j j1 j2
  exact ty_fr (ty_plus (ty_conv (ty_var (i := 4) rfl) fun _ _ h => h) (ty_conv (ty_var (i := 5) rfl) fun _ _ h => h) s1 s2)
theorem has_matrix_product (T : Tx K mg) : Has P w K mg base 5 "matrix_product" ["one", "other"] (spMm K) := by
  have h_sum_of := has_sum_of (P := P) (w := w) (base := base) T
  have h_times := has_times (P := P) (w := w) (base := base) T
  refine has2 T.d_matrix_product sc_matrix_product (fun _ _ _ _ _ _ us hl => match us, hl with | [_, _], _ => rfl) fun f cdv A outer s H E hr => ⟨_,
    (pss_cons (ps_set (i := 2) sc_matrix_product.nd rfl (Or.inr rfl) (pe_lc (own := [("k", 3)]) rfl sc_matrix_product.nd (pi_range1 (by rfl) T.b_range (pa_cons (pe_callB (len_seqK (K := K)) (by rfl) T.b_len (by decide +kernel) (pa_cons (pv 1) pa_nil)) pa_nil)) (blkOk_by (by kernel_rfl)) (fun _ _ _ _ _ => (pg_name (i := 3) sc_matrix_product.nd rfl (Or.inr rfl))) (fun _ _ _ _ _ => pts_nil) (fun _ _ _ _ _ => (pe_lc (own := [("row", 4)]) rfl sc_matrix_product.nd (pi_listK (K := K) (pv 1)) (blkOk_by (by kernel_rfl)) (fun _ _ _ _ _ => (pg_name (i := 4) sc_matrix_product.nd rfl (Or.inl rfl))) (fun _ _ _ _ _ => pts_nil) (fun _ _ _ _ _ => (pe_ix (ix_seqK (K := K)) (pv 4) (pv 3) (fun _ _ => rfl)))))))
      (pss_one (ps_ret (pe_lc (own := [("row", 4)]) rfl sc_matrix_product.nd (pi_listK (K := K) (pv 0)) (blkOk_by (by kernel_rfl)) (fun _ _ _ _ _ => (pg_name (i := 4) sc_matrix_product.nd rfl (Or.inr rfl))) (fun _ _ _ _ _ => pts_nil) (fun _ _ _ _ _ => (pe_lc (own := [("column", 5)]) rfl sc_matrix_product.nd (pi_listK (K := K) (pv 2)) (blkOk_by (by kernel_rfl)) (fun _ _ _ _ _ => (pg_name (i := 5) sc_matrix_product.nd rfl (Or.inl rfl))) (fun _ _ _ _ _ => pts_nil) (fun _ _ _ _ _ => (pe_has h_sum_of (hr.mono (by decide)) (pa_cons (pe_lc (own := [("a", 6), ("b", 7)]) rfl sc_matrix_product.nd (pi_zipK (K := K) T.b_zip (pa_cons (pv 4) (pa_cons (pv 5) pa_nil))) (blkOk_by (by kernel_rfl)) (fun _ _ _ _ _ => (pg_tupK (K := K) (n := 2) rfl (pgs_cons (pg_name (i := 6) sc_matrix_product.nd rfl (Or.inl rfl)) (pgs_cons (pg_name (i := 7) sc_matrix_product.nd rfl (Or.inl rfl)) pgs_nil)))) (fun _ _ _ _ _ => (pts_one (PW.pt (pw_and (pt_cmpR (neDK (K := K) hr.units) (pv 6) (pe_gc T.g_ZERO) (nomark _)) (pw_and1 (pt_cmpR (neDK (K := K) hr.units) (pv 7) (pe_gc T.g_ZERO) (nomark _))))))) (fun _ _ _ _ _ => (pe_has h_times (hr.mono (by decide)) (pa_cons (pv 6) (pa_cons (pv 7) pa_nil))))) pa_nil))))))))), ?_⟩
  rintro ⟨a, b⟩ v1 v2 Q h1 h2 ⟨hal, hbl, hsq, hab⟩ ret
  dsimp only at hal hbl hsq hab
  have g : Good H NoM H := .start H
  have ts : Tsl [some (An NoM (LO (LO (IQ K)) a)), some (An NoM (LO (LO (IQ K)) b)), none, none, none, none, none, none] (start ["one", "other", "columns", "k", "row", "column", "a", "b"] [v1, v2]) H :=
    wip_cons (Mn.mono (fun _ _ z => z) h1) (wip_cons (Mn.mono (fun _ _ z => z) h2) (non_cons (non_cons (non_cons (non_cons (non_cons (non_cons nil_ts)))))))
  refine st_set (Fr NoM H (LO (LO (IQ K)) (cols b))) g ts ?_ fun σ2 H2 e2 g2 t2 => ?_
  · refine ty_lc (cols b) (ti_range1 (n := (b.length : Int)) (m := b.length) (ta_cons ?_ ta_nil) rfl (by omega) (by decide)) (by unfold cols; rw [List.length_map, List.length_range]) (by omega) fun B k c hc gB => ?_
    · exact ty_lenL (ty_var rfl) fun _ _ h => an_tr h
    obtain ⟨hk, rfl⟩ := range_at hc
    refine ty_lc (b.map fun r => at0 r k) (ti_list ([] : List Rat) (Pc := LO (IQ K)) (xs := b) (R := An NoM (LO (LO (IQ K)) b)) (ty_var rfl) (fun _ _ h => h) (by decide)) (by rw [List.length_map]) (by omega) fun B2 j c2 hc2 gB2 => ?_
    obtain ⟨hj, rfl⟩ := map_at ([] : List Rat) hc2
    have := hsq j hj
    exact ty_fr (ty_ixQL (R := An NoM (LO (IQ K) (b.getD j []))) k (ty_var rfl) (ty_var rfl) (fun _ _ h => h) rfl (by omega))
  have hcl : (cols b).length = b.length := by unfold cols; rw [List.length_map, List.length_range]
  refine st_ret (R := Fr NoM H (LO (LO (IQ K)) (matMul a b))) g2 t2 ?_ fun v H' e x => ret v H' (g2.up e).ex0 (Mn.mono (fun _ z => z.2) x)
  refine ty_lc (matMul a b) (ti_list ([] : List Rat) (Pc := LO (IQ K)) (xs := a) (R := An NoM (LO (LO (IQ K)) a)) (ty_var rfl) (fun _ _ h => h) (by decide)) (by unfold matMul; rw [List.length_map]) (by omega) fun B i c hc gB => ?_
  obtain ⟨hi, rfl⟩ := map_at ([] : List Rat) hc
  obtain ⟨hrl, hk⟩ := hab i hi
  refine ty_lc _ (ti_list ([] : List Rat) (Pc := LO (IQ K)) (xs := cols b) (R := Fr NoM H (LO (LO (IQ K)) (cols b))) (ty_var rfl) (fun _ _ h => fr_an h) (by decide)) (by rw [List.length_map]) (by omega) fun B2 k c2 hc2 gB2 => ?_
  obtain ⟨hkl, rfl⟩ := map_at ([] : List Rat) hc2
  obtain ⟨hs, hsum⟩ := hk k (by omega)
  have hcol : ((cols b).getD k []).length = b.length := by
    unfold cols
    rw [List.getD_eq_getElem?_getD, List.getElem?_map, List.getElem?_range (by omega)]
    show (b.map _).length = b.length
    rw [List.length_map]
  have hcj : ∀ j, at0 ((cols b).getD k []) j = at2 b j k := fun j => by
    have ek : (cols b).getD k [] = b.map fun r => at0 r k := by
      unfold cols
      rw [List.getD_eq_getElem?_getD, List.getElem?_map, List.getElem?_range (by omega)]
      rfl
    rw [ek]
    unfold at2
    by_cases hj : j < b.length
    · show (b.map fun r => at0 r k).getD j 0 = at0 (b.getD j []) k
      rw [List.getD_eq_getElem?_getD, List.getElem?_map, getD_at [] hj]
      rfl
    · show (b.map fun r => at0 r k).getD j 0 = at0 (b.getD j []) k
      rw [List.getD_eq_getElem?_getD, List.getElem?_eq_none (by rw [List.length_map]; omega), List.getD_eq_getElem?_getD (l := b), List.getElem?_eq_none (by omega)]
      rfl
  have hz := zip_range (f := (· * ·)) (a.getD i []) ((cols b).getD k [])
  rw [hz] at hsum
  have hz0 : ∀ j, (!decide (at0 (a.getD i []) j = 0) && !decide (at0 ((cols b).getD k []) j = 0)) = false → at0 (a.getD i []) j * at0 ((cols b).getD k []) j = 0 := fun j hj => by
    by_cases h1 : at0 (a.getD i []) j = 0
    · rw [h1, Rat.zero_mul]
    · by_cases h2 : at0 ((cols b).getD k []) j = 0
      · rw [h2, Rat.mul_zero]
      · rw [decide_eq_false h1, decide_eq_false h2] at hj
        cases hj
  rw [hz, ← sum_filter _ _ hz0]
  refine ty_fr (ty_sum (R := Fr NoM B2 (LO (IQ K) _)) ?_ (fun _ _ h => fr_tr h) (sumok_filter _ _ hz0 _ hsum))
  refine ty_lcW (Pb := IQ K) (min (a.getD i []).length ((cols b).getD k []).length) (fun m => ((List.range m).filter fun j => (!decide (at0 (a.getD i []) j = 0) && !decide (at0 ((cols b).getD k []) j = 0))).map fun j => at0 (a.getD i []) j * at0 ((cols b).getD k []) j) _
    (ti_zip (0 : Rat) (0 : Rat) (Pc := IQ K) (Pd := IQ K) (xs := a.getD i []) (ys := (cols b).getD k []) (R1 := An NoM (LO (IQ K) (a.getD i []))) (R2' := An NoM (LO (IQ K) ((cols b).getD k []))) (ta_cons (ty_var rfl) (ta_cons (ty_var rfl) ta_nil)) (fun _ _ h => h) (fun _ _ h => h) (by decide) (by decide)) (by omega) rfl fun B3 j hj gB3 => ?_
  obtain ⟨s1, s2⟩ := hs j (by omega) (by omega)
  rw [← hcj] at s2
  refine ⟨_, tt_and (tt_test (ty_neQ (q := at0 (a.getD i []) j) (r := 0) (ty_conv (ty_var (i := 6) rfl) fun _ _ h => h) (ty_zero T))) fun _ => tt_test (ty_neQ (q := at0 ((cols b).getD k []) j) (r := 0) (ty_conv (ty_var (i := 7) rfl) fun _ _ h => h) (ty_zero T)), fun hb => ⟨at0 (a.getD i []) j * at0 ((cols b).getD k []) j, ?_, ?_⟩, fun hb => ?_⟩
  · show List.map _ (List.filter _ (List.range (j + 1))) = _
    rw [List.range_succ, List.filter_append, List.map_append, List.filter_cons, if_pos hb]
    rfl
  · exact ty_fr (ty_times (ty_conv (ty_var (i := 6) rfl) fun _ _ h => h) (ty_conv (ty_var (i := 7) rfl) fun _ _ h => h) s1 s2)
  · show List.map _ (List.filter _ (List.range (j + 1))) = _
    rw [List.range_succ, List.filter_append, List.map_append, List.filter_cons, if_neg (by rw [hb]; decide)]
    exact List.append_nil _
end
end My
end
section
set_option Elab.async false
set_option linter.all false
set_option maxRecDepth 100000
set_option maxHeartbeats 2000000
namespace My
open PySem PySem.Spec PyProof.Rows L2 Evl
open Mi (at0 at2 sumL diag matSum cols matMul trace chCur chPart chParts charPoly)
section
variable {M : Addr → Prop} {H0 : Hp} {K : PySem.W.Frag} {ps : List (Option (SV M))} {ta tb te : TE} {E : XK} {q r : Rat} {R R1 : SV M}
theorem ty_diag {n : Nat} (h1 : Ty H0 M ps ta (Iv M (.int (n : Int)))) (h2 : Ty H0 M ps tb (Qs M K q)) (hn : n ≤ 1000) : Ty H0 M ps (tCall (spDiag K) [] E (tCons ta (tCons tb tNil))) (Fr M H0 (LO (LO (IQ K)) (diag n q))) :=
  ty_call2 (ι := Nat × Rat) (n, q) h1 h2 (fun _ _ h => h) (fun _ _ h => h) hn
theorem ty_ms {a b : List (List Rat)} (h1 : Ty H0 M ps ta R) (hR : ∀ H v, R.R H v → LO (LO (IQ K)) a Tr H v) (h2 : Ty H0 M ps tb R1) (hR1 : ∀ H v, R1.R H v → LO (LO (IQ K)) b Tr H v) (ok : MsOk a b) : Ty H0 M ps (tCall (spMs K) [] E (tCons ta (tCons tb tNil))) (Fr M H0 (LO (LO (IQ K)) (matSum a b))) :=
  ty_call2 (ι := List (List Rat) × List (List Rat)) (a, b) h1 h2 hR hR1 ok
theorem ty_mm {a b : List (List Rat)} (h1 : Ty H0 M ps ta R) (hR : ∀ H v, R.R H v → LO (LO (IQ K)) a Tr H v) (h2 : Ty H0 M ps tb R1) (hR1 : ∀ H v, R1.R H v → LO (LO (IQ K)) b Tr H v) (ok : MmOk a b) : Ty H0 M ps (tCall (spMm K) [] E (tCons ta (tCons tb tNil))) (Fr M H0 (LO (LO (IQ K)) (matMul a b))) :=
  ty_call2 (ι := List (List Rat) × List (List Rat)) (a, b) h1 h2 hR hR1 ok
theorem ty_ix2 {l : List (List Rat)} {i j : Int} {tc : TE} (m n : Nat) (h : Ty H0 M ps ta R) (hR : ∀ H v, R.R H v → LO (LO (IQ K)) l (fun a => ¬ M a) H v) (hi : Ty H0 M ps tb (Iv M (.int i))) (hj : Ty H0 M ps tc (Iv M (.int j))) (ei : i = (m : Int)) (ej : j = (n : Int)) (hm : m < l.length) (hn : n < (l.getD m []).length) :
    Ty H0 M ps (tOp (rIx K) (tOp (rIx K) ta tb) tc) (Qs M K (at2 l m n)) := ty_ixQL (R := An M (LO (IQ K) (l.getD m []))) n (ty_ixQQ m h hi hR ei hm) hj (fun _ _ h => h) ej hn
end
def ChOk (m : List (List Rat)) (n : Nat) : Prop := m.length = n ∧ n ≤ 50 ∧ (∀ k, k < n → MmOk m (chCur m n k) ∧ (matMul m (chCur m n k)).length = n ∧ (∀ i, i < n → ((matMul m (chCur m n k)).getD i []).length = n) ∧
  SumOk ((List.range n).map fun i => at2 (matMul m (chCur m n k)) i i) ∧ Sm (trace n (matMul m (chCur m n k))) ∧ MsOk (matMul m (chCur m n k)) (diag n (chPart m n k)))
abbrev spChar (K : PySem.W.Frag) : Sp := Sp1 (ι := List (List Rat) × Nat) (fun i => LO (LO (IQ K)) i.1) (fun i => ChOk i.1 i.2) (fun i => TO' K (IQ K) (charPoly i.1 i.2))
theorem chParts_len (m : List (List Rat)) (n k : Nat) : (chParts m n k).length = n + 1 := by unfold chParts; rw [List.length_map, List.length_range]
theorem chParts_0 (m : List (List Rat)) (n : Nat) : chParts m n 0 = List.replicate n (0 : Rat) ++ [1] := by
  apply List.ext_getElem?
  intro i
  unfold chParts
  rw [List.getElem?_map]
  by_cases h : i < n
  · rw [List.getElem?_range (by omega), List.getElem?_append_left (by rw [List.length_replicate]; exact h), List.getElem?_replicate, if_pos h]
    show some (if i = n then (1 : Rat) else if n ≤ i + 0 then _ else 0) = _
    rw [if_neg (by omega), if_neg (by omega)]
  · by_cases h2 : i = n
    · subst h2
      rw [List.getElem?_range (by omega), List.getElem?_append_right (by rw [List.length_replicate]; omega), List.length_replicate, Nat.sub_self]
      show some (if i = i then (1 : Rat) else _) = _
      rw [if_pos rfl]
      rfl
    · rw [List.getElem?_eq_none (by rw [List.length_range]; omega), List.getElem?_eq_none (by rw [List.length_append, List.length_replicate]; simp; omega)]
      rfl
theorem chParts_set (m : List (List Rat)) (n k : Nat) (h : k < n) : (chParts m n k).set (n - (k + 1)) (chPart m n k) = chParts m n (k + 1) := by
  apply List.ext_getElem?
  intro i
  rw [List.getElem?_set, chParts_len]
  unfold chParts
  rw [List.getElem?_map, List.getElem?_map]
  by_cases hi : i < n + 1
  · rw [List.getElem?_range hi]
    by_cases e : n - (k + 1) = i
    · rw [if_pos e, if_pos (by omega)]
      show some _ = some (if i = n then (1 : Rat) else if n ≤ i + (k + 1) then chPart m n (n - i - 1) else 0)
      rw [if_neg (by omega), if_pos (by omega)]
      congr 2
      omega
    · rw [if_neg e]
      show some (if i = n then (1 : Rat) else if n ≤ i + k then chPart m n (n - i - 1) else 0) = some (if i = n then (1 : Rat) else if n ≤ i + (k + 1) then chPart m n (n - i - 1) else 0)
      by_cases e2 : i = n
      · rw [if_pos e2, if_pos e2]
      · rw [if_neg e2, if_neg e2]
        by_cases e3 : n ≤ i + k
        · rw [if_pos e3, if_pos (by omega)]
        · rw [if_neg e3, if_neg (by omega)]
  · rw [List.getElem?_eq_none (l := List.range (n + 1)) (by rw [List.length_range]; omega), if_neg (by omega)]
    rfl
theorem chParts_at (m : List (List Rat)) (n k : Nat) (h : k < n) : at0 (chParts m n (k + 1)) (n - (k + 1)) = chPart m n k := by
  rw [← chParts_set m n k h]
  unfold at0
  rw [List.getD_eq_getElem?_getD, List.getElem?_set_self (by rw [chParts_len]; omega)]
  rfl
theorem fr_av {W : VP} [Mn W] {B H : Hp} {F : Addr} {v : V} (hB : B F ≠ none) (h : (Fr NoM B W).R H v) : W (fun a => a ≠ F) H v := Mn.mono (P := W) (S := fun a => ¬ NoM a ∧ B a = none) (fun a z w => hB (by rw [← w]; exact z.2)) h
/-- xs[i] = e, xs a list of ours -/
theorem st_storeO {β : Type} {Pb : β → VP} [∀ b, Mn (Pb b)] {H0 B H : Hp} {ps : List (Option (SV NoM))} {σ : L2.St} {F : Addr} {S : Addr → Prop} {l : List β} {te tb : TE} {R : SV NoM} {D : Ends} {i : Nat} {x : Int} (j : Nat) (c : β) (g : Good B NoM H) (gH : Good H0 NoM H) (n0 : H0 F = none) (ts : Tsl ps σ H)
    (hs : ps[i]? = some (some (Ow F S Pb l))) (h : Ty B NoM ps te R) (hi : Ty B NoM ps tb (Iv NoM (.int x))) (e : x = (j : Int)) (hj : j < l.length) (hc : ∀ H v, R.R H v → Pb c S H v) (hS : ∀ a, S a → a ≠ F) (hm : MoAll F (ps.set i none))
    (k : ∀ H', Good H0 NoM H' → Tsl (ps.set i (some (Ow F S Pb (l.set j c)))) σ H' → D.nx σ H') : tAsg te (gSub (tVar i) tb rSetL) D σ H := by
  obtain ⟨v, ev, e', vs, hF, p⟩ := ts.get hs
  subst e'
  refine st_store j g ts h (ty_conv (ty_var hs) fun _ _ r => r.1) hi hF e (by rw [← pr_len p]; exact hj) fun u H1 e1 h1 t1 r1 => ?_
  refine k _ (good_mut (gH.up e1) n0) ?_
  obtain ⟨v2, ev2, e2, ws, hw, p2⟩ := t1.get hs
  subst e2
  rw [h1] at hw
  cases hw
  have t2 := Tsl.mut (ys := vs.set j u) h1 (t1.drop (i := i)) hm
  have t3 := Tsl.put (R := Ow F S Pb (l.set j c)) (i := i) ⟨rfl, vs.set j u, upd_same, pr_set (F := fun b x => Pb b S _ x) (Mn.up (fun _ z => z) (upd_keep h1 hS) (hc _ _ r1)) j (Paired.mapR p2 fun b x q => Mn.up (fun _ z => z) (upd_keep h1 hS) q)⟩ ev2 t2
  rw [List.set_set] at t3
  exact t3
theorem q_storeO {β : Type} {Pb : β → VP} [∀ b, Mn (Pb b)] {H0 B H : Hp} {ps : List (Option (SV NoM))} {σ : L2.St} {F : Addr} {S : Addr → Prop} {l : List β} {te tb : TE} {R : SV NoM} {D : Ends} {tz : TS} {i : Nat} {x : Int} (j : Nat) (c : β) (g : Good B NoM H) (gH : Good H0 NoM H) (n0 : H0 F = none) (ts : Tsl ps σ H)
    (hs : ps[i]? = some (some (Ow F S Pb l))) (h : Ty B NoM ps te R) (hi : Ty B NoM ps tb (Iv NoM (.int x))) (e : x = (j : Int)) (hj : j < l.length) (hc : ∀ H v, R.R H v → Pb c S H v) (hS : ∀ a, S a → a ≠ F) (hm : MoAll F (ps.set i none))
    (k : ∀ H', Good H0 NoM H' → Tsl (ps.set i (some (Ow F S Pb (l.set j c)))) σ H' → tz D σ H') : tSeq (tAsg te (gSub (tVar i) tb rSetL)) tz D σ H := st_storeO (D := { D with nx := tz D }) j c g gH n0 ts hs h hi e hj hc hS hm k
section
variable {P : Program} {w : World} {K : PySem.W.Frag} {mg : Str → Option Value} {base : Heap}
theorem has_characteristic (T : Tx K mg) : Has P w K mg base 6 "characteristic" ["matrix"] (spChar K) := by
  have h_diagonal := has_diagonal (P := P) (w := w) (base := base) T
  have h_matrix_product := has_matrix_product (P := P) (w := w) (base := base) T
  have h_matrix_sum := has_matrix_sum (P := P) (w := w) (base := base) T
  have h_sum_of := has_sum_of (P := P) (w := w) (base := base) T
  have h_over := has_over (P := P) (w := w) (base := base) T
  have h_negative := has_negative (P := P) (w := w) (base := base) T
  refine has1 T.d_characteristic sc_characteristic (fun _ _ _ _ _ _ us hl => match us, hl with | [_], _ => rfl) fun f cdv A outer s H E hr => ⟨_,
    (pss_cons (ps_set (i := 1) sc_characteristic.nd rfl (Or.inl rfl) (pe_callB (len_seqK (K := K)) (by rfl) T.b_len (by decide +kernel) (pa_cons (pv 0) pa_nil)))
      (pss_cons (ps_set (i := 2) sc_characteristic.nd rfl (Or.inl rfl) (pe_op op_cat (pe_op op_rep (pe_lst (pa_cons (pe_gc T.g_ZERO) pa_nil)) (pv 1)) (pe_lst (pa_cons (pe_gc T.g_ONE) pa_nil))))
      (pss_cons (ps_set (i := 3) sc_characteristic.nd rfl (Or.inr rfl) (pe_has h_diagonal (hr.mono (by decide)) (pa_cons (pv 1) (pa_cons (pe_gc T.g_ONE) pa_nil))))
      (pss_cons (ps_for PassesOwn.never rfl (pi_range2 (by rfl) T.b_range (pa_cons pe_int (pa_cons (pe_op op_add (pv 1) pe_int) pa_nil))) (pg_name (i := 4) sc_characteristic.nd rfl (Or.inl rfl)) (pss_cons (ps_set (i := 3) sc_characteristic.nd rfl (Or.inr rfl) (pe_has h_matrix_product (hr.mono (by decide)) (pa_cons (pv 0) (pa_cons (pv 3) pa_nil))))
      (pss_cons (ps_set (i := 5) sc_characteristic.nd rfl (Or.inl rfl) (pe_has h_sum_of (hr.mono (by decide)) (pa_cons (pe_lc (own := [("at", 6)]) rfl sc_characteristic.nd (pi_range1 (by rfl) T.b_range (pa_cons (pv 1) pa_nil)) (blkOk_by (by kernel_rfl)) (fun _ _ _ _ _ => (pg_name (i := 6) sc_characteristic.nd rfl (Or.inl rfl))) (fun _ _ _ _ _ => pts_nil) (fun _ _ _ _ _ => (pe_ix (ix_seqK (K := K)) (pe_ix (ix_seqK (K := K)) (pv 3) (pv 6) (fun _ _ => rfl)) (pv 6) (fun _ _ => rfl)))) pa_nil)))
      (pss_cons (ps_asg (pe_has h_over (hr.mono (by decide)) (pa_cons (pe_has h_negative (hr.mono (by decide)) (pa_cons (pv 5) pa_nil)) (pa_cons (pe_tup (pa_cons (pv 4) (pa_cons pe_int pa_nil))) pa_nil))) (pg_sub (pv 2) (pe_op op_sub (pv 1) (pv 4)) set_list))
      (pss_one (ps_set (i := 3) sc_characteristic.nd rfl (Or.inr rfl) (pe_has h_matrix_sum (hr.mono (by decide)) (pa_cons (pv 3) (pa_cons (pe_has h_diagonal (hr.mono (by decide)) (pa_cons (pv 1) (pa_cons (pe_ix (ix_seqK (K := K)) (pv 2) (pe_op op_sub (pv 1) (pv 4)) (fun _ _ => rfl)) pa_nil))) pa_nil)))))))))
      (pss_one (ps_ret (pe_callTy (tuple_ofK (K := K)) (by rfl) T.b_tuple (by decide +kernel) (pa_cons (pv 2) pa_nil)))))))), ?_⟩
  rintro ⟨m, n⟩ v1 Q h1 ⟨hml, hn, hk⟩ ret
  dsimp only at hml hn hk
  have g : Good H NoM H := .start H
  have ts : Tsl [some (An NoM (LO (LO (IQ K)) m)), none, none, none, none, none, none] (start ["matrix", "size", "parts", "current", "k", "trace", "at"] [v1]) H :=
    wip_cons (Mn.mono (fun _ _ z => z) h1) (non_cons (non_cons (non_cons (non_cons (non_cons (non_cons nil_ts))))))
  refine st_set (Iv NoM (.int (n : Int))) g ts (ty_int (ty_lenL (ty_var rfl) fun _ _ h => an_tr h) (by rw [hml])) fun σ2 H2 e2 g2 t2 => ?_
  refine st_setV (Fr NoM H2 (LO (IQ K) (chParts m n 0))) g2.base t2 ?_ fun v H3 e3 r3 => ?_
  · rw [chParts_0]
    refine ty_cat (Pb := IQ K) (l := List.replicate n (0 : Rat)) (l' := [1]) ?_ ?_ (by rw [List.length_replicate]; simp; omega)
    · refine ty_rep (Pb := IQ K) (c := (0 : Rat)) (n := (n : Int)) ?_ (ty_var rfl) rfl (by omega)
      exact ty_lst1 (R := Qs NoM K 0) (ty_zero T) fun _ _ h => h
    · exact ty_lst1 (R := Qs NoM K 1) (ty_one T) fun _ _ h => h
  obtain ⟨F, vs, rfl, ⟨_, hF2⟩, hF, hp⟩ := r3
  have g3 := g2.up e3
  have hFH : H F = none := fresh_back g2.ex0 hF2
  have hmF : ∀ {Hx : Hp} {v : V}, Ex H Hx → LO (LO (IQ K)) m Tr H v → LO (LO (IQ K)) m (fun a => a ≠ F) Hx v := fun e h => Mn.mono (P := LO (LO (IQ K)) m) (fun _ z => z.2) (avoid (P := LO (LO (IQ K)) m) h hFH e)
  have t3 : Tsl [some (At NoM (fun a => a ≠ F) (fun _ _ m => m) (LO (LO (IQ K)) m)), some (Iv NoM (.int (n : Int))), some (Ow F (fun a => a ≠ F) (IQ K) (chParts m n 0)), none, none, none, none] (σ2.set 2 (some (.ref F))) H3 := by
    have q := (t2.up e3).set (i := 2) (R := Ow F (fun a => a ≠ F) (IQ K) (chParts m n 0)) (v := .ref F) ⟨rfl, vs, hF, hp⟩
    obtain ⟨v0, ev0, r0⟩ := t2.get (i := 0) (R := An NoM (LO (LO (IQ K)) m)) rfl
    exact Tsl.put (i := 0) (R := At NoM (fun a => a ≠ F) (fun _ _ m => m) (LO (LO (IQ K)) m)) (Mn.mono (P := LO (LO (IQ K)) m) (fun _ z => z.2) (avoid (P := LO (LO (IQ K)) m) r0 hF2 e3)) (by rw [List.getElem?_set_ne (by decide)]; exact ev0) q
  refine st_set (Fr NoM H3 (LO (LO (IQ K)) (chCur m n 0))) g3.base t3 ?_ fun σ4 H4 e4 g4 t4 => ?_
  · exact ty_diag (ty_var rfl) (ty_one T) (by omega)
  have hF3 : H3 F ≠ none := by rw [hF]; exact fun z => by cases z
  refine st_for2 n (g3.up e4) (ps := [some (At NoM (fun a => a ≠ F) (fun _ _ m => m) (LO (LO (IQ K)) m)), some (Iv NoM (.int (n : Int))), some (Ow F (fun a => a ≠ F) (IQ K) (chParts m n 0)), some (At NoM (fun a => a ≠ F) (fun _ _ m => m) (LO (LO (IQ K)) (chCur m n 0))), none, none, none]) ?_ (lo := 1) (hi := (n : Int) + 1) (ta_cons ty_c (ta_cons (ty_i0 (ty_var rfl) ty_c) ta_nil)) (by omega) (by omega)
    (fun k => [some (At NoM (fun a => a ≠ F) (fun _ _ m => m) (LO (LO (IQ K)) m)), some (Iv NoM (.int (n : Int))), some (Ow F (fun a => a ≠ F) (IQ K) (chParts m n k)), some (At NoM (fun a => a ≠ F) (fun _ _ m => m) (LO (LO (IQ K)) (chCur m n k))), none, none, none]) (fun _ _ t => t) (fun k σ5 H5 hk5 g5 t5 D' hD cont => ?_) fun σ5 H5 g5 t5 => ?_
  · exact Tsl.wk (i := 3) (R := Fr NoM H3 (LO (LO (IQ K)) (chCur m n 0))) (R' := At NoM (fun a => a ≠ F) (fun _ _ m => m) (LO (LO (IQ K)) (chCur m n 0))) (fun _ _ h => fr_av hF3 h) t4 rfl
  · obtain ⟨mm, ml, mr, msum, mtr, ms⟩ := hk k hk5
    have hF5 : H5 F ≠ none := by
      obtain ⟨v, ev, e, vs, hv, p⟩ := t5.get (i := 2) (R := Ow F (fun a => a ≠ F) (IQ K) (chParts m n k)) rfl
      rw [hv]; exact fun z => by cases z
    refine st_set (Fr NoM H5 (LO (LO (IQ K)) (matMul m (chCur m n k)))) g5.base t5 ?_ fun σ6 H6 e6 g6 t6 => ?_
    · exact ty_mm (R := At NoM (fun a => a ≠ F) (fun _ _ m => m) (LO (LO (IQ K)) m)) (R1 := At NoM (fun a => a ≠ F) (fun _ _ m => m) (LO (LO (IQ K)) (chCur m n k))) (ty_var rfl) (fun _ _ h => Mn.any h) (ty_var rfl) (fun _ _ h => Mn.any h) mm
    refine st_set (Qs NoM K (trace n (matMul m (chCur m n k)))) g6 t6 ?_ fun σ7 H7 e7 g7 t7 => ?_
    · refine ty_sum (R := Fr NoM H5 (LO (IQ K) ((List.range n).map fun i => at2 (matMul m (chCur m n k)) i i))) ?_ (fun _ _ h => fr_tr h) msum
      refine ty_lc _ (ti_range1 (m := n) (ta_cons (ty_var rfl) ta_nil) rfl (by omega) (by decide)) (by rw [List.length_map, List.length_range]) (by omega) fun B i c hc gB => ?_
      obtain ⟨hi, rfl⟩ := range_at hc
      exact ty_fr (ty_ix2 (R := Fr NoM H5 (LO (LO (IQ K)) (matMul m (chCur m n k)))) i i (ty_var rfl) (fun _ _ h => fr_an h) (ty_var rfl) (ty_var rfl) rfl rfl (by omega) (by rw [mr i hi]; exact hi))
    refine q_storeO (H0 := H) (F := F) (i := 2) (S := fun a => a ≠ F) (l := chParts m n k) (R := Qs NoM K (chPart m n k)) (x := (n : Int) - (1 + (k : Int))) (n - (k + 1)) (chPart m n k) g7 (g5.trans g7) hFH t7 rfl ?_ (ty_i0 (ty_var rfl) (ty_var rfl)) (by omega) (by rw [chParts_len]; omega) (fun _ _ h => h) (fun _ z => z) ?_ fun H8 g8 t8 => ?_
    · refine ty_conv (ty_call2 (ι := Rat × Nat) (R1 := Qs NoM K (-(trace n (matMul m (chCur m n k))))) (R2' := Qs NoM K ((k + 1 : Nat) : Rat)) (-(trace n (matMul m (chCur m n k))), k + 1) (ty_neg (ty_var rfl)) ?_ (fun _ _ h => h) (fun _ _ h => h) ⟨mtr.neg, by omega, Nat.lt_of_lt_of_le (show k + 1 < 2 ^ 12 by omega) (Nat.pow_le_pow_right (by decide) (by decide))⟩) fun _ _ h => h
      exact ty_pair (ty_var rfl) ty_c (show (1 : Int) + (k : Int) = ((k + 1 : Nat) : Int) by omega) rfl
    · exact ⟨mo_at fun _ z => z, mo_iv, mo_at fun a z w => hF5 (by rw [← w]; exact z.2), mo_iv, mo_qs, trivial⟩
    rw [chParts_set m n k hk5] at t8
    have hF8 : H8 F ≠ none := by
      obtain ⟨v, ev, e, vs, hv, p⟩ := t8.get (i := 2) (R := Ow F (fun a => a ≠ F) (IQ K) (chParts m n (k + 1))) rfl
      rw [hv]; exact fun z => by cases z
    refine st_set1 (Fr NoM H8 (LO (LO (IQ K)) (chCur m n (k + 1)))) g8.base t8 ?_ fun σ9 H9 e9 g9 t9 => ?_
    · refine ty_ms (R := Fr NoM H5 (LO (LO (IQ K)) (matMul m (chCur m n k)))) (R1 := Fr NoM H8 (LO (LO (IQ K)) (diag n (chPart m n k)))) (ty_var rfl) (fun _ _ h => fr_tr h) ?_ (fun _ _ h => fr_tr h) ms
      refine ty_diag (ty_var rfl) ?_ (by omega)
      refine ty_q (ty_ixQL (R := Ow F (fun a => a ≠ F) (IQ K) (chParts m n (k + 1))) (i := (n : Int) - (1 + (k : Int))) (n - (k + 1)) ?_ ?_ (fun _ _ h => ow_an h) (by omega) (by rw [chParts_len]; omega)) (chParts_at m n k hk5)
      · exact ty_var rfl
      · exact ty_i0 (ty_var rfl) (ty_var rfl)
    have t9' := Tsl.wk (i := 3) (R := Fr NoM H8 (LO (LO (IQ K)) (chCur m n (k + 1)))) (R' := At NoM (fun a => a ≠ F) (fun _ _ m => m) (LO (LO (IQ K)) (chCur m n (k + 1)))) (fun _ _ h => fr_av hF8 h) t9 rfl
    exact cont σ9 H9 (g8.trans g9) (Tsl.to t9' ⟨.inr rfl, .inr rfl, .inr rfl, .inr rfl, .inl rfl, .inl rfl, .inl rfl, trivial⟩)
  · refine st_ret (R := An NoM (TO' K (IQ K) (charPoly m n))) g5 t5 (ty_tuple (R := Ow F (fun a => a ≠ F) (IQ K) (chParts m n n)) (ty_var rfl) fun _ _ h => ow_tr h) fun v H' e x => ?_
    exact ret v H' (g5.up e).ex0 x
end
end My
end
section
set_option Elab.async false
set_option linter.all false
set_option maxRecDepth 100000
set_option maxHeartbeats 2000000
namespace My
open PySem PySem.Spec PyProof.Rows L2 Evl
open Mi (at0 at2 companion compTo)
/-! a matrix whose rows are stored to: the list at F, its rows at as -/
def RowAt (K : PySem.W.Frag) (H : Hp) (a : Addr) (r : List Rat) : Prop := ∃ vs, H a = some (.lst vs) ∧ Paired (fun b x => IQ K b Tr H x) r vs
theorem RowAt.ex {K : PySem.W.Frag} {H H' : Hp} {a : Addr} {r : List Rat} (e : Ex H H') (h : RowAt K H a r) : RowAt K H' a r := by
  obtain ⟨vs, h, p⟩ := h
  exact ⟨vs, e a _ h, Paired.mapR p fun b x q => Mn.ex (P := IQ K b) e q⟩
theorem iq_mut {K : PySem.W.Frag} {H : Hp} {F : Addr} {xs ys : List V} {r : Rat} {v : V} (hF : H F = some (.lst xs)) (h : IQ K r Tr H v) : IQ K r Tr (upd H F (.lst ys)) v := mo_qs hF h
theorem RowAt.mut {K : PySem.W.Frag} {H : Hp} {a F : Addr} {r : List Rat} {xs ys : List V} (hF : H F = some (.lst xs)) (h : RowAt K H a r) (ne : a ≠ F) : RowAt K (upd H F (.lst ys)) a r := by
  obtain ⟨vs, h, p⟩ := h
  exact ⟨vs, by rw [upd_ne ne]; exact h, Paired.mapR p fun b x q => iq_mut hF q⟩
structure MatP (K : PySem.W.Frag) (F : Addr) (as : List Addr) (l : List (List Rat)) (H : Hp) : Prop where
  at_ : H F = some (.lst (as.map V.ref))
  nd : as.Nodup
  nF : F ∉ as
  len : as.length = l.length
  rows : ∀ j a, as[j]? = some a → RowAt K H a (l.getD j [])
def OwM (K : PySem.W.Frag) (F : Addr) (as : List Addr) (l : List (List Rat)) : SV NoM := ⟨fun H v => v = .ref F ∧ MatP K F as l H, fun k ⟨e, h⟩ => ⟨e, k F _ h.at_ fun _ m => m, h.nd, h.nF, h.len, fun j a ja => (h.rows j a ja).ex fun b o q => k b o q fun _ m => m⟩⟩
def NwM (K : PySem.W.Frag) (H0 : Hp) (l : List (List Rat)) : SV NoM := ⟨fun H v => ∃ F as, H0 F = none ∧ (∀ a ∈ as, H0 a = none) ∧ (OwM K F as l).R H v, fun k ⟨F, as, n, ns, h⟩ => ⟨F, as, n, ns, (OwM K F as l).st k h⟩⟩
theorem MatP.lo {K : PySem.W.Frag} {F : Addr} {as : List Addr} {l : List (List Rat)} {H : Hp} (h : MatP K F as l H) {S : Addr → Prop} (hF : S F) (hs : ∀ a ∈ as, S a) : LO (LO (IQ K)) l S H (.ref F) := by
  refine ⟨F, _, rfl, hF, h.at_, ?_⟩
  have key : ∀ (as : List Addr) (l : List (List Rat)), as.length = l.length → (∀ a ∈ as, S a) → (∀ j a, as[j]? = some a → RowAt K H a (l.getD j [])) → Paired (fun b x => LO (IQ K) b S H x) l (as.map V.ref) := by
    intro as
    induction as with
    | nil =>
      intro l hl _ _
      cases l with
      | nil => exact .nil
      | cons _ _ => cases hl
    | cons a as ih =>
      intro l hl hs hr
      cases l with
      | nil => cases hl
      | cons r l =>
        obtain ⟨vs, hv, p⟩ := hr 0 a rfl
        exact .cons ⟨a, vs, rfl, hs a List.mem_cons_self, hv, p⟩ (ih l (Nat.succ.inj hl) (fun b hb => hs b (List.mem_cons_of_mem _ hb)) fun j b jb => hr (j + 1) b jb)
  exact key as l h.len hs h.rows
section
variable {H0 : Hp} {K : PySem.W.Frag} {ps : List (Option (SV NoM))} {ta tb te : TE} {E : XK} {R R1 : SV NoM} {vs : List Nat} {H : Hp} {σ : L2.St} {D : Ends}
theorem getD_app {α : Type} {l : List α} {i : Nat} {d : α} (h : i < l.length) : (l.take (i + 1)).getD i d = l.getD i d := by
  rw [List.getD_eq_getElem?_getD, List.getD_eq_getElem?_getD, List.getElem?_take_of_lt (Nat.lt_succ_self i)]
/-- a list of new lists -/
theorem ty_lcM {wi : TI} {g : TG} {n : Nat} {Psl : Nat → List (Option (SV NoM))} (l : List (List Rat)) (hi : TyI H0 NoM ps wi g vs n Psl) (hl : l.length = n) (hn : n ≤ 40000) (he : ∀ (B : Hp) i c, l[i]? = some c → Good H0 NoM B → Ty B NoM (Psl i) te (Fr NoM B (LO (IQ K) c))) :
    Ty H0 NoM ps (tLc wi g tYes te vs) (NwM K H0 l) := fun σ H gd ts Q q => by
  refine hi σ H gd ts _ fun J H2 G Y e2 hW hG hb D hD => ?_
  have gd2 := gd.up e2
  refine lc_it hW (fun i H' => Ex H2 H' ∧ ∃ as, H' D = some (.lst (as.map V.ref)) ∧ as.length = i ∧ as.Nodup ∧ (∀ a ∈ as, H2 a = Option.none ∧ a ≠ D) ∧ ∀ j a, as[j]? = some a → RowAt K H' a (l.getD j [])) ⟨Ex.new hD, [], upd_same, rfl, List.nodup_nil, ⟨fun a h => absurd h (by simp), fun j a h => absurd h (by simp)⟩⟩ (fun i H' _ p => hG H' p.1) (fun i x H' H4 hi' p y => ?_) fun H' p => ?_
  · obtain ⟨eH, as, hx, hxl, hnd, has, hrw⟩ := p
    refine hb i x H' H4 _ hi' eH y fun σ' H5 e5 t5 hw => ⟨hw, ?_⟩
    have gd5 := gd2.up (eH.trans e5)
    show te σ' H5 _
    have hli : i < l.length := by omega
    refine he H5 i _ (getD_at [] hli) gd5 σ' H5 gd5.base t5 _ fun v H7 e7 r => ?_
    obtain ⟨a, us, rfl, ⟨_, ha⟩, hu, p⟩ := r
    have e57 := e5.trans e7
    have hx7 : H7 D = some (.lst (as.map V.ref)) := e57 D _ hx
    have haD : a ≠ D := fun w => by
      rw [w, e5 D _ hx] at ha
      cases ha
    have ha2 : H2 a = Option.none := fresh_back (eH.trans e5) ha
    have hna : a ∉ as := fun w => by
      obtain ⟨j, hj, rfl⟩ := List.getElem_of_mem w
      obtain ⟨us', hu', _⟩ := hrw j _ (List.getElem?_eq_getElem hj)
      rw [e5 _ _ hu'] at ha
      cases ha
    refine ⟨as.map V.ref, hx7, by rw [List.length_map]; exact sz_lt (by omega), Ex.mut (eH.trans e57) hD, as ++ [a], by rw [upd_same, List.map_append]; rfl, by rw [List.length_append, hxl]; rfl, ?_, ?_, ?_⟩
    · rw [List.nodup_append]
      refine ⟨hnd, List.nodup_cons.mpr ⟨by simp, List.nodup_nil⟩, fun x hx y hy => ?_⟩
      have ey : y = a := by simpa using hy
      subst ey
      exact fun w => hna (w ▸ hx)
    · intro b hb
      rcases List.mem_append.mp hb with hb | hb
      · exact has b hb
      · have eb : b = a := by simpa using hb
        subst eb
        exact ⟨ha2, haD⟩
    · intro j b hj
      by_cases hlt : j < as.length
      · rw [List.getElem?_append_left hlt] at hj
        have hbD := (has b (List.mem_of_getElem? hj)).2
        exact ((hrw j b hj).ex e57).mut hx7 hbD
      · rw [List.getElem?_append_right (by omega)] at hj
        have hj0 : j - as.length = 0 := by
          have := (List.getElem?_eq_some_iff.mp hj).1
          simp at this
          omega
        rw [hj0] at hj
        have eb : b = a := (Option.some.inj hj).symm
        subst eb
        have ej : j = i := by omega
        subst ej
        exact RowAt.mut hx7 ⟨us, hu, p⟩ haD
  · obtain ⟨eH, as, hx, hxl, hnd, has, hrw⟩ := p
    refine q _ H' (e2.trans eH) ⟨D, as, (gd2.fresh hD).2, fun a ha => (gd2.fresh (has a ha).1).2, rfl, hx, hnd, fun w => (has D w).2 rfl, by rw [hxl, hl], hrw⟩
/-- rows[r][c] = e -/
theorem st_storeM {B : Hp} {F : Addr} {as : List Addr} {l : List (List Rat)} {tc : TE} {i : Nat} {x y : Int} {q : Rat} (r c : Nat) (g : Good B NoM H) (gH : Good H0 NoM H) (n0 : ∀ a ∈ as, H0 a = none) (ts : Tsl ps σ H) (hs : ps[i]? = some (some (OwM K F as l)))
    (h : Ty B NoM ps te (Qs NoM K q)) (hb : Ty B NoM ps tb (Iv NoM (.int x))) (hc : Ty B NoM ps tc (Iv NoM (.int y))) (ex : x = (r : Int)) (ey : y = (c : Int)) (hr : r < l.length) (hcl : c < (l.getD r []).length) (hm : ∀ a ∈ as, MoAll a (ps.set i none))
    (k : ∀ H', Good H0 NoM H' → Tsl (ps.set i (some (OwM K F as (l.set r ((l.getD r []).set c q))))) σ H' → D.nx σ H') : tAsg te (gSub (tOp (rIx K) (tVar i) tb) tc rSetL) D σ H := by
  obtain ⟨v0, ev0, e0, m0⟩ := ts.get hs
  subst e0
  have har : r < as.length := by rw [m0.len]; exact hr
  have hra : as[r]? = some as[r] := List.getElem?_eq_getElem har
  have hmem : as[r] ∈ as := List.getElem_mem har
  obtain ⟨vs, hv, p⟩ := m0.rows r _ hra
  have hcv : c < vs.length := by rw [← pr_len p]; exact hcl
  have hl : Ty B NoM ps (tOp (rIx K) (tVar i) tb) (Iv NoM (.ref as[r])) := fun σ' H' g' t' Q' q' => by
    obtain ⟨v1, ev1, e1, m1⟩ := t'.get hs
    refine ⟨v1, ev1, ?_⟩
    refine hb σ' H' g' t' _ fun u H2 e2 r2 => ?_
    subst e1
    exact .inl ⟨F, _, x, .ref as[r], rfl, r2, SqL.of (e2 F _ m1.at_), ix_at ex (by rw [List.getElem?_map, hra]; rfl), q' _ H2 e2 rfl⟩
  refine st_store (F := as[r]) (xs := vs) c g ts h hl hc hv ey hcv fun u H1 e1 h1 t1 r1 => ?_
  refine k _ (good_mut (gH.up e1) (n0 _ hmem)) ?_
  obtain ⟨v2, ev2, e2, m2⟩ := t1.get hs
  subst e2
  have t2 := Tsl.mut (ys := vs.set c u) h1 (t1.drop (i := i)) (hm _ hmem)
  have nFa : F ≠ as[r] := fun w => m2.nF (w ▸ hmem)
  have t3 := Tsl.put (R := OwM K F as (l.set r ((l.getD r []).set c q))) (i := i) ⟨rfl, by rw [upd_ne nFa]; exact m2.at_, m2.nd, m2.nF, by rw [m2.len, List.length_set], fun j a ja => ?_⟩ ev2 t2
  · rw [List.set_set] at t3
    exact t3
  · by_cases hj : j = r
    · subst hj
      have ea : a = as[j] := by rw [hra] at ja; exact (Option.some.inj ja).symm
      subst ea
      obtain ⟨ws, hw, p2⟩ := m2.rows j _ hra
      rw [h1] at hw
      cases hw
      refine ⟨vs.set c u, upd_same, ?_⟩
      rw [List.getD_eq_getElem?_getD, List.getElem?_set_self hr]
      exact pr_set (F := fun b x => IQ K b Tr _ x) (iq_mut h1 r1) c (Paired.mapR p2 fun b x q => iq_mut h1 q)
    · have na : a ≠ as[r] := fun w => by
        have hj2 : j < as.length := (List.getElem?_eq_some_iff.mp ja).1
        have e3 : as[j] = as[r] := by
          rw [List.getElem?_eq_getElem hj2] at ja
          rw [Option.some.inj ja, w]
        exact hj ((List.getElem?_inj hj2 m2.nd).mp (by rw [List.getElem?_eq_getElem hj2, e3]; exact hra.symm))
      have q := (m2.rows j a ja).mut (ys := vs.set c u) h1 na
      rw [List.getD_eq_getElem?_getD, List.getElem?_set_ne (Ne.symm hj), ← List.getD_eq_getElem?_getD]
      exact q
theorem mo_iv' {F : Addr} {x : V} : Mo F (Iv NoM x) := mo_iv
end
theorem comp_len (cs : List Rat) (n i : Nat) : (compTo cs n i).length = n := by unfold compTo; rw [List.length_map, List.length_range]
theorem comp_row (cs : List Rat) (n i r : Nat) (h : r < n) : (compTo cs n i).getD r [] = (List.range n).map fun c => if c = n - 1 ∧ r < i then -(at0 cs r) else if c + 1 = r then 1 else 0 := by
  unfold compTo
  rw [List.getD_eq_getElem?_getD, List.getElem?_map, List.getElem?_range h]
  rfl
theorem comp_set (cs : List Rat) (n i : Nat) (h : i < n) : (compTo cs n i).set i (((compTo cs n i).getD i []).set (n - 1) (-(at0 cs i))) = compTo cs n (i + 1) := by
  apply List.ext_getElem?
  intro r
  rw [List.getElem?_set, comp_len]
  by_cases hr : r < n
  · have e1 : (compTo cs n (i + 1))[r]? = some ((compTo cs n (i + 1)).getD r []) := getD_at [] (by rw [comp_len]; exact hr)
    have e2 : (compTo cs n i)[r]? = some ((compTo cs n i).getD r []) := getD_at [] (by rw [comp_len]; exact hr)
    rw [e1, e2]
    by_cases e : i = r
    · subst e
      rw [if_pos rfl, if_pos h, comp_row _ _ _ _ h, comp_row _ _ _ _ h]
      congr 1
      apply List.ext_getElem?
      intro c
      rw [List.getElem?_set, List.length_map, List.length_range, List.getElem?_map, List.getElem?_map]
      by_cases hc : c < n
      · rw [List.getElem?_range hc]
        by_cases ec : n - 1 = c
        · rw [if_pos ec, if_pos (by omega)]
          show some _ = some (if c = n - 1 ∧ i < i + 1 then _ else _)
          rw [if_pos ⟨ec.symm, Nat.lt_succ_self i⟩]
        · rw [if_neg ec]
          show some (if c = n - 1 ∧ i < i then _ else _) = some (if c = n - 1 ∧ i < i + 1 then _ else _)
          rw [if_neg (show ¬(c = n - 1 ∧ i < i) from fun z => ec z.1.symm), if_neg (show ¬(c = n - 1 ∧ i < i + 1) from fun z => ec z.1.symm)]
      · rw [List.getElem?_eq_none (l := List.range n) (by rw [List.length_range]; omega), if_neg (by omega)]
        rfl
    · rw [if_neg e, comp_row _ _ _ _ hr, comp_row _ _ _ _ hr]
      congr 1
      apply List.map_congr_left
      intro c _
      by_cases h1 : c = n - 1 ∧ r < i
      · rw [if_pos h1, if_pos (show c = n - 1 ∧ r < i + 1 from ⟨h1.1, by omega⟩)]
      · rw [if_neg h1, if_neg (show ¬(c = n - 1 ∧ r < i + 1) from fun z => h1 ⟨z.1, by omega⟩)]
  · rw [List.getElem?_eq_none (l := compTo cs n (i + 1)) (by rw [comp_len]; omega), List.getElem?_eq_none (l := compTo cs n i) (by rw [comp_len]; omega), if_neg (by omega)]
abbrev spComp (K : PySem.W.Frag) : Sp := Sp1 (ι := List Rat × Nat) (fun i => TO' K (IQ K) i.1) (fun i => i.1.length = i.2 + 1 ∧ i.2 ≤ 1000) (fun i => LO (LO (IQ K)) (companion i.1 i.2))
section
variable {P : Program} {w : World} {K : PySem.W.Frag} {mg : Str → Option Value} {base : Heap}
theorem has_companion (T : Tx K mg) : Has P w K mg base 2 "companion" ["poly"] (spComp K) := by
  have h_negative := has_negative (P := P) (w := w) (base := base) T
  refine has1 T.d_companion sc_companion (fun _ _ _ _ _ _ us hl => match us, hl with | [_], _ => rfl) fun f cdv A outer s H E hr => ⟨_,
    (pss_cons (ps_set (i := 1) sc_companion.nd rfl (Or.inr rfl) (pe_op op_sub (pe_callB (len_seqK (K := K)) (by rfl) T.b_len (by decide +kernel) (pa_cons (pv 0) pa_nil)) pe_int))
      (pss_cons (ps_setLc (i := 2) (own := [("row", 3)]) rfl sc_companion.nd rfl rfl (sw_true rfl rfl rfl (by decide +kernel)) (pi_range1 (by rfl) T.b_range (pa_cons (pv 1) pa_nil)) (blkOk_by (by kernel_rfl)) (fun _ _ _ _ _ => (pg_name (i := 3) sc_companion.nd rfl (Or.inr rfl))) (fun _ _ _ _ _ => pts_nil) (fun _ _ _ _ _ => (pe_lc (own := [("column", 4)]) rfl sc_companion.nd (pi_range1 (by rfl) T.b_range (pa_cons (pv 1) pa_nil)) (blkOk_by (by kernel_rfl)) (fun _ _ _ _ _ => (pg_name (i := 4) sc_companion.nd rfl (Or.inl rfl))) (fun _ _ _ _ _ => pts_nil) (fun _ _ _ _ _ => (pe_ifExp (pt_cmpR op_eq (pv 4) (pe_op op_sub (pv 3) pe_int) (nomark _)) (pe_gc T.g_ONE) (pe_gc T.g_ZERO))))))
      (pss_cons (ps_for PassesOwn.never rfl (pi_range1 (by rfl) T.b_range (pa_cons (pv 1) pa_nil)) (pg_name (i := 3) sc_companion.nd rfl (Or.inl rfl)) (pss_one (ps_asg (pe_has h_negative (hr.mono (by decide)) (pa_cons (pe_ix (ix_seqK (K := K)) (pv 0) (pv 3) (fun _ _ => rfl)) pa_nil)) (pg_sub (pe_ix (ix_seqK (K := K)) (pv 2) (pv 3) (fun _ _ => rfl)) (pe_op op_sub (pv 1) pe_int) set_list))))
      (pss_one (ps_ret (pv 2)))))), ?_⟩
  rintro ⟨cs, n⟩ v1 Q h1 ⟨hlen, hn⟩ ret
  dsimp only at hlen hn
  have g : Good H NoM H := .start H
  have ts : Tsl [some (An NoM (TO' K (IQ K) cs)), none, none, none, none] (start ["poly", "size", "rows", "row", "column"] [v1]) H :=
    wip_cons (Mn.mono (fun _ _ z => z) h1) (non_cons (non_cons (non_cons (non_cons nil_ts))))
  refine st_set (Iv NoM (.int (n : Int))) g ts (ty_int (ty_i0 (ty_lenT (ty_var rfl) fun _ _ h => an_tr h) ty_c) (by rw [hlen]; omega)) fun σ2 H2 e2 g2 t2 => ?_
  refine st_setV (NwM K H2 (compTo cs n 0)) g2.base t2 ?_ fun v H3 e3 r3 => ?_
  · refine ty_lcM (compTo cs n 0) (ti_range1 (m := n) (ta_cons (ty_var rfl) ta_nil) rfl (by omega) (by decide)) (comp_len _ _ _) (by omega) fun B i c hc gB => ?_
    have hi : i < n := by have := (List.getElem?_eq_some_iff.mp hc).1; rw [comp_len] at this; exact this
    have ec : c = (List.range n).map fun c => if c = n - 1 ∧ i < 0 then -(at0 cs i) else if c + 1 = i then (1 : Rat) else 0 := by
      rw [← comp_row cs n 0 i hi, List.getD_eq_getElem?_getD, hc]; rfl
    rw [ec]
    refine ty_lc _ (ti_range1 (m := n) (ta_cons (ty_var rfl) ta_nil) rfl (by omega) (by decide)) (by rw [List.length_map, List.length_range]) (by omega) fun B2 j c2 hc2 gB2 => ?_
    obtain ⟨hj, rfl⟩ := range_at hc2
    rw [if_neg (by omega)]
    refine ty_fr (ty_if (b := decide (j + 1 = i)) (tt_is (tt_test (ty_eqI (ty_var rfl) (ty_i0 (ty_var rfl) ty_c) rfl)) ?_) (fun hb => ?_) fun hb => ?_)
    · rw [dec_int, Bool.beq_eq_decide_eq]
      exact decide_eq_decide.mpr (by omega)
    · exact ty_q (ty_one T) (if_pos (of_decide_eq_true hb)).symm
    · exact ty_q (ty_zero T) (if_neg (of_decide_eq_false hb)).symm
  obtain ⟨F, as, hF2, has2, rO⟩ := r3
  have eV : v = .ref F := rO.1
  subst eV
  have g3 := g2.up e3
  have hFH : H F = none := fresh_back g2.ex0 hF2
  have hasH : ∀ a ∈ as, H a = none := fun a ha => fresh_back g2.ex0 (has2 a ha)
  have t3 := (t2.up e3).set (i := 2) (R := OwM K F as (compTo cs n 0)) rO
  refine st_for1 n g3 t3 (ta_cons (ty_var rfl) ta_nil) rfl (by omega) (fun i => [some (An NoM (TO' K (IQ K) cs)), some (Iv NoM (.int (n : Int))), some (OwM K F as (compTo cs n i)), none, none]) (fun _ _ t => t) (fun i σ4 H4 hi g4 t4 D' hD cont => ?_) fun σ4 H4 g4 t4 => ?_
  · refine st_storeM (H0 := H) (i := 2) (l := compTo cs n i) (q := -(at0 cs i)) (x := (i : Int)) (y := (n : Int) - 1) i (n - 1) g4.base g4 hasH t4 rfl ?_ (ty_var rfl) (ty_i0 (ty_var rfl) ty_c) rfl (by omega) (by rw [comp_len]; exact hi) (by rw [comp_row _ _ _ _ hi, List.length_map, List.length_range]; omega) (fun a ha => ⟨mo_tq, mo_iv, mo_iv, trivial⟩) fun H5 g5 t5 => ?_
    · exact ty_neg (ty_ixQT (R := An NoM (TO' K (IQ K) cs)) i (ty_var rfl) (ty_var rfl) (fun _ _ h => h) rfl (by omega))
    · rw [comp_set cs n i hi] at t5
      exact cont _ H5 g5 (Tsl.to t5 ⟨.inr rfl, .inr rfl, .inr rfl, .inl rfl, .inl rfl, trivial⟩)
  · refine st_ret (R := OwM K F as (compTo cs n n)) g4 t4 (ty_var rfl) fun v H' e x => ?_
    obtain ⟨rfl, m⟩ := x
    exact ret _ H' (g4.up e).ex0 (m.lo hFH hasH)
end
end My
end
section
set_option Elab.async false
set_option linter.all false
set_option maxRecDepth 100000
set_option maxHeartbeats 2000000
namespace My
open PySem PySem.Spec PyProof.Rows L2 Evl
open Mi (sbLow sbStep sbTo subsets less put putSign)
/-! tuples of places -/
def TX (ch : List Nat) : VP := fun _ H v => ∃ a, v = .ref a ∧ H a = some (.tup (ch.map fun n : Nat => V.int (n : Int)))
instance (ch : List Nat) : Mn (TX ch) := ⟨fun _ k ⟨a, e, h⟩ => ⟨a, e, k a _ h fun ⟨_, z⟩ => by cases z⟩, fun h => h⟩
theorem op_catAK {X : Cx} {K : PySem.W.Frag} (h : X.K = K := by rfl) : OpR X (binaryOp .Add) (rCatA K) := h ▸ op_catA
theorem sl_tupAK {X : Cx} {K : PySem.W.Frag} (h : X.K = K := by rfl) : SlR X (rSlA K) := h ▸ sl_tupA
section
variable {M : Addr → Prop} {H0 : Hp} {K : PySem.W.Frag} {ps : List (Option (SV M))} {ta tb te : TE} {E : XK} {R R1 R' : SV M} {ch ch' : List Nat}
theorem dpall_n {H : Hp} : ∀ ch : List Nat, DpAll K H (ch.map fun n : Nat => V.int (n : Int)) (ch.map fun n : Nat => PyData.int (n : Int))
  | [] => .nil
  | n :: ch => .cons (.int _) (dpall_n ch)
theorem dp_n {H : Hp} {v : V} {S : Addr → Prop} (h : TX ch S H v) : Dp K H v (.tuple (ch.map fun n : Nat => PyData.int (n : Int))) := by
  obtain ⟨a, rfl, h⟩ := h
  exact .tup (SqT.of h) (dpall_n ch)
theorem shaped_n (h : ch.length ≤ 4) : SeqAt.shaped (.tuple (ch.map fun n : Nat => PyData.int (n : Int))) = true := by
  match ch, h with
  | [], _ => rfl
  | [_], _ => rfl
  | [_, _], _ => rfl
  | [_, _, _], _ => rfl
  | [_, _, _, _], _ => rfl
  | _ :: _ :: _ :: _ :: _ :: _, h => simp at h
/-- chosen != () -/
theorem ty_neX0 (ha : Ty H0 M ps ta R) (hR : ∀ H v, R.R H v → TX ch Tr H v) (hl : ch.length ≤ 4) (hb : Ty H0 M ps tb R1) (hR1 : ∀ H v, R1.R H v → TX [] Tr H v) : Ty H0 M ps (tOp (rNeD K) ta tb) (Iv M (.bl (!decide (ch = [])))) := fun σ H g t Q k =>
  ha σ H g t _ fun v H2 e2 h2 => hb σ H2 (g.up e2) (t.up e2) _ fun w H3 e3 h3 => by
    refine ⟨_, _, dp_n (hR _ _ (R.st (.ofEx e3) h2)), dp_n (hR1 _ _ h3), shaped_n hl, shaped_n (ch := []) (by decide), ?_⟩
    have e : PyData.eqv (.tuple (ch.map fun n : Nat => PyData.int (n : Int))) (.tuple (([] : List Nat).map fun n : Nat => PyData.int (n : Int))) = decide (ch = []) := by
      cases ch <;> rfl
    rw [e]
    exact k _ H3 (e2.trans e3) rfl
theorem ty_tup0 : Ty H0 M ps (tTup tNil) (An M (TX [])) := fun σ H g t Q q => ⟨by show 0 ≤ sizeLine; decide, fun p hp => q _ _ (Ex.new hp) ⟨p, rfl, upd_same⟩⟩
theorem ty_tup1 {n : Nat} (h : Ty H0 M ps te (Iv M (.int (n : Int)))) : Ty H0 M ps (tTup (tCons te tNil)) (An M (TX [n])) := fun σ H g t Q q =>
  (ta_cons h ta_nil) σ H g t _ fun vs H2 e p => by
    cases p with
    | cons r t1 =>
      cases t1
      have r : _ = V.int (n : Int) := r
      subst r
      exact ⟨by show 1 ≤ sizeLine; decide, fun p hp => q _ _ (e.trans (Ex.new hp)) ⟨p, rfl, upd_same⟩⟩
theorem ty_catX (ha : Ty H0 M ps ta R) (hR : ∀ H v, R.R H v → TX ch Tr H v) (hb : Ty H0 M ps tb R1) (hR1 : ∀ H v, R1.R H v → TX ch' Tr H v) (hl : ch.length + ch'.length ≤ 1000) : Ty H0 M ps (tOp (rCatA K) ta tb) (An M (TX (ch ++ ch'))) := fun σ H g t Q k =>
  ha σ H g t _ fun v H2 e2 h2 => hb σ H2 (g.up e2) (t.up e2) _ fun w H3 e3 h3 => by
    obtain ⟨a, rfl, hA⟩ := hR _ _ (R.st (.ofEx e3) h2)
    obtain ⟨b, rfl, hB⟩ := hR1 _ _ h3
    refine ⟨a, b, _, _, rfl, rfl, SqT.of hA, SqT.of hB, by rw [List.length_map, List.length_map]; exact sz5 (by omega), fun z => ?_, fun _ z => ?_, fun _ _ p hp => ?_⟩
    · have z : ch = [] := List.map_eq_nil_iff.mp z
      subst z
      exact k _ H3 (e2.trans e3) ⟨b, rfl, hB⟩
    · have z : ch' = [] := List.map_eq_nil_iff.mp z
      subst z
      rw [List.append_nil] at k
      exact k _ H3 (e2.trans e3) ⟨a, rfl, hA⟩
    · exact k _ _ ((e2.trans e3).trans (Ex.new hp)) ⟨p, rfl, by rw [upd_same, List.map_append]⟩
theorem ty_slX {tl th : TO} {lo hi : Option Int} (h : Ty H0 M ps te R) (hR : ∀ H v, R.R H v → TX ch Tr H v) (h1 : TyO H0 M ps tl lo) (h2 : TyO H0 M ps th hi) : Ty H0 M ps (tSl (rSlA K) te tl th) (An M (TX (cutL ch lo hi))) := fun σ H g t Q q =>
  h σ H g t _ fun v H2 e2 r => h1 σ H2 (g.up e2) (t.up e2) _ fun H3 e3 => h2 σ H3 ((g.up e2).up e3) ((t.up e2).up e3) _ fun H4 e4 => by
    obtain ⟨a, rfl, hA⟩ := hR _ _ (R.st (.ofEx (e3.trans e4)) r)
    refine ⟨a, _, rfl, SqT.of hA, fun z => ?_, fun _ p hp => ?_⟩
    · rw [List.length_map] at z
      have e : cutL ch lo hi = ch := by
        unfold cutL
        rw [z.1, z.2]
        simp
      rw [e] at q
      exact q _ H4 (e2.trans (e3.trans e4)) ⟨a, rfl, hA⟩
    · refine q _ _ ((e2.trans (e3.trans e4)).trans (Ex.new hp)) ⟨p, rfl, ?_⟩
      rw [upd_same]
      unfold cutV cutL
      rw [List.length_map, List.map_take, List.map_drop]
theorem ty_ixX {i : Int} (n : Nat) (h : Ty H0 M ps ta R) (hR : ∀ H v, R.R H v → TX ch Tr H v) (hi : Ty H0 M ps tb (Iv M (.int i))) (hc : atI ch i = some n) : Ty H0 M ps (tOp (rIx K) ta tb) (Iv M (.int (n : Int))) := fun σ H g t Q q =>
  h σ H g t _ fun v H2 e2 r => hi σ H2 (g.up e2) (t.up e2) _ fun y H3 e3 r3 => by
    obtain ⟨a, rfl, hA⟩ := hR _ _ (R.st (.ofEx e3) r)
    refine .inr (.inl ⟨a, _, i, .int (n : Int), rfl, r3, SqT.of hA, ?_, q _ H3 (e2.trans e3) rfl⟩)
    unfold atI at hc ⊢
    rw [List.length_map]
    cases e : ixN ch.length i with
    | none => rw [e] at hc; cases hc
    | some j =>
      rw [e] at hc
      show (ch.map fun n : Nat => V.int (n : Int))[j]? = _
      rw [List.getElem?_map, show ch[j]? = some n from hc]
      rfl
theorem inV_n (n : Nat) : ∀ ch : List Nat, inV (.int (n : Int)) (ch.map fun n : Nat => V.int (n : Int)) = decide (n ∈ ch)
  | [] => by simp [inV]
  | m :: ch => by
    have ih := inV_n n ch
    unfold inV at ih ⊢
    rw [List.map_cons, List.any_cons, ih]
    by_cases h : n = m
    · subst h; simp [eqV]
    · have h2 : ¬ ((m : Int) = (n : Int)) := by omega
      have h3 : ¬ ((n : Int) = (m : Int)) := by omega
      simp [eqV, h, h2, h3]
/-- place in chosen -/
theorem ty_inX {n : Nat} (ha : Ty H0 M ps ta (Iv M (.int (n : Int)))) (hb : Ty H0 M ps tb R) (hR : ∀ H v, R.R H v → TX ch Tr H v) : Ty H0 M ps (tOp (rIn K false) ta tb) (Iv M (.bl (decide (n ∈ ch)))) := fun σ H g t Q k =>
  ha σ H g t _ fun v H2 e2 h2 => hb σ H2 (g.up e2) (t.up e2) _ fun w H3 e3 h3 => by
    obtain ⟨a, rfl, hA⟩ := hR _ _ h3
    have h2 : v = .int (n : Int) := h2
    subst h2
    refine ⟨a, _, rfl, .inr (SqT.of hA), rfl, ?_, ?_⟩
    · rw [List.all_eq_true]
      intro x hx
      obtain ⟨m, _, rfl⟩ := List.mem_map.mp hx
      rfl
    · show Q (.bl (inV _ _)) H3
      rw [inV_n]
      exact k _ H3 (e2.trans e3) rfl
end
section
variable {M : Addr → Prop} {H0 : Hp} {K : PySem.W.Frag} {ps : List (Option (SV M))} {ta tb te : TE} {E : XK} {β : Type} {Pb : β → VP} [∀ b, Mn (Pb b)] {vs vs1 : List Nat}
theorem mo_tx {F : Addr} {ch : List Nat} : Mo F (An NoM (TX ch)) := fun hF h => Mn.up (P := TX ch) (S := fun a => a ≠ F) (S' := fun a => ¬ NoM a) (fun _ _ z => z) (upd_keep hF fun _ h => h) h
/-- two fors, the inner over range(lo, hi), no test: the i-th outer turn adds L i -/
theorem ty_lc2 {ps : List (Option (SV NoM))} {wi : TI} {g : TG} {ta : TA} {j1 : Nat} {n : Nat} {Psl Ps1 : Nat → List (Option (SV NoM))} (L : Nat → List β) (hi : TyI H0 NoM ps wi g vs n Psl) (hn : ((List.range n).flatMap L).length ≤ 40000) (hj : j1 ∈ vs1)
    (hw : ∀ i, i < n → Wk (Psl i) (Ps1 i)) (hm : ∀ D i, i < n → MoAll D (Ps1 i))
    (he : ∀ (B : Hp) i, i < n → Good H0 NoM B → ∃ lo hi : Int, TyA B NoM (Psl i) ta [Iv NoM (.int lo), Iv NoM (.int hi)] ∧ (hi - lo).toNat = (L i).length ∧ (-1000000 ≤ lo ∧ lo ≤ 1000000 ∧ -1000000 ≤ hi ∧ hi ≤ 1000000) ∧ 
      ∀ (B2 : Hp) (j : Nat) c, (L i)[j]? = some c → Good B2 NoM B2 → Ty B2 NoM ((wipeP (Ps1 i) vs1).set j1 (some (Iv NoM (.int (lo + (j : Int)))))) te (Fr NoM B2 (Pb c))) :
    Ty H0 NoM ps (tLc2 wi g tYes (iRng2 ta) (gName j1) tYes te vs vs1) (Fr NoM H0 (LO Pb ((List.range n).flatMap L))) := fun σ H gd ts Q q => by
  refine hi σ H gd ts _ fun J H2 G Y e2 hW hG hb D hD => ?_
  have gd2 := gd.up e2
  let Pv : List β → Hp → Prop := fun l H' => Ex H2 H' ∧ ∃ xs, H' D = some (.lst xs) ∧ xs.length = l.length ∧ Paired (fun b x => Pb b (fun a => (¬ NoM a ∧ H0 a = Option.none) ∧ a ≠ D) H' x) l xs
  have sub : ∀ i, i ≤ n → ((List.range i).flatMap L).length ≤ ((List.range n).flatMap L).length := fun i hin => by
    obtain ⟨m, rfl⟩ : ∃ m, n = i + m := ⟨n - i, by omega⟩
    rw [List.range_add, List.flatMap_append, List.length_append]
    omega
  have snoc : ∀ i, (List.range (i + 1)).flatMap L = (List.range i).flatMap L ++ L i := fun i => by
    rw [List.range_succ, List.flatMap_append]
    simp
  have pup : ∀ {l : List β} {H6 H7 : Hp}, Ex H6 H7 → Pv l H6 → Pv l H7 := fun e ⟨eH, xs, hx, hl, hp⟩ => ⟨eH.trans e, xs, e D _ hx, hl, Paired.mapR hp fun b x k => Mn.ex e k⟩
  refine ⟨fun i m H' => m = n - i ∧ i ≤ n ∧ Pv ((List.range i).flatMap L) H', ⟨n, rfl, Nat.zero_le _, Ex.new hD, [], upd_same, rfl, .nil⟩, ?_⟩
  rintro i m H' ⟨rfl, hin, p⟩
  have eH := p.1
  by_cases hlt : i < n
  · refine .inr ⟨hW.goes i H' hlt (hG H' eH), Pv ((List.range (i + 1)).flatMap L), fun H3 p3 => ⟨n - (i + 1), by omega, rfl, hlt, p3⟩, fun x H3 y => ?_⟩
    refine hb i x H' H3 _ hlt eH (hW.yields i H' x H3 hlt (hG H' eH) y) fun σ2 H5 e5 t5 hw5 => ⟨hw5, ?_⟩
    have gd5 := gd2.up (eH.trans e5)
    obtain ⟨lo, hi', hta, hnum, hbd, hel⟩ := he H5 i hlt gd5
    unfold tYes
    simp only [if_true]
    refine hta σ2 H5 gd5.base t5 _ fun us H6 e6 pu => ?_
    obtain rfl : us = [.int lo, .int hi'] := by
      cases pu with | cons r t => cases t with | cons r' t' => cases t'; rw [show _ = _ from r, show _ = _ from r']
    refine ⟨lo, hi', rfl, ⟨by omega, by omega, by omega, by omega⟩, ?_⟩
    have t6 : Tsl (Ps1 i) σ2 H6 := Tsl.to (t5.up e6) (hw i hlt)
    refine ⟨fun j k H7 => k = (L i).length - j ∧ j ≤ (L i).length ∧ Tsl (Ps1 i) σ2 H7 ∧ Pv ((List.range i).flatMap L ++ (L i).take j) H7, ⟨_, rfl, Nat.zero_le _, t6, by rw [List.take_zero, List.append_nil]; exact pup (e5.trans e6) p⟩, ?_⟩
    rintro j k H7 ⟨rfl, hjl, t7, p7⟩
    by_cases hjt : j < (L i).length
    · refine .inr ⟨by show j < (hi' - lo).toNat; rw [hnum]; exact hjt, fun H8 => j + 1 ≤ (L i).length ∧ Tsl (Ps1 i) σ2 H8 ∧ Pv ((List.range i).flatMap L ++ (L i).take (j + 1)) H8, fun H8 p8 => ⟨(L i).length - (j + 1), by omega, rfl, p8⟩, fun x H8 y => ?_⟩
      obtain ⟨rfl, rfl⟩ := (show H8 = H7 ∧ x = V.int (lo + (j : Int)) from y)
      refine ⟨wipe_set _ hj, ?_⟩
      have gd8 := gd2.up p7.1
      have hc : (L i)[j]? = some (L i)[j] := List.getElem?_eq_getElem hjt
      show te _ H8 _
      refine hel H8 j _ hc gd8.base _ H8 gd8.base ((t7.wipe vs1).set rfl) _ fun v H9 e9 r9 => ?_
      obtain ⟨eH9, xs, hx9, hl9, hp9⟩ := pup e9 p7
      have hlen : xs.length < 100000 := by
        have h1 := sub (i + 1) hlt
        rw [snoc i, List.length_append] at h1
        rw [hl9, List.length_append, List.length_take]
        omega
      refine ⟨xs, hx9, sz_lt hlen, hjt, Tsl.mut hx9 (t7.up e9) (hm D i hlt), Ex.mut eH9 hD, xs ++ [v], upd_same, by rw [List.length_append, hl9, take_snoc hc, ← List.append_assoc, List.length_append (as := _ ++ _)]; rfl, ?_⟩
      rw [take_snoc hc, ← List.append_assoc]
      have hS : ∀ a, ((¬ NoM a ∧ H0 a = Option.none) ∧ a ≠ D) → a ≠ D := fun _ z => z.2
      refine pr_app (Paired.mapR hp9 fun b x k => Mn.up (fun _ z => z) (upd_keep hx9 hS) k) (.cons ?_ .nil)
      refine Mn.up (fun _ z => z) (upd_keep hx9 hS) (Mn.mono (fun a z => ⟨gd8.fresh z.2, fun w => ?_⟩) r9)
      obtain ⟨_, ys, hx8, _⟩ := p7
      rw [w, hx8] at z
      exact nomatch z.2
    · have ej : j = (L i).length := by omega
      refine .inl ⟨by show (hi' - lo).toNat ≤ j; omega, ?_⟩
      rw [ej, List.take_length, ← snoc i] at p7
      exact p7
  · have ein : i = n := by omega
    subst ein
    obtain ⟨_, xs, hx, hl, hp⟩ := p
    exact .inl ⟨hW.stops H' (hG H' eH), q _ H' (e2.trans eH) ⟨D, xs, rfl, gd2.fresh hD, hx, Paired.mapR hp fun b x k => Mn.mono (fun a z => z.1) k⟩⟩
end
end My
end
section
set_option Elab.async false
set_option linter.all false
set_option maxRecDepth 100000
set_option maxHeartbeats 2000000
namespace My
open PySem PySem.Spec PyProof.Rows L2 Evl
open Mi (sbLow sbStep sbTo subsets less put putSign)
abbrev NI : Nat → VP := fun n => IV (.int (n : Int))
theorem pr_map {α β : Type} {F : α → β → Prop} {f : α → β} (h : ∀ a, F a (f a)) : ∀ l : List α, Paired F l (l.map f)
  | [] => .nil
  | a :: l => .cons (h a) (pr_map h l)
theorem tx_to {K : PySem.W.Frag} {ch : List Nat} {S S' : Addr → Prop} {H : Hp} {v : V} (h : TX ch S H v) : TO' K NI ch S' H v := by
  obtain ⟨a, rfl, h⟩ := h
  exact ⟨a, _, rfl, SqT.of h, pr_map (F := fun b x => NI b S' H x) (fun _ => rfl) ch⟩
theorem sb_small0 : ∀ size ∈ List.range 5, ∀ many ∈ List.range 5, many ≤ size → ∀ step ∈ List.range many, (sbTo size many step).length ≤ 100 ∧ (sbTo size many (step + 1)).length ≤ 100 ∧ ∀ ch ∈ sbTo size many step, ch.length ≤ 4 ∧ sbLow ch ≤ 10 := by decide +kernel
theorem sb_small (size : Nat) (hs : size < 5) (many : Nat) (hm : many ≤ size) (step : Nat) (ht : step < many) : (sbTo size many step).length ≤ 100 ∧ (sbTo size many (step + 1)).length ≤ 100 ∧ ∀ ch ∈ sbTo size many step, ch.length ≤ 4 ∧ sbLow ch ≤ 10 := sb_small0 size (List.mem_range.mpr hs) many (List.mem_range.mpr (by omega)) hm step (List.mem_range.mpr ht)
theorem flatMap_range {α β : Type} (d : α) (f : α → List β) : ∀ l : List α, l.flatMap f = (List.range l.length).flatMap fun i => f (l.getD i d)
  | [] => rfl
  | x :: l => by
    rw [List.flatMap_cons, flatMap_range d f l, List.length_cons, List.range_succ_eq_map, List.flatMap_cons, List.flatMap_map]
    rfl
theorem sbLow_last (ch : List Nat) (h : ch ≠ []) : ∃ p, ch.getLast? = some p ∧ sbLow ch = p + 1 := by
  refine ⟨ch.getLast h, List.getLast?_eq_some_getLast h, ?_⟩
  unfold sbLow
  rw [List.getLast?_eq_some_getLast h]
theorem atI_last' {ch : List Nat} {p : Nat} (h : ch.getLast? = some p) : atI ch (-1) = some p := by
  obtain ⟨l, rfl⟩ := List.getLast?_eq_some_iff.mp h
  exact atI_last l p
theorem cut_take {α : Type} (l : List α) (k : Nat) : cutL l none (some (k : Int)) = l.take k := by
  unfold cutL
  rw [HT.sIx_none, HT.sIx_nat, List.drop_zero, Nat.sub_zero]
  by_cases h : k ≤ l.length
  · rw [Nat.min_eq_left h]
  · rw [Nat.min_eq_right (by omega), List.take_length, List.take_of_length_le (by omega)]
theorem cut_drop {α : Type} (l : List α) (k : Nat) : cutL l (some (k : Int)) none = l.drop k := by
  unfold cutL
  rw [HT.sIx_none, HT.sIx_nat]
  by_cases h : k ≤ l.length
  · rw [Nat.min_eq_left h, List.take_of_length_le (by rw [List.length_drop]; omega)]
  · rw [Nat.min_eq_right (by omega), List.drop_of_length_le (by omega : l.length ≤ l.length), List.drop_of_length_le (by omega), List.take_nil]
abbrev spSub : Sp := Sp2 (ι := Nat × Nat) (fun i => IV (.int (i.1 : Int))) (fun i => IV (.int (i.2 : Int))) (fun i => i.2 ≤ i.1 ∧ i.1 ≤ 4) (fun i => LO TX (subsets i.1 i.2))
/-- (chosen with place, its sign), or None -/
def PIN (K : PySem.W.Frag) (ch : List Nat) (p : Nat) : VP := fun S H v => if p ∈ ch then v = .non else ∃ a x, v = .ref a ∧ SqT K H a [x, .int (putSign ch p)] ∧ TX (put ch p) S H x
instance (K : PySem.W.Frag) (ch : List Nat) (p : Nat) : Mn (PIN K ch p) := ⟨fun s k h => by
  unfold PIN at h ⊢
  split
  · next e => rw [if_pos e] at h; exact h
  · next e =>
    rw [if_neg e] at h
    obtain ⟨a, x, rfl, h1, h2⟩ := h
    exact ⟨a, x, rfl, sqt_up k h1, Mn.up (P := TX (put ch p)) s k h2⟩, fun h => by
  unfold PIN at h ⊢
  split
  · next e => rw [if_pos e] at h; exact h
  · next e =>
    rw [if_neg e] at h
    exact h⟩
/-- a pair of typed values -/
def Pr {M : Addr → Prop} (K : PySem.W.Frag) (R1 R2 : SV M) : SV M := ⟨fun H v => ∃ a x y, v = .ref a ∧ SqT K H a [x, y] ∧ R1.R H x ∧ R2.R H y, fun k ⟨a, x, y, e, h, h1, h2⟩ => ⟨a, x, y, e, sqt_up (S := fun a => ¬ M a) (fun a o e n => k a o e n) h, R1.st k h1, R2.st k h2⟩⟩
theorem ty_pairV {M : Addr → Prop} {H0 : Hp} {K : PySem.W.Frag} {ps : List (Option (SV M))} {ta tb : TE} {R1 R2' : SV M} (h1 : Ty H0 M ps ta R1) (h2 : Ty H0 M ps tb R2') : Ty H0 M ps (tTup (tCons ta (tCons tb tNil))) (Pr K R1 R2') := fun σ H g t Q q =>
  (ta_cons h1 (ta_cons h2 ta_nil)) σ H g t _ fun vs H2 e p => by
    cases p with
    | cons r1 t1 => cases t1 with
      | cons r2 t2 =>
        cases t2
        exact ⟨by show 2 ≤ sizeLine; decide, fun p hp => q _ _ (e.trans (Ex.new hp)) ⟨p, _, _, rfl, SqT.of upd_same, R1.st (.ofEx (Ex.new hp)) r1, R2'.st (.ofEx (Ex.new hp)) r2⟩⟩
abbrev spPin (K : PySem.W.Frag) : Sp := Sp2 (ι := List Nat × Nat) (fun i => TX i.1) (fun i => IV (.int (i.2 : Int))) (fun i => i.1.length ≤ 4) (fun i => PIN K i.1 i.2)
section
variable {P : Program} {w : World} {K : PySem.W.Frag} {mg : Str → Option Value} {base : Heap}
theorem has_subsets (T : Tx K mg) : Has P w K mg base 1 "subsets" ["size", "many"] spSub := by
  refine has2 T.d_subsets sc_subsets (fun _ _ _ _ _ _ us hl => match us, hl with | [_, _], _ => rfl) fun f cdv A outer s H E hr => ⟨_,
    (pss_cons (ps_set (i := 2) sc_subsets.nd rfl (Or.inl rfl) (pe_lst (pa_cons (pe_tup pa_nil) pa_nil)))
      (pss_cons (ps_for PassesOwn.never rfl (pi_range1 (by rfl) T.b_range (pa_cons (pv 1) pa_nil)) (pg_name (i := 3) sc_subsets.nd rfl (Or.inl rfl)) (pss_cons (ps_set (i := 4) sc_subsets.nd rfl (Or.inr rfl) (pe_op op_add (pe_op op_add (pe_op op_sub (pv 0) (pv 1)) (pv 3)) pe_int))
      (pss_one (ps_setLc2 (i := 2) (own := [("chosen", 5), ("place", 6)]) (vs1 := [6]) rfl sc_subsets.nd rfl rfl (sw_true rfl rfl rfl (by decide +kernel)) (pi_listK (K := K) (pv 2)) (blkOk_by (by kernel_rfl)) (by decide) (fun _ _ _ _ _ => (pg_name (i := 5) sc_subsets.nd rfl (Or.inl rfl))) (fun _ _ _ _ _ => pts_nil) (fun _ _ _ _ _ => (pi_range2 (by rfl) T.b_range (pa_cons (pe_ifExp (pt_cmpR (neDK (K := K) hr.units) (pv 5) (pe_tup pa_nil) (nomark _)) (pe_op op_add (pe_ix (ix_seqK (K := K)) (pv 5) (pe_un un_neg pe_int) (fun _ _ => rfl)) pe_int) pe_int) (pa_cons (pv 4) pa_nil)))) (fun _ _ _ _ _ => (pg_name (i := 6) sc_subsets.nd rfl (Or.inl rfl))) (fun _ _ _ _ _ => pts_nil) (fun _ _ _ _ _ => (pe_op (op_catAK (K := K)) (pv 5) (pe_tup (pa_cons (pv 6) pa_nil))))))))
      (pss_one (ps_ret (pv 2))))), ?_⟩
  rintro ⟨size, many⟩ v1 v2 Q h1 h2 ⟨hms, hs4⟩ ret
  dsimp only at hms hs4
  have g : Good H NoM H := .start H
  have ts : Tsl [some (Iv NoM (.int (size : Int))), some (Iv NoM (.int (many : Int))), none, none, none, none, none] (start ["size", "many", "found", "step", "end", "chosen", "place"] [v1, v2]) H := wip_cons h1 (wip_cons h2 (non_cons (non_cons (non_cons (non_cons (non_cons nil_ts))))))
  refine st_set (Fr NoM H (LO TX (sbTo size many 0))) g ts ?_ fun σ2 H2 e2 g2 t2 => ?_
  · exact ty_lst1 (R := An NoM (TX [])) ty_tup0 fun _ _ h => h
  refine st_for1 many g2 t2 (ta_cons (ty_var rfl) ta_nil) rfl (by omega) (fun i => [some (Iv NoM (.int (size : Int))), some (Iv NoM (.int (many : Int))), some (Fr NoM H (LO TX (sbTo size many i))), none, none, none, none]) (fun _ _ t => t) (fun step σ3 H3 hst g3 t3 D' hD cont => ?_) fun σ3 H3 g3 t3 => ?_
  · obtain ⟨sl, sl2, sch⟩ := sb_small size (by omega) many hms step hst
    refine st_set (Iv NoM (.int ((size : Int) - many + step + 1))) g3 t3 (ty_i0 (ty_i0 (ty_i0 (ty_var rfl) (ty_var rfl)) (ty_var rfl)) ty_c) fun σ4 H4 e4 g4 t4 => ?_
    refine st_set1 (Fr NoM H (LO TX (sbTo size many (step + 1)))) g4 t4 ?_ fun σ6 H6 e6 g6 t6 => cont σ6 H6 g6 (Tsl.to t6 ⟨.inr rfl, .inr rfl, .inr rfl, .inl rfl, .inl rfl, .inr rfl, .inr rfl, trivial⟩)
    have eS : sbTo size many (step + 1) = (List.range (sbTo size many step).length).flatMap fun i => (List.range (size - many + step + 1 - sbLow ((sbTo size many step).getD i []))).map fun p => (sbTo size many step).getD i [] ++ [sbLow ((sbTo size many step).getD i []) + p] := by
      show sbStep size many step (sbTo size many step) = _
      unfold sbStep
      rw [flatMap_range []]
    rw [eS] at sl2 ⊢
    refine ty_lc2 (Pb := TX) (n := (sbTo size many step).length) (Ps1 := fun i => [some (Iv NoM (.int (size : Int))), some (Iv NoM (.int (many : Int))), none, some (Iv NoM (.int (step : Int))), some (Iv NoM (.int ((size : Int) - many + step + 1))), some (An NoM (TX ((sbTo size many step).getD i []))), none]) _
      (ti_list ([] : List Nat) (Pc := TX) (xs := sbTo size many step) (R := Fr NoM H (LO TX (sbTo size many step))) (ty_var rfl) (fun _ _ h => fr_an h) (by decide)) (by omega) (by decide) (fun i hi => ⟨.inr rfl, .inr rfl, .inl rfl, .inr rfl, .inr rfl, .inr rfl, .inr rfl, trivial⟩) (fun D i hi => ⟨mo_iv, mo_iv, mo_iv, mo_iv, mo_tx, trivial⟩) fun B i hi gB => ?_
    have hm : (sbTo size many step).getD i [] ∈ sbTo size many step := List.mem_of_getElem? (getD_at [] hi)
    obtain ⟨cl, clow⟩ := sch _ hm
    refine ⟨(sbLow ((sbTo size many step).getD i []) : Int), (size : Int) - many + step + 1, ?_, by rw [List.length_map, List.length_range]; omega, by omega, fun B2 j c hc gB2 => ?_⟩
    · refine ta_cons (R := Iv NoM (.int (sbLow ((sbTo size many step).getD i []) : Int))) ?_ (ta_cons ?_ ta_nil)
      · refine ty_if (b := !decide ((sbTo size many step).getD i [] = [])) (tt_test (ty_neX0 (R := An NoM (TX ((sbTo size many step).getD i []))) (R1 := An NoM (TX [])) (ty_var rfl) (fun _ _ h => h) cl ty_tup0 (fun _ _ h => h))) (fun hb => ?_) fun hb => ?_
        · have hne : (sbTo size many step).getD i [] ≠ [] := by simpa using hb
          obtain ⟨p, hp, hq⟩ := sbLow_last _ hne
          rw [hq]
          refine ty_int (i := (p : Int) + 1) (ty_i0 (ty_ixX (R := An NoM (TX ((sbTo size many step).getD i []))) (i := -1) p ?_ (fun _ _ h => h) ?_ (atI_last' hp)) ty_c) (by omega)
          · exact ty_var rfl
          · exact ty_un ty_c
        · have he : (sbTo size many step).getD i [] = [] := by simpa using hb
          rw [he]
          exact ty_c
      · exact ty_var rfl
    · obtain ⟨hj, rfl⟩ := range_at hc
      refine ty_conv (R := An NoM (TX _)) (ty_catX (R := An NoM (TX ((sbTo size many step).getD i []))) (R1 := An NoM (TX [sbLow ((sbTo size many step).getD i []) + j])) (ty_var rfl) (fun _ _ h => h) (ty_tup1 ?_) (fun _ _ h => h) (by show _ + 1 ≤ 1000; omega)) fun _ _ h => h
      exact ty_int (ty_var rfl) (by omega)
  · refine st_ret (R := Fr NoM H (LO TX (subsets size many))) g3 t3 (ty_var rfl) fun v H' e x => ?_
    exact ret v H' (g3.up e).ex0 (Mn.mono (fun _ z => z.2) x)
theorem has_place_in (T : Tx K mg) : Has P w K mg base 1 "place_in" ["chosen", "place"] (spPin K) := by
  refine has2 T.d_place_in sc_place_in (fun _ _ _ _ _ _ us hl => match us, hl with | [_, _], _ => rfl) fun f cdv A outer s H E hr => ⟨_,
    (pss_cons (ps_if (pt_cmpR (in_seqK (K := K)) (pv 1) (pv 0) (by rfl)) (pss_one (ps_ret pe_non)) pss_nil)
      (pss_cons (ps_set (i := 2) sc_place_in.nd rfl (Or.inl rfl) (pe_callB (len_seqK (K := K)) (by rfl) T.b_len (by decide +kernel) (pa_cons (pe_lc (own := [("other", 3)]) rfl sc_place_in.nd (pi_tupK (K := K) (pv 0)) (blkOk_by (by kernel_rfl)) (fun _ _ _ _ _ => (pg_name (i := 3) sc_place_in.nd rfl (Or.inl rfl))) (fun _ _ _ _ _ => (pts_one (pt_cmpR op_lt (pv 3) (pv 1) (nomark _)))) (fun _ _ _ _ _ => (pv 3))) pa_nil)))
      (pss_one (ps_ret (pe_tup (pa_cons (pe_op (op_catAK (K := K)) (pe_op (op_catAK (K := K)) (pe_slice (sl_tupAK (K := K)) (pv 0) po_none (po_some (pv 2))) (pe_tup (pa_cons (pv 1) pa_nil))) (pe_slice (sl_tupAK (K := K)) (pv 0) (po_some (pv 2)) po_none)) (pa_cons (pe_ifExp (pt_cmpR op_eq (pe_op op_mod (pv 2) pe_int) pe_int (nomark _)) pe_int (pe_un un_neg pe_int)) pa_nil))))))), ?_⟩
  rintro ⟨ch, p⟩ v1 v2 Q h1 h2 hl ret
  dsimp only at hl
  have g : Good H NoM H := .start H
  have ts : Tsl [some (An NoM (TX ch)), some (Iv NoM (.int (p : Int))), none, none] (start ["chosen", "place", "less", "other"] [v1, v2]) H := wip_cons h1 (wip_cons h2 (non_cons (non_cons nil_ts)))
  refine st_when g ts (tt_test (ty_inX (R := An NoM (TX ch)) (ty_var rfl) (ty_var rfl) fun _ _ h => h)) (fun hb H2 e2 g2 t2 => ?_) fun hb H2 e2 g2 t2 => ?_
  · refine st_ret (R := Iv NoM .non) g2 t2 ty_c fun v H' e x => ret v H' (e2.trans e) ?_
    show PIN K ch p _ _ _
    unfold PIN
    rw [if_pos (of_decide_eq_true hb)]
    exact x
  refine st_set (Iv NoM (.int (less ch p : Int))) g2 t2 ?_ fun σ3 H3 e3 g3 t3 => ?_
  · refine ty_lenL (Pb := NI) (l := ch.filter fun o => decide (o < p)) (R := Fr NoM H (LO NI (ch.filter fun o => decide (o < p)))) ?_ (fun _ _ h => fr_tr h)
    have hz := ty_lcW (Pb := NI) (H0 := H) ch.length (fun m => (ch.take m).filter fun o => decide (o < p)) _ (ti_tup (0 : Nat) (K := K) (Pc := NI) (xs := ch) (R := An NoM (TX ch)) (vs := [3]) (j := 3) (ps := [some (An NoM (TX ch)), some (Iv NoM (.int (p : Int))), none, none]) (ty_var (i := 0) rfl) (fun _ _ h => tx_to (S := Tr) h) (by decide)) (te := tVar 3) (tt := tAnd (tTest (tOp (rI0 fun i j => .bl (decide (i < j))) (tVar 3) (tVar 1))) tYes) (by omega) rfl fun B i hi gB => ?_
    · rw [List.take_length] at hz
      exact hz
    · refine ⟨decide (ch.getD i 0 < p) && true, tt_and (tt_is (tt_test (ty_i0 (ty_conv (ty_var (i := 3) rfl) fun _ _ h => h) (ty_var (i := 1) rfl))) (decide_eq_decide.mpr Int.ofNat_lt)) fun _ => tt_yes, fun hb => ⟨ch.getD i 0, ?_, ?_⟩, fun hb => ?_⟩
      · rw [Bool.and_true] at hb
        rw [take_snoc (getD_at 0 hi), List.filter_append, List.filter_cons, if_pos hb]
        rfl
      · exact ty_conv (ty_var (i := 3) rfl) fun _ _ h => h
      · rw [Bool.and_true] at hb
        rw [take_snoc (getD_at 0 hi), List.filter_append, List.filter_cons, if_neg (by rw [hb]; decide)]
        exact List.append_nil _
  refine st_ret (R := Pr K (An NoM (TX (put ch p))) (Iv NoM (.int (putSign ch p)))) g3 t3 (ty_pairV ?_ ?_) fun v H' e x => ?_
  · have hz1 := cut_take ch (less ch p)
    have hz2 := cut_drop ch (less ch p)
    refine ty_catX (R := An NoM (TX (ch.take (less ch p) ++ [p]))) (R1 := An NoM (TX (ch.drop (less ch p)))) ?_ (fun _ _ h => h) ?_ (fun _ _ h => h) (by rw [List.length_append, List.length_take, List.length_drop]; simp; omega)
    · refine ty_catX (R := An NoM (TX (ch.take (less ch p)))) (R1 := An NoM (TX [p])) ?_ (fun _ _ h => h) ?_ (fun _ _ h => h) (by rw [List.length_take]; simp; omega)
      · rw [← hz1]
        refine ty_slX (R := An NoM (TX ch)) ?_ (fun _ _ h => h) to_none (to_some ?_)
        · exact ty_var rfl
        · exact ty_var rfl
      · exact ty_tup1 (ty_var rfl)
    · rw [← hz2]
      refine ty_slX (R := An NoM (TX ch)) ?_ (fun _ _ h => h) (to_some ?_) to_none
      · exact ty_var rfl
      · exact ty_var rfl
  · refine ty_if (b := decide (less ch p % 2 = 0)) (tt_is (tt_test (ty_eqI (ty_i (ty_var rfl) ty_c (show (0 : Int) < 2 by decide)) ty_c rfl)) ?_) (fun hb => ?_) fun hb => ?_
    · rw [dec_int, Bool.beq_eq_decide_eq]
      exact decide_eq_decide.mpr (by omega)
    · rw [show putSign ch p = 1 from if_pos (of_decide_eq_true hb)]
      exact ty_c
    · rw [show putSign ch p = -1 from if_neg (of_decide_eq_false hb)]
      exact ty_un ty_c
  · refine ret v H' (g3.up e).ex0 ?_
    show PIN K ch p _ _ _
    unfold PIN
    rw [if_neg (of_decide_eq_false hb)]
    obtain ⟨a, x, y, rfl, h1, h2, h3⟩ := x
    have h3 : y = _ := h3
    subst h3
    exact ⟨a, x, rfl, h1, h2⟩
end
end My
end
section
set_option Elab.async false
set_option linter.all false
set_option maxRecDepth 100000
set_option maxHeartbeats 2000000
namespace My
open PySem PySem.Spec PyProof.Rows L2 Evl
open Mi (at0 at2 swapR)
section
variable {H0 : Hp} {K : PySem.W.Frag} {ps : List (Option (SV NoM))} {ta tb tc te : TE} {tt : TT} {E : XK} {R R1 R2' : SV NoM} {β : Type} {Pb : β → VP} [∀ b, Mn (Pb b)] {l : List β} {vs : List Nat} {H B : Hp} {σ : L2.St} {D : Ends} {tz tu : TS}
abbrev rListA (K : PySem.W.Frag) : List V → Hp → VK → Prop := fun xs H Q => ∃ p ys, xs = [.ref p] ∧ (SqL K H p ys ∨ SqT K H p ys) ∧ ∀ l, H l = none → Q (.ref l) (upd H l (.lst ys))
/-- list(xs): a list or a tuple of items that stand -/
theorem ty_listL {Pb : β → VP} [∀ b, Mn (Pb b)] (h : Ty H0 NoM ps ta R) (hR : ∀ H v, R.R H v → LO Pb l (fun a => ¬ NoM a ∧ H0 a = none) H v) : Ty H0 NoM ps (tCB (rListA K) (tCons ta tNil)) (Fr NoM H0 (LO Pb l)) :=
  ty_cb (ta_cons h ta_nil) fun H vs Q g p q => by
    cases p with
    | cons r1 t1 =>
      cases t1
      obtain ⟨a, xs, rfl, ha, h1, p1⟩ := hR _ _ r1
      exact ⟨a, xs, rfl, .inl (SqL.of h1), fun b hb => q _ _ (Ex.new hb) ⟨b, xs, rfl, g.fresh hb, upd_same, Paired.mapR p1 fun c x k => Mn.ex (Ex.new hb) k⟩⟩
theorem ty_listQ {l : List Rat} (h : Ty H0 NoM ps ta R) (hR : ∀ H v, R.R H v → LO (IQ K) l Tr H v) : Ty H0 NoM ps (tCB (rListA K) (tCons ta tNil)) (Fr NoM H0 (LO (IQ K) l)) :=
  ty_cb (ta_cons h ta_nil) fun H vs Q g p q => by
    cases p with
    | cons r1 t1 =>
      cases t1
      obtain ⟨a, xs, rfl, ha, h1, p1⟩ := hR _ _ r1
      exact ⟨a, xs, rfl, .inl (SqL.of h1), fun b hb => q _ _ (Ex.new hb) ⟨b, xs, rfl, g.fresh hb, upd_same, Paired.mapR p1 fun c x k => Mn.ex (P := IQ K c) (Ex.new hb) k⟩⟩
theorem ty_listT {l : List Rat} (h : Ty H0 NoM ps ta R) (hR : ∀ H v, R.R H v → TO' K (IQ K) l Tr H v) : Ty H0 NoM ps (tCB (rListA K) (tCons ta tNil)) (Fr NoM H0 (LO (IQ K) l)) :=
  ty_cb (ta_cons h ta_nil) fun H vs Q g p q => by
    cases p with
    | cons r1 t1 =>
      cases t1
      obtain ⟨a, xs, rfl, h1, p1⟩ := hR _ _ r1
      exact ⟨a, xs, rfl, .inr h1, fun b hb => q _ _ (Ex.new hb) ⟨b, xs, rfl, g.fresh hb, upd_same, Paired.mapR p1 fun c x k => Mn.ex (P := IQ K c) (Ex.new hb) k⟩⟩
/-- a comprehension's new list, ours -/
theorem ty_lcN {wi : TI} {g : TG} {n : Nat} {Psl : Nat → List (Option (SV NoM))} (l : List β) (hi : TyI H0 NoM ps wi g vs n Psl) (hl : l.length = n) (hn : n ≤ 40000) (he : ∀ (B : Hp) i c, l[i]? = some c → Good H0 NoM B → Ty B NoM (Psl i) te (Fr NoM B (Pb c))) :
    Ty H0 NoM ps (tLc wi g tYes te vs) (Nw H0 Pb l) := fun σ H gd ts Q q => by
  refine hi σ H gd ts _ fun J H2 G Y e2 hW hG hb D hD => ?_
  have gd2 := gd.up e2
  refine lc_it hW (fun i H' => Ex H2 H' ∧ ∃ xs, H' D = some (.lst xs) ∧ xs.length = i ∧ Paired (fun b x => Pb b (fun a => H0 a = Option.none ∧ a ≠ D) H' x) (l.take i) xs) ⟨Ex.new hD, [], upd_same, rfl, .nil⟩ (fun i H' _ p => hG H' p.1) (fun i x H' H4 hi' p y => ?_) fun H' p => ?_
  · obtain ⟨eH, xs, hx, hxl, hp⟩ := p
    refine hb i x H' H4 _ hi' eH y fun σ' H5 e5 t5 hw => ⟨hw, ?_⟩
    have gd5 := gd2.up (eH.trans e5)
    have hc : l[i]? = some l[i] := List.getElem?_eq_getElem (by omega)
    show te σ' H5 _
    refine he H5 i _ hc gd5 σ' H5 gd5.base t5 _ fun v H7 e7 r => ?_
    have e57 := e5.trans e7
    have hx7 : H7 D = some (.lst xs) := e57 D _ hx
    have hS : ∀ a, (H0 a = Option.none ∧ a ≠ D) → a ≠ D := fun _ z => z.2
    refine ⟨xs, hx7, sz_lt (by omega), Ex.mut (eH.trans e57) hD, xs ++ [v], upd_same, by rw [List.length_append, hxl]; rfl, ?_⟩
    rw [take_snoc hc]
    refine pr_app (Paired.mapR hp fun b x k => Mn.up (fun _ z => z) (upd_keep hx7 hS) (Mn.ex e57 k)) (.cons ?_ .nil)
    refine Mn.up (fun _ z => z) (upd_keep hx7 hS) (Mn.mono (fun a z => ⟨(gd5.fresh z.2).2, fun w => ?_⟩) r)
    have z2 := z.2
    rw [w, e5 D _ hx] at z2
    cases z2
  · obtain ⟨eH, xs, hx, hxl, hp⟩ := p
    rw [List.take_of_length_le (by omega)] at hp
    exact q _ H' (e2.trans eH) ⟨D, rfl, (gd2.fresh hD).2, rfl, xs, hx, hp⟩
/-- a, b = x, y by way of the tuple -/
theorem st_tup2 {i j : Nat} (g : Good B NoM H) (ts : Tsl ps σ H) (h : Ty B NoM ps ta R1) (h2 : Ty B NoM ps tb R2') (k : ∀ v w H', Ex H H' → Good B NoM H' → R1.R H' v → R2'.R H' w → tz D ((σ.set i (some v)).set j (some w)) H') : tSeq (tAsg (tTup (tCons ta (tCons tb tNil))) (gTup K 2 (gCons (gName i) (gCons (gName j) gNil)))) tz D σ H := by
  show tTup (tCons ta (tCons tb tNil)) σ H (fun x H1 => gTup K 2 (gCons (gName i) (gCons (gName j) gNil)) x σ H1 (tz D))
  unfold tTup
  refine (ta_cons h (ta_cons h2 ta_nil)) σ H g ts _ fun vs H2 e p => ?_
  cases p with
  | cons r1 t1 => cases t1 with
    | cons r2 t2 =>
      cases t2
      rename_i v w
      refine ⟨by show 2 ≤ sizeLine; decide, fun p hp => ?_⟩
      have eN := Ex.new (o := .tup [v, w]) hp
      exact ⟨p, _, rfl, SqT.of upd_same, rfl, _, _, rfl, _, _, rfl, rfl, k _ _ _ (e.trans eN) ((g.up e).up eN) (R1.st (.ofEx eN) r1) (R2'.st (.ofEx eN) r2)⟩
/-- a loop over range(n), I of any form -/
theorem st_forX1 {t : TA} {j : Nat} {hi : Int} (n : Nat) (g : Good B NoM H) (ts : Tsl ps σ H) (h : TyA B NoM ps t [Iv NoM (.int hi)]) (hn : hi.toNat = n) (hb : -1000000 ≤ hi ∧ hi ≤ 1000000) (I : Nat → L2.St → Hp → Prop)
    (h0 : ∀ H', Ex H H' → I 0 σ H')
    (hs : ∀ (i : Nat) σ' H', i < n → I i σ' H' → ∀ D' : Ends, D'.rt = D.rt → (∀ σ2 H2, I (i + 1) σ2 H2 → D'.nx σ2 H2) → tu D' (σ'.set j (some (.int (i : Int)))) H')
    (hd : ∀ σ' H', I n σ' H' → tz D σ' H') : tSeq (tFor (iRng1 t) (gName j) tu) tz D σ H := by
  subst hn
  refine h σ H g ts _ fun vs H1 e p => ?_
  obtain rfl : vs = [.int hi] := by
    cases p with | cons r t => cases t; rw [show _ = _ from r]
  refine ⟨hi, rfl, by omega, by omega, for_range (lo := 0) (n := hi.toNat) I (h0 _ e) (fun i σ' H' hi p => ?_) fun σ' H' p => hd σ' H' p⟩
  have e0 : (0 : Int) + (i : Int) = (i : Int) := Int.zero_add _
  rw [e0]
  exact hs i _ H' hi p _ rfl fun σ2 H2 g => g
/-- if without else, both ways joined at J -/
theorem st_whenJ {t : TT} {b : Bool} (J : L2.St → Hp → Prop) (g : Good B NoM H) (ts : Tsl ps σ H) (h : TyT B NoM ps t b) (k : ∀ σ H, J σ H → tz D σ H) (h1 : b = true → ∀ H', Ex H H' → Good B NoM H' → Tsl ps σ H' → (∀ σ H, J σ H → tz D σ H) → tu { D with nx := tz D } σ H') (h2 : b = false → ∀ H', Ex H H' → Good B NoM H' → Tsl ps σ H' → J σ H') : tSeq (tIfS t tu tNext) tz D σ H :=
  st_if g ts h (fun hb H' e g t => h1 hb H' e g t k) fun hb H' e g t => k _ _ (h2 hb H' e g t)
/-- xs == [] -/
theorem ty_eqN0 {l : List Nat} (ha : Ty H0 NoM ps ta R) (hR : ∀ H v, R.R H v → LO NI l Tr H v) (hl : l.length ≤ 4) (hb : Ty H0 NoM ps tb R1) (hR1 : ∀ H v, R1.R H v → LO NI [] Tr H v) : Ty H0 NoM ps (tOp (rEqD K) ta tb) (Iv NoM (.bl (decide (l = [])))) := fun σ H g t Q k =>
  ha σ H g t _ fun v H2 e2 h2 => hb σ H2 (g.up e2) (t.up e2) _ fun w H3 e3 h3 => by
    have all : ∀ {l : List Nat} {vs : List V}, Paired (fun b x => NI b Tr H3 x) l vs → DpAll K H3 vs (l.map fun n : Nat => PyData.int (n : Int)) := fun {l vs} p => by
      induction p with
      | nil => exact .nil
      | cons r _ ih =>
        have r : _ = V.int _ := r
        subst r
        exact .cons (.int _) ih
    obtain ⟨a, vs, rfl, _, h1, p1⟩ := hR _ _ (R.st (.ofEx e3) h2)
    obtain ⟨b, ws, rfl, _, h4, p2⟩ := hR1 _ _ h3
    have sh : SeqAt.shaped (.list (l.map fun n : Nat => PyData.int (n : Int))) = true := by
      match l, hl with
      | [], _ => rfl
      | [_], _ => rfl
      | [_, _], _ => rfl
      | [_, _, _], _ => rfl
      | [_, _, _, _], _ => rfl
      | _ :: _ :: _ :: _ :: _ :: _, h => simp at h
    refine ⟨_, _, .lst (SqL.of h1) (all p1), .lst (SqL.of h4) (all p2), sh, rfl, ?_⟩
    have e : PyData.eqv (.list (l.map fun n : Nat => PyData.int (n : Int))) (.list (([] : List Nat).map fun n : Nat => PyData.int (n : Int))) = decide (l = []) := by
      cases l <;> rfl
    rw [e]
    exact k _ H3 (e2.trans e3) rfl
/-- xs[m], xs[n] = xs[n], xs[m]: xs a list of ours -/
theorem st_swapO {F : Addr} {S : Addr → Prop} {i : Nat} {x y : Int} (m n : Nat) (d : β) (gH : Good H0 NoM H) (n0 : H0 F = none) (ts : Tsl ps σ H) (hs : ps[i]? = some (some (Ow F S Pb l)))
    (hb : ∀ B, Ty B NoM (ps.set i none) tb (Iv NoM (.int x))) (hc : ∀ B, Ty B NoM (ps.set i none) tc (Iv NoM (.int y))) (ex : x = (m : Int)) (ey : y = (n : Int)) (hm : m < l.length) (hn : n < l.length) (hS : ∀ a, S a → a ≠ F) (hmo : MoAll F (ps.set i none))
    (k : ∀ H', Good H0 NoM H' → Tsl (ps.set i (some (Ow F S Pb ((l.set m (l.getD n d)).set n (l.getD m d))))) σ H' → tz D σ H') :
    tSeq (tAsg (tTup (tCons (tOp (rIx K) (tVar i) tc) (tCons (tOp (rIx K) (tVar i) tb) tNil))) (gTup K 2 (gCons (gSub (tVar i) tb rSetL) (gCons (gSub (tVar i) tc rSetL) gNil)))) tz D σ H := by
  obtain ⟨v, ev, e, vs, hF, p⟩ := ts.get hs
  subst e
  have hlen := pr_len p
  obtain ⟨xn, hxn, pn⟩ := pr_get p (getD_at d hn)
  obtain ⟨xm, hxm, pm⟩ := pr_get p (getD_at d hm)
  refine ⟨.ref F, ev, ?_⟩
  refine hc H σ H (.start H) ts.drop _ fun _ H1 e1 r1 => ?_
  refine .inl ⟨F, vs, y, xn, rfl, r1, SqL.of (e1 F _ hF), ix_at ey hxn, ?_⟩
  refine ⟨.ref F, ev, ?_⟩
  refine hb H1 σ H1 (.start H1) (ts.up e1).drop _ fun _ H2 e2 r2 => ?_
  have e12 := e1.trans e2
  refine .inl ⟨F, vs, x, xm, rfl, r2, SqL.of (e12 F _ hF), ix_at ex hxm, ?_⟩
  refine ⟨by show 2 ≤ sizeLine; decide, fun q hq => ?_⟩
  have e3 := e12.trans (Ex.new (o := .tup [xn, xm]) hq)
  have hF3 := e3 F _ hF
  refine ⟨q, _, rfl, SqT.of upd_same, rfl, xn, _, rfl, ?_⟩
  generalize upd H2 q (.tup [xn, xm]) = H3 at e3 hF3
  have t3 := (ts.up e3)
  refine ⟨.ref F, ev, ?_⟩
  refine hb H3 σ H3 (.start H3) t3.drop _ fun _ H4 e4 r4 => ?_
  have hF4 := e4 F _ hF3
  refine ⟨F, vs, x, m, rfl, r4, hF4, by rw [ex]; exact ixN_nat (by omega), ?_⟩
  refine ⟨xm, [], rfl, ?_⟩
  have t5 := Tsl.mut (ys := vs.set m xn) hF4 ((t3.up e4).drop (i := i)) hmo
  have hF5 : upd H4 F (.lst (vs.set m xn)) F = some (.lst (vs.set m xn)) := upd_same
  have u3 : ∀ c u, Pb c S H u → Pb c S (upd H4 F (.lst (vs.set m xn))) u := fun c u z => Mn.up (fun _ z => z) (upd_keep hF4 hS) (Mn.ex (e3.trans e4) z)
  have g5 := good_mut (ys := vs.set m xn) ((gH.up e3).up e4) n0
  generalize upd H4 F (.lst (vs.set m xn)) = H5 at t5 hF5 u3 g5
  refine ⟨.ref F, ev, ?_⟩
  refine hc H5 σ H5 (.start H5) t5 _ fun _ H6 e6 r6 => ?_
  have hF6 := e6 F _ hF5
  refine ⟨F, vs.set m xn, y, n, rfl, r6, hF6, by rw [ey]; exact ixN_nat (by rw [List.length_set]; omega), rfl, ?_⟩
  have t7 := Tsl.mut (ys := (vs.set m xn).set n xm) hF6 (t5.up e6) hmo
  refine k _ (good_mut (g5.up e6) n0) ?_
  have u6 : ∀ c u, Pb c S H u → Pb c S (upd H6 F (.lst ((vs.set m xn).set n xm))) u := fun c u z => Mn.up (fun _ z => z) (upd_keep hF6 hS) (Mn.ex e6 (u3 c u z))
  have t8 := Tsl.put (R := Ow F S Pb ((l.set m (l.getD n d)).set n (l.getD m d))) (i := i) ⟨rfl, _, upd_same, pr_set (F := fun b x => Pb b S _ x) (u6 _ _ pm) n (pr_set (F := fun b x => Pb b S _ x) (u6 _ _ pn) m (Paired.mapR p u6))⟩ ev t7
  rw [List.set_set] at t8
  exact t8
end
end My
end
section
set_option Elab.async false
set_option linter.all false
set_option maxRecDepth 100000
set_option maxHeartbeats 2000000
namespace My
open PySem PySem.Spec PyProof.Rows L2 Evl
open Mi (at0 at2 swapR spot detT det minor compound subsets)
abbrev isz : Rat → Bool := fun q => decide (q = 0)
/-- each pivot but the last is 1, alone in its column -/
def DetOk (k : Nat) : Nat → List (List Rat) → Prop
  | 0, _ => True
  | t + 1, rows => (∀ r, r < k → ∀ c, c < k → Sm (at2 rows r c)) ∧ (t ≠ 0 → ∀ s, spot isz rows (k - (t + 1)) k = some s → at2 rows s (k - (t + 1)) = 1 ∧ (∀ r, r < k → k - (t + 1) ≤ r → r ≠ s → at2 rows r (k - (t + 1)) = 0) ∧ DetOk k t (swapR rows (k - (t + 1)) s))
abbrev spDet (K : PySem.W.Frag) : Sp := Sp1 (ι := Nat × List (List Rat)) (fun i => LO (LO (IQ K)) i.2) (fun i => i.1 ≤ 4 ∧ i.2.length = i.1 ∧ (∀ r, r < i.1 → (i.2.getD r []).length = i.1) ∧ DetOk i.1 i.1 i.2) (fun i => IQ K (det isz i.1 i.2))
theorem swap_len (rows : List (List Rat)) (i j : Nat) : (swapR rows i j).length = rows.length := by unfold swapR; rw [List.length_set, List.length_set]
theorem swap_at (rows : List (List Rat)) (i j r : Nat) (hi : i < rows.length) (hj : j < rows.length) : (swapR rows i j).getD r [] = rows.getD (if r = j then i else if r = i then j else r) [] := by
  unfold swapR
  rw [List.getD_eq_getElem?_getD, List.getElem?_set, List.length_set]
  by_cases h1 : j = r
  · rw [if_pos h1, if_pos (by omega), if_pos h1.symm]
    rfl
  · rw [if_neg h1, List.getElem?_set, if_neg (show ¬ r = j from fun z => h1 z.symm)]
    by_cases h2 : i = r
    · rw [if_pos h2, if_pos hi, if_pos h2.symm]
      rfl
    · rw [if_neg h2, if_neg (show ¬ r = i from fun z => h2 z.symm), ← List.getD_eq_getElem?_getD]
theorem swap_self (rows : List (List Rat)) (i : Nat) (hi : i < rows.length) : swapR rows i i = rows := by
  apply List.ext_getElem?
  intro r
  by_cases hr : r < rows.length
  · rw [getD_at [] hr, getD_at [] (by rw [swap_len]; exact hr), swap_at _ _ _ _ hi hi]
    congr 2
    by_cases h : r = i
    · rw [if_pos h, h]
    · rw [if_neg h, if_neg h]
  · rw [List.getElem?_eq_none (l := rows) (by omega), List.getElem?_eq_none (by rw [swap_len]; omega)]
theorem sm_one : Sm 1 := sm_int 1 (by decide)
theorem sm_mone : Sm (-1) := sm_int (-1) (by decide)
theorem sm_zero : Sm 0 := sm_int 0 (by decide)
section
variable {P : Program} {w : World} {K : PySem.W.Frag} {mg : Str → Option Value} {base : Heap}
theorem has_determinant (T : Tx K mg) : Has P w K mg base 5 "determinant" ["matrix"] (spDet K) := by
  have h_negative := has_negative (P := P) (w := w) (base := base) T
  have h_times := has_times (P := P) (w := w) (base := base) T
  have h_over := has_over (P := P) (w := w) (base := base) T
  have h_minus := has_minus (P := P) (w := w) (base := base) T
  refine has1 T.d_determinant sc_determinant (fun _ _ _ _ _ _ us hl => match us, hl with | [_], _ => rfl) fun f cdv A outer s H E hr => ⟨_,
    (pss_cons (ps_asg (pe_tup (pa_cons (pe_lc (own := [("row", 5)]) rfl sc_determinant.nd (pi_listK (K := K) (pv 0)) (blkOk_by (by kernel_rfl)) (fun _ _ _ _ _ => (pg_name (i := 5) sc_determinant.nd rfl (Or.inl rfl))) (fun _ _ _ _ _ => pts_nil) (fun _ _ _ _ _ => (pe_callTy (list_ofK (K := K)) (by rfl) T.b_list (by decide +kernel) (pa_cons (pv 5) pa_nil)))) (pa_cons (pe_gc T.g_ONE) pa_nil))) (pg_tupK (K := K) (n := 2) rfl (pgs_cons (pg_name (i := 1) sc_determinant.nd rfl (Or.inr rfl)) (pgs_cons (pg_name (i := 2) sc_determinant.nd rfl (Or.inl rfl)) pgs_nil))))
      (pss_cons (ps_for PassesOwn.never rfl (pi_range1 (by rfl) T.b_range (pa_cons (pe_callB (len_seqK (K := K)) (by rfl) T.b_len (by decide +kernel) (pa_cons (pv 1) pa_nil)) pa_nil)) (pg_name (i := 3) sc_determinant.nd rfl (Or.inr rfl)) (pss_cons (ps_setLc (i := 4) (own := [("row", 5)]) rfl sc_determinant.nd rfl rfl (sw_true rfl rfl rfl (by decide +kernel)) (pi_range2 (by rfl) T.b_range (pa_cons (pv 3) (pa_cons (pe_callB (len_seqK (K := K)) (by rfl) T.b_len (by decide +kernel) (pa_cons (pv 1) pa_nil)) pa_nil))) (blkOk_by (by kernel_rfl)) (fun _ _ _ _ _ => (pg_name (i := 5) sc_determinant.nd rfl (Or.inl rfl))) (fun _ _ _ _ _ => (pts_one (pt_cmpR (neDK (K := K) hr.units) (pe_ix (ix_seqK (K := K)) (pe_ix (ix_seqK (K := K)) (pv 1) (pv 5) (fun _ _ => rfl)) (pv 3) (fun _ _ => rfl)) (pe_gc T.g_ZERO) (nomark _)))) (fun _ _ _ _ _ => (pv 5)))
      (pss_cons (ps_if (pt_cmpR (eqDK (K := K) hr.units) (pv 4) (pe_lst pa_nil) (nomark _)) (pss_one (ps_ret (pe_gc T.g_ZERO))) pss_nil)
      (pss_cons (ps_if (pt_cmpR op_ne (pe_ix (ix_seqK (K := K)) (pv 4) pe_int (fun _ _ => rfl)) (pv 3) (nomark _)) (pss_cons (ps_asg (pe_tup (pa_cons (pe_ix (ix_seqK (K := K)) (pv 1) (pe_ix (ix_seqK (K := K)) (pv 4) pe_int (fun _ _ => rfl)) (fun _ _ => rfl)) (pa_cons (pe_ix (ix_seqK (K := K)) (pv 1) (pv 3) (fun _ _ => rfl)) pa_nil))) (pg_tupK (K := K) (n := 2) rfl (pgs_cons (pg_sub (pv 1) (pv 3) set_list) (pgs_cons (pg_sub (pv 1) (pe_ix (ix_seqK (K := K)) (pv 4) pe_int (fun _ _ => rfl)) set_list) pgs_nil))))
      (pss_one (ps_set (i := 2) sc_determinant.nd rfl (Or.inl rfl) (pe_has h_negative (hr.mono (by decide)) (pa_cons (pv 2) pa_nil))))) pss_nil)
      (pss_cons (ps_set (i := 2) sc_determinant.nd rfl (Or.inl rfl) (pe_has h_times (hr.mono (by decide)) (pa_cons (pv 2) (pa_cons (pe_ix (ix_seqK (K := K)) (pe_ix (ix_seqK (K := K)) (pv 1) (pv 3) (fun _ _ => rfl)) (pv 3) (fun _ _ => rfl)) pa_nil))))
      (pss_one (ps_for PassesOwn.never rfl (pi_range2 (by rfl) T.b_range (pa_cons (pe_op op_add (pv 3) pe_int) (pa_cons (pe_callB (len_seqK (K := K)) (by rfl) T.b_len (by decide +kernel) (pa_cons (pv 1) pa_nil)) pa_nil))) (pg_name (i := 5) sc_determinant.nd rfl (Or.inl rfl)) (pss_cons (ps_set (i := 6) sc_determinant.nd rfl (Or.inr rfl) (pe_has h_over (hr.mono (by decide)) (pa_cons (pe_ix (ix_seqK (K := K)) (pe_ix (ix_seqK (K := K)) (pv 1) (pv 5) (fun _ _ => rfl)) (pv 3) (fun _ _ => rfl)) (pa_cons (pe_ix (ix_seqK (K := K)) (pe_ix (ix_seqK (K := K)) (pv 1) (pv 3) (fun _ _ => rfl)) (pv 3) (fun _ _ => rfl)) pa_nil))))
      (pss_one (ps_asg (pe_lc (own := [("a", 7), ("b", 8)]) rfl sc_determinant.nd (pi_zipK (K := K) T.b_zip (pa_cons (pe_ix (ix_seqK (K := K)) (pv 1) (pv 5) (fun _ _ => rfl)) (pa_cons (pe_ix (ix_seqK (K := K)) (pv 1) (pv 3) (fun _ _ => rfl)) pa_nil))) (blkOk_by (by kernel_rfl)) (fun _ _ _ _ _ => (pg_tupK (K := K) (n := 2) rfl (pgs_cons (pg_name (i := 7) sc_determinant.nd rfl (Or.inl rfl)) (pgs_cons (pg_name (i := 8) sc_determinant.nd rfl (Or.inl rfl)) pgs_nil)))) (fun _ _ _ _ _ => pts_nil) (fun _ _ _ _ _ => (pe_has h_minus (hr.mono (by decide)) (pa_cons (pv 7) (pa_cons (pe_has h_times (hr.mono (by decide)) (pa_cons (pv 6) (pa_cons (pv 8) pa_nil))) pa_nil))))) (pg_sub (pv 1) (pv 5) set_list)))))))))))
      (pss_one (ps_ret (pv 2))))), ?_⟩
  rintro ⟨k, m⟩ v1 Q h1 ⟨hk4, hml, hmr, hdet⟩ ret
  dsimp only at hk4 hml hmr hdet
  have g : Good H NoM H := .start H
  have ts : Tsl [some (An NoM (LO (LO (IQ K)) m)), none, none, none, none, none, none, none, none] (start ["matrix", "rows", "found", "at", "spots", "row", "factor", "a", "b"] [v1]) H := wip_cons (Mn.mono (fun _ _ z => z) h1) (non_cons (non_cons (non_cons (non_cons (non_cons (non_cons (non_cons (non_cons nil_ts))))))))
  refine st_tup2 (R1 := Nw H (LO (IQ K)) m) (R2' := Qs NoM K 1) g ts ?_ (ty_one T) fun v w' H1 e1 g1 r1 r2 => ?_
  · refine ty_lcN m (ti_list ([] : List Rat) (Pc := LO (IQ K)) (xs := m) (R := An NoM (LO (LO (IQ K)) m)) (ty_var rfl) (fun _ _ h => h) (by decide)) rfl (by omega) fun B i c hc gB => ?_
    refine ty_listQ (R := An NoM (LO (IQ K) c)) ?_ (fun _ _ h => an_tr h)
    exact ty_conv (ty_var (R := An NoM (LO (IQ K) (m.getD i []))) rfl) fun _ _ h => by
      rw [List.getD_eq_getElem?_getD, hc] at h
      exact h
  obtain ⟨F, rfl, hF0, hO⟩ := r1
  -- the slots as they stand in the loop
  let Sl : List (List Rat) → Rat → List (Option (SV NoM)) := fun rows found => [none, some (Ow F (fun a => H a = none ∧ a ≠ F) (LO (IQ K)) rows), some (Qs NoM K found), none, none, none, none, none, none]
  have t1 : Tsl (Sl m 1) ((((start ["matrix", "rows", "found", "at", "spots", "row", "factor", "a", "b"] [v1]).set 1 (some (.ref F))).set 2 (some w'))) H1 :=
    Tsl.to (((ts.up e1).set (i := 1) (R := Ow F (fun a => H a = none ∧ a ≠ F) (LO (IQ K)) m) (v := .ref F) hO).set (i := 2) (R := Qs NoM K 1) r2) ⟨.inl rfl, .inr rfl, .inr rfl, .inl rfl, .inl rfl, .inl rfl, .inl rfl, .inl rfl, .inl rfl, trivial⟩
  refine st_forX1 k g1 t1 (ta_cons (ty_lenL (R := Ow F (fun a => H a = none ∧ a ≠ F) (LO (IQ K)) m) (ty_var rfl) fun _ _ h => ow_tr h) ta_nil) (by omega) (by omega) (fun i σ' H' => ∃ rows found, Good H NoM H' ∧ Tsl (Sl rows found) σ' H' ∧ rows.length = k ∧ (∀ r, r < k → (rows.getD r []).length = k) ∧ DetOk k (k - i) rows ∧ (i < k → found = 1 ∨ found = -1) ∧ detT isz k (k - i) rows found = det isz k m)
    (fun H' e => ⟨m, 1, g1.up e, t1.up e, hml, hmr, hdet, fun _ => .inl rfl, rfl⟩) (fun i σ2 H2 hi p D' hD cont => ?_) fun σ2 H2 p => ?_
  · obtain ⟨rows, found, g2, t2, hl, hrl, hok, hfd, hres⟩ := p
    obtain ⟨t, et⟩ : ∃ t, k - i = t + 1 := ⟨k - i - 1, by omega⟩
    have ei : k - (t + 1) = i := by omega
    rw [et] at hok hres
    obtain ⟨hsm, hpiv⟩ := hok
    rw [ei] at hpiv
    have hpl : ∀ r, r < k → r < rows.length := fun r h => by omega
    let sp := ((List.range (k - i)).map fun u => i + u).filter fun r => !decide (at2 rows r i = 0)
    have hspot : spot isz rows i k = sp.head? := by
      unfold spot
      rw [List.head?_filter]
    have hsp : ∀ r ∈ sp, i ≤ r ∧ r < k := fun r hr => by
      obtain ⟨hr, _⟩ := List.mem_filter.mp hr
      obtain ⟨u, hu, rfl⟩ := List.mem_map.mp hr
      have := List.mem_range.mp hu
      omega
    have hspl : sp.length ≤ 4 := by
      have h1 := List.length_filter_le (fun r => !decide (at2 rows r i = 0)) ((List.range (k - i)).map fun u => i + u)
      rw [List.length_map, List.length_range] at h1
      show (List.filter _ _).length ≤ 4
      omega
    have t2' := t2.set (i := 3) (R := Iv NoM (.int (i : Int))) (v := .int (i : Int)) rfl
    refine st_set (Fr NoM H2 (LO NI sp)) (.start H2) t2' ?_ fun σ3 H3 e3 g3 t3 => ?_
    · have hz := ty_lcW (Pb := NI) (M := NoM) (H0 := H2) (te := tVar 5) (tt := tAnd (tTest (tOp (rNeD K) (tOp (rIx K) (tOp (rIx K) (tVar 1) (tVar 5)) (tVar 3)) (tC (.ref (He.ga K "ZERO"))))) tYes) (k - i) (fun m => ((List.range m).map fun u => i + u).filter fun r => !decide (at2 rows r i = 0)) _
        (ti_range2 (vs := [5]) (j := 5) (ps := (Sl rows found).set 3 (some (Iv NoM (.int (i : Int))))) (t := tCons (tVar 3) (tCons (tCB (rLenA K) (tCons (tVar 1) tNil)) tNil)) (lo := (i : Int)) (hi := (rows.length : Int)) (m := k - i) (ta_cons (ty_var rfl) (ta_cons (ty_lenL (R := Ow F (fun a => H a = none ∧ a ≠ F) (LO (IQ K)) rows) (ty_var rfl) fun _ _ h => ow_tr h) ta_nil)) (by omega) (by omega) (by decide)) (by omega) rfl fun B u hu gB => ?_
      · exact hz
      · refine ⟨(!decide (at2 rows (i + u) i = 0)) && true, tt_and (tt_test (ty_neQ (ty_ix2 (R := Ow F (fun a => H a = none ∧ a ≠ F) (LO (IQ K)) rows) (i := (i : Int) + u) (i + u) i (ty_var rfl) (fun _ _ h => ow_an h) (ty_var rfl) (ty_var rfl) (by omega) rfl (by omega) (by rw [hrl _ (by omega)]; omega)) (ty_zero T))) fun _ => tt_yes, fun hb => ⟨i + u, ?_, ?_⟩, fun hb => ?_⟩
        · rw [Bool.and_true] at hb
          show List.filter _ (List.map _ (List.range (u + 1))) = _
          rw [List.range_succ, List.map_append, List.filter_append, List.map_singleton, List.filter_cons, if_pos hb]
          rfl
        · exact ty_conv (ty_int (i := (i : Int) + u) (j := ((i + u : Nat) : Int)) (ty_var rfl) (by omega)) fun _ _ h => h
        · rw [Bool.and_true] at hb
          show List.filter _ (List.map _ (List.range (u + 1))) = _
          rw [List.range_succ, List.map_append, List.filter_append, List.map_singleton, List.filter_cons, if_neg (by rw [hb]; decide)]
          exact List.append_nil _
    have eT : ∀ r q, detT isz k (t + 1) r q = if t = 0 then q * at2 r (k - 1) (k - 1) else match spot isz r (k - (t + 1)) k with
      | none => 0
      | some s => detT isz k t (swapR r (k - (t + 1)) s) ((if s = k - (t + 1) then q else -q) * at2 r s (k - (t + 1))) := fun r q => rfl
    rw [eT, ei, hspot] at hres
    rw [hspot] at hpiv
    have g3' : Good H NoM H3 := g2.trans g3
    refine st_when g3 t3 (tt_test (ty_eqN0 (R := Fr NoM H2 (LO NI sp)) (R1 := Fr NoM H2 (LO NI [])) (ty_var rfl) (fun _ _ h => fr_tr h) hspl ty_nil (fun _ _ h => fr_tr h))) (fun hb H4 e4 g4 t4 => ?_) fun hb H4 e4 g4 t4 => ?_
    · have hb : sp = [] := of_decide_eq_true hb
      refine st_ret (R := Qs NoM K 0) g4 t4 (ty_zero T) fun v H' e x => ?_
      show D'.rt v H'
      rw [hD]
      refine ret v H' ((g3'.up e4).up e).ex0 ?_
      have e0 : det isz k m = 0 := by
        rw [← hres]
        by_cases h : t = 0
        · rw [if_pos h]
          have hik : k - 1 = i := by omega
          have hz : at2 rows i i = 0 := by
            by_cases hq : at2 rows i i = 0
            · exact hq
            · exfalso
              have hm : i ∈ sp := List.mem_filter.mpr ⟨List.mem_map.mpr ⟨0, List.mem_range.mpr (by omega), by omega⟩, by rw [decide_eq_false hq]; rfl⟩
              rw [hb] at hm
              cases hm
          rw [hik, hz, Rat.mul_zero]
        · rw [if_neg h, hb]
          rfl
      dsimp only
      rw [e0]
      exact x
    · have hb : sp ≠ [] := of_decide_eq_false hb
      obtain ⟨s0, sr, hs⟩ : ∃ s0 sr, sp = s0 :: sr := by
        cases h : sp with
        | nil => exact absurd h hb
        | cons a b => exact ⟨a, b, rfl⟩
      have hs0 := hsp s0 (by rw [hs]; exact List.mem_cons_self)
      rw [hs] at hpiv hres
      have hms0 : s0 ∈ sp := by rw [hs]; exact List.mem_cons_self
      -- behind the swap
      let rows' := swapR rows i s0
      let fd' := if s0 = i then found else -found
      have hl' : rows'.length = k := by rw [swap_len]; exact hl
      have hsw : ∀ r, r < k → rows'.getD r [] = rows.getD (if r = s0 then i else if r = i then s0 else r) [] := fun r hr => swap_at _ _ _ _ (by omega) (by omega)
      have hrl' : ∀ r, r < k → (rows'.getD r []).length = k := fun r hr => by
        rw [hsw r hr]
        refine hrl _ ?_
        split
        · omega
        · split <;> omega
      have hsm' : ∀ r, r < k → ∀ c, c < k → Sm (at2 rows' r c) := fun r hr c hc => by
        show Sm (at0 (rows'.getD r []) c)
        rw [hsw r hr]
        refine hsm _ ?_ c hc
        split
        · omega
        · split <;> omega
      have hpv : at2 rows' i i = at2 rows s0 i := by
        show at0 (rows'.getD i []) i = _
        rw [hsw i hi]
        by_cases h : i = s0
        · rw [if_pos h, h]; rfl
        · rw [if_neg h, if_pos rfl]; rfl
      have hfd' : Sm fd' := by
        show Sm (if s0 = i then found else -found)
        rcases hfd hi with h | h <;> split <;> rw [h]
        · exact sm_one
        · exact sm_mone
        · exact sm_mone
        · exact sm_one
      have hF2 : H2 F ≠ none := by
        obtain ⟨v, ev, e, vs, hv, p⟩ := t2.get (i := 1) (R := Ow F (fun a => H a = none ∧ a ≠ F) (LO (IQ K)) rows) rfl
        rw [hv]; exact fun z => by cases z
      have ix0 : ∀ (B : Hp) (ps : List (Option (SV NoM))), ps[4]? = some (some (Fr NoM H2 (LO NI sp))) → Ty B NoM ps (tOp (rIx K) (tVar 4) (tC (.int 0))) (Iv NoM (.int (s0 : Int))) := fun B ps h4 => ty_ixL (P := NI) (l := sp) 0 s0 (Iv NoM (.int (s0 : Int))) (ty_var h4) (fun _ _ h => fr_an h) ty_c rfl (by rw [hs]; rfl) fun _ _ h => h
      let Sj : List (Option (SV NoM)) := [none, some (Ow F (fun a => H a = none ∧ a ≠ F) (LO (IQ K)) rows'), some (Qs NoM K fd'), some (Iv NoM (.int (i : Int))), none, none, none, none, none]
      refine st_whenJ (fun σ H' => Good H NoM H' ∧ Tsl Sj σ H') g4 t4 (b := !decide (s0 = i)) (tt_is (tt_test (ty_neI (ix0 _ _ rfl) (ty_var rfl) rfl)) ?_) (fun σ5 H5 p5 => ?_) (fun hb5 H5 e5 g5 t5 kk => ?_) fun hb5 H5 e5 g5 t5 => ?_
      · rw [dec_int]
        congr 1
        rw [Bool.beq_eq_decide_eq]
        exact decide_eq_decide.mpr (by omega)
      · obtain ⟨g5, t5⟩ := p5
        have hF5 : H5 F ≠ none := by
          obtain ⟨v, ev, e, vs, hv, p⟩ := t5.get (i := 1) (R := Ow F (fun a => H a = none ∧ a ≠ F) (LO (IQ K)) rows') rfl
          rw [hv]; exact fun z => by cases z
        have ixr : ∀ (B : Hp) (ps : List (Option (SV NoM))) (a : Nat) (te : TE), a < k → ps[1]? = some (some (Ow F (fun a => H a = none ∧ a ≠ F) (LO (IQ K)) rows')) → ps[3]? = some (some (Iv NoM (.int (i : Int)))) → Ty B NoM ps te (Iv NoM (.int (a : Int))) → Ty B NoM ps (tOp (rIx K) (tOp (rIx K) (tVar 1) te) (tVar 3)) (Qs NoM K (at2 rows' a i)) := fun B ps a te ha h1 h3 he =>
          ty_ix2 (R := Ow F (fun a => H a = none ∧ a ≠ F) (LO (IQ K)) rows') a i (ty_var h1) (fun _ _ h => ow_an h) he (ty_var h3) rfl rfl (by omega) (by rw [hrl' _ ha]; exact hi)
        refine st_set (Qs NoM K (fd' * at2 rows' i i)) g5 t5 (ty_times (ty_var rfl) (ixr _ _ i _ hi rfl rfl (ty_var rfl)) hfd' (hsm' i hi i hi)) fun σ6 H6 e6 g6 t6 => ?_
        let Sk : List (Option (SV NoM)) := [none, some (Ow F (fun a => H a = none ∧ a ≠ F) (LO (IQ K)) rows'), some (Qs NoM K (fd' * at2 rows' i i)), some (Iv NoM (.int (i : Int))), none, none, none, none, none]
        have hlast : t = 0 → detT isz k t rows' (fd' * at2 rows' i i) = det isz k m := fun h0 => by
          rw [if_pos h0] at hres
          have hik : k - 1 = i := by omega
          have h0' : s0 = i := by omega
          have e1 : rows' = rows := by show swapR rows i s0 = rows; rw [h0', swap_self _ _ (by omega)]
          have e2 : fd' = found := if_pos h0'
          rw [h0, e1, e2, ← hres, hik]
          rfl
        have hnext : t ≠ 0 → at2 rows s0 i = 1 ∧ (∀ r, r < k → i ≤ r → r ≠ s0 → at2 rows r i = 0) ∧ DetOk k t rows' := fun h0 => by
          have q := hpiv h0 s0 rfl
          exact q
        have g6' : Good H NoM H6 := g5.up e6
        refine st_for2 (M := NoM) (H0 := H) (ps := Sk) t g6' (Tsl.to t6 ⟨.inl rfl, .inr rfl, .inr rfl, .inr rfl, .inl rfl, .inl rfl, .inl rfl, .inl rfl, .inl rfl, trivial⟩) (lo := (i : Int) + 1) (hi := (rows'.length : Int)) (ta_cons (ty_i0 (ty_var rfl) ty_c) (ta_cons (ty_lenL (R := Ow F (fun a => H a = none ∧ a ≠ F) (LO (IQ K)) rows') (ty_var rfl) fun _ _ h => ow_tr h) ta_nil)) (by omega) (by omega) (fun _ => Sk) (fun _ _ t => t) (fun u σ7 H7 hu g7 t7 D2 hD2 cont2 => ?_) fun σ7 H7 g7 t7 => ?_
        · have ht0 : t ≠ 0 := by omega
          obtain ⟨hp1, hp0, _⟩ := hnext ht0
          have hrow : i + 1 + u < k := by omega
          have hz : at2 rows' (i + 1 + u) i = 0 := by
            show at0 (rows'.getD (i + 1 + u) []) i = 0
            rw [hsw _ hrow]
            by_cases h : i + 1 + u = s0
            · rw [if_pos h]
              exact hp0 i hi (by omega) (by omega)
            · rw [if_neg h, if_neg (by omega)]
              exact hp0 _ hrow (by omega) h
          have hF7 : H7 F ≠ none := by
            obtain ⟨v, ev, e, vs, hv, p⟩ := t7.get (i := 1) (R := Ow F (fun a => H a = none ∧ a ≠ F) (LO (IQ K)) rows') rfl
            rw [hv]; exact fun z => by cases z
          refine st_set (Qs NoM K 0) g7 t7 ?_ fun σ8 H8 e8 g8 t8 => ?_
          · refine ty_conv (ty_call2 (ι := Rat × Nat) (R1 := Qs NoM K (at2 rows' (i + 1 + u) i)) (R2' := Qs NoM K (at2 rows' i i)) ((0 : Rat), 1) ?_ ?_ (fun _ _ h => by rw [hz] at h; exact h) (fun _ _ h => by rw [hpv, hp1] at h; exact h) ⟨sm_zero, by decide, Nat.one_lt_two_pow (by decide)⟩) fun _ _ h => ?_
            · exact ixr _ _ (i + 1 + u) _ hrow rfl rfl (ty_int (ty_var rfl) (by omega))
            · exact ixr _ _ i _ hi rfl rfl (ty_var rfl)
            · have e0 : (0 : Rat) / ((1 : Nat) : Rat) = 0 := by rw [Rat.div_def, Rat.zero_mul]
              dsimp only at h
              rw [e0] at h
              exact h
          have hsame : rows'.set (i + 1 + u) (rows'.getD (i + 1 + u) []) = rows' := by
            rw [List.getD_eq_getElem?_getD, List.getElem?_eq_getElem (by omega)]
            exact List.set_getElem_self _
          refine st_storeO (H0 := H) (B := H8) (F := F) (i := 1) (S := fun a => H a = none ∧ a ≠ F) (l := rows') (R := Fr NoM H8 (LO (IQ K) (rows'.getD (i + 1 + u) []))) (x := (i : Int) + 1 + u) (i + 1 + u) (rows'.getD (i + 1 + u) []) (.start H8) g8 hF0 t8 rfl ?_ (ty_var rfl) (by omega) (by omega) (fun _ _ h => Mn.mono (fun a z => ⟨fresh_back g8.ex0 z.2, fun w => ?_⟩) h) (fun _ z => z.2) ?_ fun H9 g9 t9 => ?_
          · refine ty_lc (rows'.getD (i + 1 + u) []) (ti_zip (0 : Rat) (0 : Rat) (Pc := IQ K) (Pd := IQ K) (xs := rows'.getD (i + 1 + u) []) (ys := rows'.getD i []) (R1 := An NoM (LO (IQ K) (rows'.getD (i + 1 + u) []))) (R2' := An NoM (LO (IQ K) (rows'.getD i []))) (ta_cons ?_ (ta_cons ?_ ta_nil)) (fun _ _ h => h) (fun _ _ h => h) (by decide) (by decide)) (by rw [hrl' _ hrow, hrl' _ hi]; omega) (by rw [hrl' _ hrow, hrl' _ hi]; omega) fun B2 j c2 hc2 gB2 => ?_
            · exact ty_ixQQ (R := Ow F (fun a => H a = none ∧ a ≠ F) (LO (IQ K)) rows') (i := (i : Int) + 1 + u) (i + 1 + u) (ty_var rfl) (ty_var rfl) (fun _ _ h => ow_an h) (by omega) (by omega)
            · exact ty_ixQQ (R := Ow F (fun a => H a = none ∧ a ≠ F) (LO (IQ K)) rows') i (ty_var rfl) (ty_var rfl) (fun _ _ h => ow_an h) rfl (by omega)
            have hj : j < k := by
              have := (List.getElem?_eq_some_iff.mp hc2).1
              rw [hrl' _ hrow] at this
              exact this
            have ec : c2 = at0 (rows'.getD (i + 1 + u) []) j := by
              have := getD_at (0 : Rat) (l := rows'.getD (i + 1 + u) []) (i := j) (by rw [hrl' _ hrow]; exact hj)
              rw [this] at hc2
              exact (Option.some.inj hc2).symm
            have e0 : at0 (rows'.getD (i + 1 + u) []) j + -(0 * at0 (rows'.getD i []) j) = c2 := by
              rw [Rat.zero_mul, ec]
              show _ + -(0 : Rat) = _
              rw [show -(0 : Rat) = 0 from rfl, Rat.add_zero]
            rw [← e0]
            refine ty_fr (ty_minus (q := at0 (rows'.getD (i + 1 + u) []) j) (r := 0 * at0 (rows'.getD i []) j) (ty_conv (ty_var (i := 7) rfl) fun _ _ h => h) (ty_times (ty_var (i := 6) rfl) (ty_conv (ty_var (i := 8) rfl) fun _ _ h => h) sm_zero (hsm' _ hi _ hj)) (hsm' _ hrow _ hj) (by rw [Rat.zero_mul]; exact sm_zero))
          · have hF8 : H8 F ≠ none := fun z => by
              obtain ⟨o, q⟩ := some_of hF7
              rw [e8 F o q] at z
              cases z
            exact hF8 (w ▸ z.2)
          · exact ⟨mo_qs, mo_iv, mo_iv, mo_qs, trivial⟩
          · rw [hsame] at t9
            exact cont2 _ H9 g9 (Tsl.to t9 ⟨.inl rfl, .inr rfl, .inr rfl, .inr rfl, .inl rfl, .inl rfl, .inl rfl, .inl rfl, .inl rfl, trivial⟩)
        · refine cont _ H7 ⟨rows', fd' * at2 rows' i i, g7, Tsl.to t7 ⟨.inl rfl, .inr rfl, .inr rfl, .inl rfl, .inl rfl, .inl rfl, .inl rfl, .inl rfl, .inl rfl, trivial⟩, hl', hrl', ?_⟩
          have ekt : k - (i + 1) = t := by omega
          rw [ekt]
          by_cases h0 : t = 0
          · refine ⟨by rw [h0]; trivial, fun h => by omega, hlast h0⟩
          · obtain ⟨hp1, _, hok'⟩ := hnext h0
            refine ⟨hok', fun _ => ?_, ?_⟩
            · rw [hpv, hp1, Rat.mul_one]
              show (if s0 = i then found else -found) = 1 ∨ (if s0 = i then found else -found) = -1
              rcases hfd hi with h | h <;> split <;> rw [h]
              · exact .inl rfl
              · exact .inr rfl
              · exact .inr rfl
              · exact .inl rfl
            · rw [if_neg h0] at hres
              rw [hpv]
              exact hres
      · have h0' : s0 ≠ i := by simpa using hb5
        refine st_swapO (H0 := H) (F := F) (i := 1) (S := fun a => H a = none ∧ a ≠ F) (l := rows) (x := (i : Int)) (y := (s0 : Int)) i s0 [] ((g3'.up e4).up e5) hF0 t5 rfl (fun B => ty_var rfl) (fun B => ix0 _ _ rfl) rfl rfl (by omega) (by omega) (fun _ z => z.2) ⟨mo_qs, mo_iv, mo_at fun a z w => hF2 (by rw [← w]; exact z.2), trivial⟩ fun H6 g6 t6 => ?_
        refine st_set1 (Qs NoM K (-found)) g6 t6 (ty_neg (ty_var rfl)) fun σ7 H7 e7 g7 t7 => ?_
        refine kk _ H7 ⟨g7, ?_⟩
        show Tsl [none, some (Ow F (fun a => H a = none ∧ a ≠ F) (LO (IQ K)) rows'), some (Qs NoM K (if s0 = i then found else -found)), some (Iv NoM (.int (i : Int))), none, none, none, none, none] σ7 H7
        rw [if_neg h0']
        exact Tsl.to t7 ⟨.inl rfl, .inr rfl, .inr rfl, .inr rfl, .inl rfl, .inl rfl, .inl rfl, .inl rfl, .inl rfl, trivial⟩
      · refine ⟨(g3'.up e4).up e5, ?_⟩
        have h0' : s0 = i := by simpa using hb5
        have e1 : rows' = rows := by show swapR rows i s0 = rows; rw [h0', swap_self _ _ (by omega)]
        have e2 : fd' = found := if_pos h0'
        show Tsl [none, some (Ow F (fun a => H a = none ∧ a ≠ F) (LO (IQ K)) rows'), some (Qs NoM K fd'), some (Iv NoM (.int (i : Int))), none, none, none, none, none] σ3 H5
        rw [e1, e2]
        exact Tsl.to t5 ⟨.inl rfl, .inr rfl, .inr rfl, .inr rfl, .inl rfl, .inl rfl, .inl rfl, .inl rfl, .inl rfl, trivial⟩
  · obtain ⟨rows, found, g2, t2, _, _, _, _, hres⟩ := p
    rw [Nat.sub_self] at hres
    have hres : found = det isz k m := hres
    refine st_ret (R := Qs NoM K (det isz k m)) g2 t2 ?_ fun v H' e x => ?_
    · rw [← hres]
      exact ty_var rfl
    · exact ret v H' (g2.up e).ex0 x
end
end My
end
section
set_option Elab.async false
set_option linter.all false
set_option maxRecDepth 100000
set_option maxHeartbeats 2000000
namespace My
open PySem PySem.Spec PyProof.Rows L2 Evl
open Mi (at0 at2 swapR spot detT det minor compound subsets)
theorem sub_fit0 : ∀ size ∈ List.range 5, ∀ many ∈ List.range 5, many ≤ size → (subsets size many).length ≤ 6 ∧ ∀ ch ∈ subsets size many, ch.length = many ∧ ∀ p ∈ ch, p < size := by decide +kernel
theorem sub_fit (size : Nat) (hs : size ≤ 4) (many : Nat) (hm : many ≤ size) : (subsets size many).length ≤ 6 ∧ ∀ ch ∈ subsets size many, ch.length = many ∧ ∀ p ∈ ch, p < size := sub_fit0 size (List.mem_range.mpr (by omega)) many (List.mem_range.mpr (by omega)) hm
def CpOk (m : List (List Rat)) (size many : Nat) : Prop := m.length = size ∧ (∀ r, r < size → (m.getD r []).length = size) ∧ many ≤ size ∧ size ≤ 4 ∧ ∀ l ∈ subsets size many, ∀ r ∈ subsets size many, DetOk many many (minor m l r)
abbrev spCp (K : PySem.W.Frag) : Sp := Sp2 (ι := List (List Rat) × Nat × Nat) (fun i => LO (LO (IQ K)) i.1) (fun i => IV (.int (i.2.2 : Int))) (fun i => CpOk i.1 i.2.1 i.2.2) (fun i => LO (LO (IQ K)) (compound isz i.1 i.2.1 i.2.2))
section
variable {H0 : Hp} {K : PySem.W.Frag} {ps : List (Option (SV NoM))} {ta tb : TE} {E : XK} {R : SV NoM}
theorem ty_sub {n m : Nat} (h1 : Ty H0 NoM ps ta (Iv NoM (.int (n : Int)))) (h2 : Ty H0 NoM ps tb (Iv NoM (.int (m : Int)))) (hm : m ≤ n) (hn : n ≤ 4) : Ty H0 NoM ps (tCall spSub [] E (tCons ta (tCons tb tNil))) (Fr NoM H0 (LO TX (subsets n m))) :=
  ty_call2 (ι := Nat × Nat) (n, m) h1 h2 (fun _ _ h => h) (fun _ _ h => h) ⟨hm, hn⟩
end
section
variable {P : Program} {w : World} {K : PySem.W.Frag} {mg : Str → Option Value} {base : Heap}
theorem has_compound (T : Tx K mg) : Has P w K mg base 6 "compound" ["matrix", "many"] (spCp K) := by
  have h_subsets := has_subsets (P := P) (w := w) (base := base) T
  have h_determinant := has_determinant (P := P) (w := w) (base := base) T
  refine has2 T.d_compound sc_compound (fun _ _ _ _ _ _ us hl => match us, hl with | [_, _], _ => rfl) fun f cdv A outer s H E hr => ⟨_,
    (pss_cons (ps_set (i := 2) sc_compound.nd rfl (Or.inr rfl) (pe_has h_subsets (hr.mono (by decide)) (pa_cons (pe_callB (len_seqK (K := K)) (by rfl) T.b_len (by decide +kernel) (pa_cons (pv 0) pa_nil)) (pa_cons (pv 1) pa_nil))))
      (pss_one (ps_ret (pe_lc (own := [("left", 3)]) rfl sc_compound.nd (pi_listK (K := K) (pv 2)) (blkOk_by (by kernel_rfl)) (fun _ _ _ _ _ => (pg_name (i := 3) sc_compound.nd rfl (Or.inr rfl))) (fun _ _ _ _ _ => pts_nil) (fun _ _ _ _ _ => (pe_lc (own := [("right", 4)]) rfl sc_compound.nd (pi_listK (K := K) (pv 2)) (blkOk_by (by kernel_rfl)) (fun _ _ _ _ _ => (pg_name (i := 4) sc_compound.nd rfl (Or.inr rfl))) (fun _ _ _ _ _ => pts_nil) (fun _ _ _ _ _ => (pe_has h_determinant (hr.mono (by decide)) (pa_cons (pe_lc (own := [("row", 5)]) rfl sc_compound.nd (pi_tupK (K := K) (pv 3)) (blkOk_by (by kernel_rfl)) (fun _ _ _ _ _ => (pg_name (i := 5) sc_compound.nd rfl (Or.inr rfl))) (fun _ _ _ _ _ => pts_nil) (fun _ _ _ _ _ => (pe_lc (own := [("column", 6)]) rfl sc_compound.nd (pi_tupK (K := K) (pv 4)) (blkOk_by (by kernel_rfl)) (fun _ _ _ _ _ => (pg_name (i := 6) sc_compound.nd rfl (Or.inl rfl))) (fun _ _ _ _ _ => pts_nil) (fun _ _ _ _ _ => (pe_ix (ix_seqK (K := K)) (pe_ix (ix_seqK (K := K)) (pv 0) (pv 5) (fun _ _ => rfl)) (pv 6) (fun _ _ => rfl)))))) pa_nil))))))))), ?_⟩
  rintro ⟨m, size, many⟩ v1 v2 Q h1 h2 ⟨hml, hmr, hms, hs4, hok⟩ ret
  dsimp only at hml hmr hms hs4 hok
  obtain ⟨sl, sch⟩ := sub_fit size hs4 many hms
  have g : Good H NoM H := .start H
  have ts : Tsl [some (An NoM (LO (LO (IQ K)) m)), some (Iv NoM (.int (many : Int))), none, none, none, none, none] (start ["matrix", "many", "lots", "left", "right", "row", "column"] [v1, v2]) H := wip_cons (Mn.mono (fun _ _ z => z) h1) (wip_cons h2 (non_cons (non_cons (non_cons (non_cons (non_cons nil_ts))))))
  refine st_set (Fr NoM H (LO TX (subsets size many))) g ts ?_ fun σ2 H2 e2 g2 t2 => ?_
  · exact ty_sub (ty_int (ty_lenL (R := An NoM (LO (LO (IQ K)) m)) (ty_var rfl) fun _ _ h => an_tr h) (by rw [hml])) (ty_var rfl) hms hs4
  refine st_ret (R := Fr NoM H (LO (LO (IQ K)) (compound isz m size many))) g2 t2 ?_ fun v H' e x => ret v H' (g2.up e).ex0 (Mn.mono (fun _ z => z.2) x)
  refine ty_lc (compound isz m size many) (ti_list ([] : List Nat) (Pc := TX) (xs := subsets size many) (R := Fr NoM H (LO TX (subsets size many))) (ty_var rfl) (fun _ _ h => fr_an h) (by decide)) (by unfold compound; rw [List.length_map]) (by omega) fun B i c hc gB => ?_
  obtain ⟨hi, rfl⟩ := map_at ([] : List Nat) hc
  refine ty_lc _ (ti_list ([] : List Nat) (Pc := TX) (xs := subsets size many) (R := Fr NoM H (LO TX (subsets size many))) (ty_var rfl) (fun _ _ h => fr_an h) (by decide)) (by rw [List.length_map]) (by omega) fun B2 j c2 hc2 gB2 => ?_
  obtain ⟨hj, rfl⟩ := map_at ([] : List Nat) hc2
  have ml := List.mem_of_getElem? (getD_at [] hi)
  have mr := List.mem_of_getElem? (getD_at [] hj)
  have hd := hok _ ml _ mr
  obtain ⟨ll, lp⟩ := sch _ ml
  obtain ⟨rl, rp⟩ := sch _ mr
  generalize (subsets size many).getD i [] = left at ll lp hd
  generalize (subsets size many).getD j [] = right at rl rp hd
  have hlen : (minor m left right).length = many := by unfold minor; rw [List.length_map, ll]
  have hrow : ∀ r, r < many → (minor m left right).getD r [] = right.map fun c => at2 m (left.getD r 0) c := fun r hr => by
    unfold minor
    rw [List.getD_eq_getElem?_getD, List.getElem?_map, getD_at 0 (by omega)]
    rfl
  refine ty_fr (ty_conv (ty_call1 (ι := Nat × List (List Rat)) (R1 := Fr NoM B2 (LO (LO (IQ K)) (minor m left right))) (many, minor m left right) ?_ (fun _ _ h => fr_tr h) ⟨by omega, hlen, fun r hr => by rw [hrow r hr, List.length_map, rl], hd⟩) fun _ _ h => h)
  refine ty_lc (minor m left right) (ti_tup (0 : Nat) (K := K) (Pc := NI) (xs := left) (R := An NoM (TX left)) (ty_var rfl) (fun _ _ h => tx_to (S := Tr) h) (by decide)) (by unfold minor; rw [List.length_map]) (by omega) fun B3 a c3 hc3 gB3 => ?_
  obtain ⟨ha, rfl⟩ := map_at (0 : Nat) hc3
  refine ty_lc _ (ti_tup (0 : Nat) (K := K) (Pc := NI) (xs := right) (R := An NoM (TX right)) (ty_var rfl) (fun _ _ h => tx_to (S := Tr) h) (by decide)) (by rw [List.length_map]) (by omega) fun B4 b c4 hc4 gB4 => ?_
  obtain ⟨hb, rfl⟩ := map_at (0 : Nat) hc4
  have hla := lp _ (List.mem_of_getElem? (getD_at 0 ha))
  have hrb := rp _ (List.mem_of_getElem? (getD_at 0 hb))
  exact ty_fr (ty_ix2 (R := An NoM (LO (LO (IQ K)) m)) (i := (left.getD a 0 : Int)) (j := (right.getD b 0 : Int)) _ _ (ty_var rfl) (fun _ _ h => h) (ty_conv (ty_var rfl) fun _ _ h => h) (ty_conv (ty_var rfl) fun _ _ h => h) rfl rfl (by rw [hml]; exact hla) (by rw [hmr _ hla]; exact hrb))
end
end My
end
section
set_option Elab.async false
set_option linter.all false
set_option maxRecDepth 100000
set_option maxHeartbeats 2000000
/-! enumerate(t), t a tuple -/
namespace My
open PySem PySem.Spec PyProof.Rows L2 Evl
section
variable {prog : Program} {w : World} {A : Around} {E : Value → Shared → Prop} {s : Shared}
theorem enum_tup_meets (t : Addr) (its : Array Value) :
    Meets (Builtin.«enumerate.__new__» ⟨[.type "enumerate", .ref t], []⟩) (fun _ R z => z.heap.IsTuple t its ∧
      R (.ok (.ret (.ref (z.heap.push { cls := .type "tuple_iterator", data := .fields #[.ref t, .int 0 0] }).objs.size)))
        { z with heap := (z.heap.push { cls := .type "tuple_iterator", data := .fields #[.ref t, .int 0 0] }).push { cls := .type "enumerate", data := .fields #[.none, .bool false, .ref z.heap.objs.size, rawInt 0, .none, .none] } }) :=
  .of_wp fun P' W' B R z hz => by
    obtain ⟨hp, gl, dr, tk, ox⟩ := z
    obtain ⟨tup, fin⟩ := hz
    have sub := sub_enumerate
    have start : ∀ {B' : Around} {F : Value → Shared → Prop} {Q : Value → Shared → Prop}, Q (.ref hp.objs.size) ⟨hp.push { cls := .type "tuple_iterator", data := .fields #[.ref t, .int 0 0] }, gl, dr, tk, ox⟩ → wpAny (model P' W') B' (pyIter (.ref t)) Q F ⟨hp, gl, dr, tk, ox⟩ :=
      fun q => wpAny_pyIter_tuple tup q
    wp_walk using start
    refine wpAny_stack_any fun st => wpAny_pure ?_
    split
    · rename_i c _ _ _ _ _
      cases (c == Value.type "enumerate") <;> (wp_walk using start; exact ⟨_, rfl, fin⟩)
    · wp_walk using start
      exact ⟨_, rfl, fin⟩
theorem enum_tup_call {t : Addr} {its : Array Value} {Q : Value → Shared → Prop} (ht : s.heap.IsTuple t its)
    (fin : ∀ g, IsEnum g (s.heap.objs.size + 1) s.heap.objs.size 0 .none → g.IsTupleIter s.heap.objs.size t 0 → (∀ b o, s.heap.get? b = some o → g.get? b = some o) → Q (.ref (s.heap.objs.size + 1)) { s with heap := g }) :
    wpAny (model prog w) A (call (.type "enumerate") [.ref t]) Q E s := by
  refine callType_new F.called_enumerate (by decide) (F.typeCall_enumerate_1 _) (F.newCall_enumerate_1 _) (fun o => F.args_object_init_2 o _) F.entry_enumerate_new (enum_tup_meets t its) ⟨ht, ?_⟩
  have size1 : (s.heap.push { cls := .type "tuple_iterator", data := .fields #[.ref t, .int 0 0] }).objs.size = s.heap.objs.size + 1 := Heap.size_push ..
  show _ ∧ _
  rw [size1]
  have en : IsEnum ((s.heap.push { cls := .type "tuple_iterator", data := .fields #[.ref t, .int 0 0] }).push { cls := .type "enumerate", data := .fields #[.none, .bool false, .ref s.heap.objs.size, rawInt 0, .none, .none] }) (s.heap.objs.size + 1) s.heap.objs.size 0 .none := by
    have q := Heap.get?_push_size (s.heap.push { cls := .type "tuple_iterator", data := .fields #[.ref t, .int 0 0] }) (o := { cls := .type "enumerate", data := .fields #[.none, .bool false, .ref s.heap.objs.size, rawInt 0, .none, .none] }) rfl
    rw [size1] at q
    exact q
  exact ⟨⟨_, en, rfl⟩, fin _ en ⟨_, Heap.get?_push_of_some _ (Heap.get?_push_size _ rfl), rfl, rfl⟩ fun b o x => Heap.get?_push_of_some _ (Heap.get?_push_of_some _ x)⟩
end
/-- the tuple at a, each item in a new pair with its place -/
def ItT (K : PySem.W.Frag) (a : Addr) : It :=
  ⟨fun i H => ∃ (xs : List V) (x : V), SqT K H a xs ∧ xs[i]? = some x, fun i H v H' => ∃ q x, v = .ref q ∧ H q = none ∧ H' = upd H q (.tup [.int (i : Nat), x]) ∧ ∀ xs, SqT K H a xs → xs[i]? = some x, fun i H => ∃ xs : List V, SqT K H a xs ∧ xs.length ≤ i⟩
theorem turn_enT {P : Program} {w : World} {K : PySem.W.Frag} {el : List Expr} {kk : Nat} {tp : Pos} (a e it : Addr) :
    Turn P w K (.Tuple el kk tp) (ItT K a) [e, it] e (fun i h => (∃ old, IsEnum h e it ((i : Nat) : Int) old) ∧ h.IsTupleIter it a i ∧ e ≠ it ∧ a ≠ it ∧ a ≠ e) where
  mem := by simp
  obj := fun i h st b hb => by
    obtain ⟨⟨old, en⟩, ⟨o, go, co, fo⟩, _⟩ := st
    rcases (show b = e ∨ b = it by simpa using hb) with z | z
    · rw [z]; exact ⟨_, en, fun v q => nomatch q⟩
    · rw [z]; exact ⟨o, go, fun v q => by rw [fo] at q; cases q⟩
  keep := fun i h h' st k => let ⟨⟨old, en⟩, ti, n⟩ := st; ⟨⟨old, k e (by simp) _ en⟩, ti.at fun o q => k it (by simp) o q, n⟩
  item := by
    intro X hP hw hK hc i pins s σ H E I hf st hg
    subst hP hw hK
    obtain ⟨⟨old, en⟩, ti, n1, n2, n3⟩ := st
    obtain ⟨xs, x, hq, hx⟩ := hg
    obtain ⟨its, rv, p, _⟩ := I.tuple hq
    obtain ⟨u, hu, ru⟩ := rv.get hx
    have le : e < s.heap.objs.size := Heap.lt_size en
    have li : it < s.heap.objs.size := by obtain ⟨_, q, _⟩ := ti; exact Heap.lt_size q
    have lt : i < its.toArray.size := by
      have := (List.getElem?_eq_some_iff.mp hu).1
      simpa using this
    have dr : Draws X.prog X.w X.A.in1 it [it, a] its.toArray.size (fun i v => its.toArray[i]? = some v) (fun i h => h.IsTupleIter it a i ∧ h.IsTuple a its.toArray) := Draws.tuple (A := X.A.in1) (show X.A.in1.handled = none from I.ok.hd hc) it a n2 its.toArray
    refine wpAny_pyNext_enum_itemD dr en ⟨ti, p⟩ lt n1 (by simp [n1, Ne.symm n3]) fun y g tk py eo st' gT gz gk => ?_
    have ey : y = u := by
      have q : its[i]? = some y := by simpa using py
      rw [hu] at q
      exact (Option.some.inj q).symm
    subst ey
    refine ⟨_, rfl, wpAny_letOwnedTupleGo_enum (s := { s with heap := g, toks := tk + 1 }) eo fun g2 en2 sb => ?_⟩
    have gT2 : g2.get? s.heap.objs.size = some { cls := .type "tuple", data := .seq #[.int i tk, y] } := (sb.2 _ (Nat.ne_of_gt le)).trans gT
    have ok2 : ObjOk X.prog X.w (upd H s.heap.objs.size (.tup [.int (i : Nat), x])) g2 s.heap.objs.size (.tup [.int (i : Nat), x]) :=
      ⟨by show 2 ≤ sizeLine; decide, [.int i tk, y], .cons ⟨_, rfl⟩ (.cons ru .nil), ⟨_, gT2, rfl, _, rfl⟩⟩
    have I2 : Inv X pins σ (upd H s.heap.objs.size (.tup [.int (i : Nat), x])) { s with heap := g2, toks := tk + 1 } :=
      I.turnedNew (ch := [e, it]) (fun b ob hb q => (sb.2 b fun z => hb (by simp [z])).trans (gk b ob (fun z => hb (by simp [z])) (fun z => hb (by simp [z])) q)) hf (Nat.le_refl _) ok2
    refine ⟨.ref s.heap.objs.size, _, I2, rfl, ⟨_, x, rfl, I.hok.fresh (Nat.le_refl _), rfl, fun ys hy => by rw [I.tuple_inj hy hq]; exact hx⟩, ⟨⟨y, ?_⟩, st'.1.at fun o q => (sb.2 it (Ne.symm n1)).trans q, n1, n2, n3⟩, fun b hb => ?_⟩
    · rw [show ((i + 1 : Nat) : Int) = (i : Int) + 1 by omega]
      exact en2
    · have lb : b < s.heap.objs.size := by
        rcases (show b = e ∨ b = it by simpa using hb) with z | z <;> rw [z] <;> assumption
      rw [upd_ne (Nat.ne_of_lt lb)]
      exact (hf b hb).1
  done := by
    intro X hP hw hK hc i pins s σ H E I hf st hg
    subst hP hw hK
    obtain ⟨⟨old, en⟩, ti, n1, n2, n3⟩ := st
    obtain ⟨xs, hq, hx⟩ := hg
    obtain ⟨its, rv, p, _⟩ := I.tuple hq
    obtain ⟨f0, f1, f2, f3, f4, f5⟩ := hf it (by simp)
    have hl := rv.length
    refine wpAny_bind (wpAny_attempt (wpAny_callSpecial?_slot (name := Str.ofString "__next__") ⟨_, en, rfl⟩ F.slot_enumerate_next (wpAny_call_entry F.slot_enumerate_next ⟨_, en, rfl⟩ F.entry_enumerate_next ?_ (F.args_enumerate_next_1 _))))
    show wpAny _ _ (field (.ref e) 2 >>= _) _ _ _
    refine wpAny_bind (wpAny_field en rfl (x := .ref it) rfl ?_)
    refine wpAny_bind (wpAny_nextOf_tuple_end (I.ok.hd hc) ti p (by simp; omega) fun g x ge hx2 => ?_)
    obtain ⟨o, ho, co⟩ := hx2
    refine wpAny_bind (wpAny_isInstance (T := "StopIteration") (b := true) ⟨o, ho, co⟩ isSubtype_stop ?_)
    exact wpAny_pure ⟨rfl, I.turned (t' := s.toks) (fun b o hb q => ge b o hb q) f0 f1 f3 f4 f5⟩
  self := fun A i s Q E st h => let ⟨⟨_, en⟩, _⟩ := st; wpAny_pyIter_enum en h
def iEnT (K : PySem.W.Frag) (ta : TA) : TI := fun σ H R => ta σ H fun vs H1 => ∃ a xs, vs = [.ref a] ∧ SqT K H1 a xs ∧ R (ItT K a) H1
theorem pi_enT {X : Cx} {K : PySem.W.Frag} {e : Expr} {ta : TA} {p pos tp : Pos} {el : List Expr} {kk : Nat} (hm : X.mg "enumerate" = none) (ha : PA X [e] ta) (hg : Gl X "enumerate" := by rfl) (hK : X.K = K := by rfl) (hs : starEach [e] X.env = [(false, eval e X.env)] := by rfl) :
    PI X (.Tuple el kk tp) (.Call (.Name "enumerate" p) [e] [] pos) (iEnT K ta) := by
  subst hK
  refine ⟨fun pins s σ H R I h => ?_⟩
  refine Call_ (ld_blt I hg hm boot_enumerate (PyProof.Rows.callWith_type1 (thn (ha.run pos pins s σ H _ I h) fun us s1 ⟨vs, H1, I1, r1, q1⟩ => ?_) hs rfl))
  obtain ⟨a, xs, rfl, hq, q⟩ := q1
  cases r1 with
  | cons r rr =>
    cases rr
    cases r
    obtain ⟨its, rv, p', _⟩ := I1.tuple hq
    have la : a < s1.heap.objs.size := by obtain ⟨_, z, _⟩ := id p'; exact Heap.lt_size z
    refine enum_tup_call p' fun g en ti gk => wpAny_pyIter_enum en ?_
    refine ⟨s1.heap.objs.size + 1, [s1.heap.objs.size + 1, s1.heap.objs.size], _, _, H1, rfl, I1.kept (t' := s1.toks) gk, turn_enT a (s1.heap.objs.size + 1) s1.heap.objs.size, ⟨⟨.none, en⟩, ti, Nat.succ_ne_self _, Nat.ne_of_lt la, Nat.ne_of_lt (Nat.lt_succ_of_lt la)⟩, fun b hb => ?_, q⟩
    have lb : s1.heap.objs.size ≤ b := by
      rcases (show b = s1.heap.objs.size + 1 ∨ b = s1.heap.objs.size by simpa using hb) with z | z <;> rw [z] <;> omega
    exact I1.fpOk lb (I1.hok.fresh lb)
theorem walk_enT {K : PySem.W.Frag} {a : Addr} {xs : List V} : Walk (ItT K a) xs.length (fun H => SqT K H a xs) (YPair (fun i => some (.int (i : Nat))) (fun i => xs[i]?)) := by
  refine ⟨fun i _ hi q => ⟨xs, xs[i], q, by simp [hi]⟩, fun _ q => ⟨xs, q, Nat.le_refl _⟩, fun i H v H' _ q y => ?_⟩
  obtain ⟨t, x, h1, h2, h3, h4⟩ := y
  exact ⟨t, .int (i : Nat), x, h1, h2, h3, rfl, h4 xs q⟩
end My
end
section
set_option Elab.async false
set_option linter.all false
set_option maxRecDepth 100000
set_option maxHeartbeats 2000000
/-! name = {t: v for target in iter}, the keys tuples -/
namespace My
open PySem PySem.Spec PyProof.Rows L2 Evl
def tDcT (wi : TI) (g : TG) (tk tv : TE) (vs : List Nat) : TE := fun σ H Q => wi σ H fun J B => ∀ D, B D = none → ∃ W : Nat → Nat → Hp → Prop, (∃ m, W 0 m (upd B D (.dT []))) ∧ ∀ i m G, W i m G →
  (J.stop i G ∧ Q (.ref D) G) ∨ (J.go i G ∧ ∃ N : Hp → Prop, (∀ G', N G' → ∃ m', m' < m ∧ W (i + 1) m' G') ∧ ∀ x G', J.yld i G x G' → g x (wipe σ vs) G' fun τ G2 => wipe τ vs = wipe σ vs ∧
    tk τ G2 fun y G3 => tv τ G3 fun z G4 => ∃ kvs k b, y = .ref b ∧ G4 b = some (.tup (k.map kV)) ∧ G4 D = some (.dT kvs) ∧ kvs.length < sizeLine ∧ N (upd G4 D (.dT (putK kvs k z))))
theorem dT_put {X : Cx} {pins : List (Addr × Obj)} {σ : L2.St} {H : Hp} {s : Shared} {E : Value → Shared → Prop} {D b : Addr} {kvs : List (List L2.Key × V)} {k : List L2.Key} {z : V} {u r : Value} {Q : Unit → Shared → Prop} (I : Inv X pins σ H s) (hu : X.A.units < cLine) (hD : H D = some (.dT kvs)) (hb : H b = some (.tup (k.map kV))) (hz : kvs.length < sizeLine)
    (ry : RelV (.ref b) u) (rz : RelV z r) (fin : ∀ s', Inv X pins σ (upd H D (.dT (putK kvs k z))) s' → Q () s') : wpAny (model X.prog X.w) X.A (dictSet D u r) Q E s := by
  cases (show u = Value.ref b from ry)
  obtain ⟨l, sm, xs, rel, dd⟩ := dt_of I.hok hD
  have lx : xs.length ≤ sizeLine := by rw [← Paired.length rel]; exact l
  have lp : (putK kvs k z).length ≤ sizeLine := by have := length_putK kvs k z; omega
  refine wpAny_dictSet_heap (hsz := lx) hu (key_of I.hok hb) dd fun g dg sb => fin _ ?_
  obtain ⟨o, es, ep, ho, p2, p3, p4, _, p5⟩ := dg
  refine d_write I (by rw [hD]; exact True.intro) sb ⟨o, ho⟩ ⟨lp, sm, _, (rel.put k hb rz).keeps fun c ys ec => ?_, o, es, ep, ho, p2, p3, p4, p5⟩
  rw [upd_ne (ne_of ec hD fun q => nomatch q)]
  exact ec
theorem swD_true {kx vx : Expr} {gs : List Comprehension} {scope : Scope} {pos py : Pos} {y : Str} {l : Nat} {env : Env} (hk : env.scope.kind = .function) (hy : env.scope.names.lookup y = some .local) (hl : (py.line == pos.line) = true)
    (ha : (scope.names.any fun (n, k) => n == y && (k == .local || k == .cell)) = false) : swapsWith (.DictComp kx vx gs scope pos) (some (.Name y py)) l env = pure true := by
  have e1 : env.kindOf y = some .local := hy
  have e2 : env.blockKind = .function := by unfold Env.blockKind; rw [hk]; rfl
  unfold swapsWith
  simp only [e2, e1, ha, Expr.pos, hl]
  rfl
section
variable {X : Cx}
theorem ps_setDcT {i : Nat} {y : Str} {py : Pos} {kx vx tg iter : Expr} {scope : Scope} {own : List (Str × Nat)} {pos spos : Pos} {wi : TI} {g : TG} {tk tv : TE} (hc : X.calm = true) (hu : X.A.units < cLine) (hN : X.N.Nodup) (hy : X.N[i]? = some y) (hyl : X.env.scope.names.lookup y = some .local)
    (hsw : swapsWith (.DictComp kx vx [⟨tg, iter, [], 0⟩] scope pos) (some (.Name y py)) spos.line X.env = pure true) (hi : PI X tg iter wi) (ok : BlkOk X.N X.env.scope scope own)
    (hg : ∀ (s : Shared) (H : Hp) (C : Addr) (cl : List (Str × Addr)) (fp : List Addr), PG (X.blk s H scope (compEnvC scope cl C X.env) fp) tg g)
    (hk : ∀ (s : Shared) (H : Hp) (C : Addr) (cl : List (Str × Addr)) (fp : List Addr), PE (X.blk s H scope (compEnvC scope cl C X.env) fp) kx tk)
    (he : ∀ (s : Shared) (H : Hp) (C : Addr) (cl : List (Str × Addr)) (fp : List Addr), PE (X.blk s H scope (compEnvC scope cl C X.env) fp) vx tv) (hs : ∀ x, foldedSetIterable iter X.env x = pure x := by intro _; rfl) :
    PS X (.Assign [.Name y py] (.DictComp kx vx [⟨tg, iter, [], 0⟩] scope pos) spos) (tAsg (tDcT wi g tk tv (own.map (·.2))) (gName i)) := by
  refine ⟨fun pins s σ H D0 I h => ?_⟩
  rw [exec_Assign_Name_used _ _ _ _ hsw]
  refine wpAny_bind (wpAny_standAt (wpAny_bind ?_))
  show wpAny _ X.A (do let _ ← comprehension (.DictComp kx vx [⟨tg, iter, [], 0⟩] scope pos) scope X.env (firstIterPos [⟨tg, iter, [], 0⟩] pos) newDict false (eval iter X.env) (some (assign (.Name y py) X.env))) _ _ s
  have h : tDcT wi g tk tv (own.map (·.2)) σ H (fun x G => gName i x σ G D0.nx) := h
  have cells : ∀ z ∈ scope.names, z.2 = .free → ∃ c, X.env.cells.lookup z.1 = some c := fun z hz e => by
    rcases ok.free z hz e with q | q
    · exact I.ok.has _ (.inl q)
    · exact I.ok.has _ (.inr q)
  refine wpAny_bind (thn (Q := fun _ s' => SP X pins D0 .next s') ?_ fun _ s' hq => wpAny_pure (wpAny_pure hq))
  refine wpAny_comprehension_free (use := some (assign (.Name y py) X.env)) rfl hs (closure_ok cells) ok.kind (fun z hz e => by rw [ok.uniq z hz, e])
    (thn (hi.run pins s σ H _ I h) fun xv s1 hx => thn hx fun itv s2 h2 => ?_)
  obtain ⟨it, fp, tn, J, B, e, IB, T, st0, fB, turn0⟩ := h2
  subst e
  refine wpAny_newObj_type (newEnv_comp ?_)
  generalize hD : s2.heap.objs.size = D
  have freeD : B D = none := IB.hok.fresh (Nat.le_of_eq hD)
  obtain ⟨W, ⟨m0, w0⟩, turn⟩ := turn0 D freeD
  generalize hs3 : ({ s2 with heap := s2.heap.push { cls := .type "dict", data := .dict #[] } } : Shared) = s3
  have heap3 : s3.heap = s2.heap.push { cls := .type "dict", data := .dict #[] } := by rw [← hs3]
  have IC : Inv X pins σ (upd B D (.dT [])) s3 := by
    rw [← hs3]
    refine IB.laid (t' := s2.toks) (fun b o q => Heap.get?_push_of_some _ q) (Nat.le_of_eq hD) ?_
    rw [← hD]
    exact dt_empty s2.heap IB.big
  have small : ∀ b ∈ fp, b < s2.heap.objs.size := fun b hb => by
    obtain ⟨o, q, _⟩ := T.obj _ _ st0 b hb
    exact Heap.lt_size q
  have fC : ∀ b ∈ fp, FpOk X pins (upd B D (.dT [])) b ∧ b < s3.heap.objs.size := fun b hb => by
    have lt := small b hb
    refine ⟨⟨?_, (fB b hb).2⟩, by rw [heap3, Heap.size_push]; exact Nat.lt_succ_of_lt lt⟩
    rw [upd_ne (by rw [← hD]; exact Nat.ne_of_lt lt)]
    exact (fB b hb).1
  have st3 : tn 0 s3.heap := T.keep _ _ _ st0 fun b _ o q => by rw [heap3]; exact Heap.get?_push_of_some _ q
  have IE := block_start IC ok hN fC
  have runG := hg s3 (upd B D (.dT [])) s3.heap.objs.size (cellsFrom (s3.heap.objs.size + 1) scope.names (cloFrom X.env.cells scope.names [])) fp
  have runK := hk s3 (upd B D (.dT [])) s3.heap.objs.size (cellsFrom (s3.heap.objs.size + 1) scope.names (cloFrom X.env.cells scope.names [])) fp
  have runV := he s3 (upd B D (.dT [])) s3.heap.objs.size (cellsFrom (s3.heap.objs.size + 1) scope.names (cloFrom X.env.cells scope.names [])) fp
  show codeAny _ _ (.compStart (.DictComp kx vx [⟨tg, iter, [], 0⟩] scope pos) 0 (.ref it) (.ref D) (compEnvC scope (cellsFrom (s3.heap.objs.size + 1) scope.names (cloFrom X.env.cells scope.names [])) s3.heap.objs.size X.env)) (compPost (model X.prog X.w) X.A X.xe (some (assign (.Name y py) X.env)) (fun _ s' => SP X pins D0 .next s') (.ref D) s3.heap.objs.size) { s3 with heap := pushCells (s3.heap.push { cls := .type "dict", data := .dict #[] }) scope.names }
  have goneC : ∀ b ∈ fp, (upd B D (.dT [])) b = none := fun b hb => (fC b hb).1.1
  generalize hce : compEnvC scope (cellsFrom (s3.heap.objs.size + 1) scope.names (cloFrom X.env.cells scope.names [])) s3.heap.objs.size X.env = ce at IE runG runK runV ⊢
  have ceL : ce.locals = s3.heap.objs.size := by subst hce; rfl
  generalize hC : upd B D (.dT []) = C at IC IE runG runK runV w0 goneC fC
  generalize hs4 : ({ s3 with heap := pushCells (s3.heap.push { cls := .type "dict", data := .dict #[] }) scope.names } : Shared) = s4 at IE ⊢
  have st4 : tn 0 s4.heap := T.keep _ _ _ st3 fun b _ o q => by rw [← hs4]; exact pushCells_keeps _ _ _ _ (Heap.get?_push_of_some _ q)
  have still : ∀ {τ : L2.St} {G : Hp} {t : Shared}, Inv (X.blk s3 C scope ce fp) [] τ G t → (∀ b ∈ fp, G b = none) → ∀ b ∈ fp, FpOk (X.blk s3 C scope ce fp) [] G b := fun {τ G t} J' hn b hb =>
    ⟨hn b hb, (J'.ok.exf b hb).1, J'.ok.exfs b hb, .inl hb, fun x c q => (J'.ok.exf b hb).2 x c q, fun p hp => absurd (show p ∈ ([] : List (Addr × Obj)) ++ [] from hp) (by simp)⟩
  refine codeAny_compStart_dict (?loop) (T.self X.A 0 _ _ _ st4 ?loop)
  refine compLoop_anyD (fun n t => ∃ i G, Inv (X.blk s3 C scope ce fp) [] (wipe σ (own.map (·.2))) G t ∧ tn i t.heap ∧ (∀ b ∈ fp, G b = none) ∧ W i n G) ?_ m0 ⟨0, C, IE, st4, goneC, w0⟩
  rintro n s5 ⟨i, G5, I5, st5, gone5, w5⟩
  rcases turn i n G5 w5 with ⟨stop, last⟩ | ⟨go, N, hN', step⟩
  · refine thnF (T.done (X.blk s3 C scope ce fp) rfl rfl rfl hc i [] s5 _ G5 (fun _ _ => False) I5 (still I5 gone5) st5 stop) fun r s6 ⟨hr, I6⟩ => ?_
    subst hr
    have I7 : Inv X pins σ G5 s6 := IC.call' (ch := fp) I6.os I6.base I6.hok I6.bare fun b hb => ⟨(fC b hb).1.2.2.2.1, (fC b hb).1.2.1, (fC b hb).1.2.2.2.2.1, (fC b hb).1.2.2.2.2.2⟩
    have noL : G5 s3.heap.objs.size = none := by
      have z : G5 ce.locals = none := I6.free
      rw [ceL] at z
      exact z
    obtain ⟨m, ns, _⟩ := I6.loc
    have ns : s6.heap.Ns ce.locals m := ns
    rw [ceL] at ns
    obtain ⟨f0, f1, f2, f3, f4, f5⟩ := IC.fpOk (Nat.le_refl _) noL
    show wpAny _ _ (assign (.Name y py) X.env (.ref D)) _ _ _
    refine wpAny_assign_Name (store_ok2 (v := V.ref D) I7 hN hy (.inl hyl) rfl (fun t It ⟨a, sb, ha⟩ => ?_) (.inr hyl))
    have apart : s3.heap.objs.size ≠ a := by
      rcases ha with z | z
      · rw [z]; exact f1
      · exact fun q => f4 y a z q.symm
    exact ⟨m, ns.sameBut sb apart, fun g3 sb3 => ⟨_, G5, It.turned (t' := t.toks) (fun b o hb q => (sb3.2 b hb).trans q) f0 f1 f3 f4 f5, last⟩⟩
  · refine thnF (T.item (X.blk s3 C scope ce fp) rfl rfl rfl hc i [] s5 _ G5 (fun _ _ => False) I5 (still I5 gone5) st5 go) fun r s6 ⟨u, hr, h6⟩ => ?_
    subst hr
    refine thnF h6 fun _ s7 ⟨x, G7, I7, r7, y7, st7, gone7⟩ => ?_
    refine thnF (runG.run _ s7 _ G7 x u _ (I7.pinned (still I7 gone7) (T.obj _ _ st7)) r7 (step x G7 y7)) fun _ s8 ⟨τ, G8, I8, hw8, q8⟩ => ?_
    refine wpAny_tests_nil ?_
    simp only [if_true]
    refine thnF (runK.run _ s8 τ G8 _ I8 q8) fun z s9 ⟨yk, G9, I9, r9, q9⟩ => ?_
    refine thnF (runV.run _ s9 τ G9 _ I9 q9) fun z2 s10 ⟨yv, G10, I10, r10, kvs, k, b, ek, hb, hD10, hz10, nx⟩ => ?_
    subst ek
    refine dT_put (X := X.blk s3 C scope ce fp) I10 hu hD10 hb hz10 r9 r10 fun s11 I11 => ?_
    obtain ⟨m', hm, w'⟩ := hN' _ nx
    have pin : ∀ b ∈ fp, ∀ o, s7.heap.get? b = some o → s11.heap.get? b = some o ∧ (upd G10 D (.dT (putK kvs k yv))) b = none := fun b hb o q =>
      let z := I11.pin (b, o) (List.mem_append_right _ (List.mem_append_right _ (mem_pinsAt hb q)))
      ⟨z.1, z.2.1⟩
    refine ⟨m', hm, i + 1, _, (I11.unpinned (pins := [])).weak (by rw [← hw8, wipe_length]) (fun j v q => ?_), T.keep _ _ _ st7 fun b hb o q => (pin b hb o q).1, fun b hb => ?_, w'⟩
    · rw [← hw8] at q
      exact (wipe_some q).1
    · obtain ⟨o, q, _⟩ := T.obj _ _ st7 b hb
      exact (pin b hb o q).2
end
end My
end
section
set_option Elab.async false
set_option linter.all false
set_option maxRecDepth 100000
set_option maxHeartbeats 2000000
namespace My
open PySem PySem.Spec PyProof.Rows L2 Evl
open Mi (at0 at2 subsets put putSign)
theorem hu0 {n : Nat} (h : n + 64 < cLine) : n < cLine := by omega
theorem hu1 {n : Nat} (h : n + 64 < cLine) : n + 1 < cLine := by omega
/-- a tuple's key -/
def kc (ch : List Nat) : List L2.Key := ch.map fun n : Nat => Sum.inl (n : Int)
theorem kc_map (ch : List Nat) : (kc ch).map kV = ch.map fun n : Nat => V.int (n : Int) := by
  unfold kc
  rw [List.map_map]
  rfl
theorem kc_inj : ∀ {a b : List Nat}, kc a = kc b → a = b
  | [], [], _ => rfl
  | [], _ :: _, h => by simp [kc] at h
  | _ :: _, [], h => by simp [kc] at h
  | x :: a, y :: b, h => by
    have h : (Sum.inl (x : Int) : L2.Key) :: kc a = Sum.inl (y : Int) :: kc b := h
    injection h with h1 h2
    rw [kc_inj h2]
    have : (x : Int) = y := Sum.inl.inj h1
    rw [show x = y by omega]
/-- the number of each lot -/
def DN (lots : List (List Nat)) : SV NoM := ⟨fun H v => ∃ a kvs, v = .ref a ∧ H a = some (.dT kvs) ∧ ∀ j, j < lots.length → valV kvs (kc (lots.getD j [])) = some (.int (j : Int)), fun k ⟨a, kvs, e, h, q⟩ => ⟨a, kvs, e, k a _ h fun _ m => m, q⟩⟩
/-- the list of lots at a, as it stands -/
def LS (a : Addr) (us : List V) (lots : List (List Nat)) : SV NoM := ⟨fun H v => v = .ref a ∧ H a = some (.lst us) ∧ Paired (fun b x => TX b Tr H x) lots us, fun k ⟨e, h, p⟩ => ⟨e, k a _ h fun _ m => m, Paired.mapR p fun b x q => Mn.up (P := TX b) (S := Tr) (S' := Tr) (fun _ z => z) (fun a o e n => k a o e fun _ m => m) q⟩⟩
/-- a tuple of places at b -/
def XS (b : Addr) (ch : List Nat) : SV NoM := ⟨fun H v => v = .ref b ∧ H b = some (.tup (ch.map fun n : Nat => V.int (n : Int))), fun k ⟨e, h⟩ => ⟨e, k b _ h fun _ m => m⟩⟩
theorem mo_tup {F : Addr} {ch : List Nat} {H : Hp} {v : V} {xs ys : List V} (hF : H F = some (.lst xs)) (h : TX ch Tr H v) : TX ch Tr (upd H F (.lst ys)) v := by
  obtain ⟨a, e, h⟩ := h
  refine ⟨a, e, ?_⟩
  rw [upd_ne fun z => by rw [z, hF] at h; cases h]
  exact h
theorem mo_ls {F a : Addr} {us : List V} {lots : List (List Nat)} (ne : a ≠ F) : Mo F (LS a us lots) := fun hF ⟨e, h, p⟩ => ⟨e, by rw [upd_ne ne]; exact h, Paired.mapR p fun b x q => mo_tup hF q⟩
theorem mo_xs {F b : Addr} {ch : List Nat} : Mo F (XS b ch) := fun {H xs ys v} hF ⟨e, h⟩ => ⟨e, by rw [upd_ne fun z => by rw [z, hF] at h; cases h]; exact h⟩
theorem mo_dn {F : Addr} {lots : List (List Nat)} : Mo F (DN lots) := fun {H xs ys v} hF ⟨a, kvs, e, h, q⟩ => ⟨a, kvs, e, by rw [upd_ne fun z => by rw [z, hF] at h; cases h]; exact h, q⟩
section
variable {H0 : Hp} {K : PySem.W.Frag} {ps : List (Option (SV NoM))} {ta tb tc te tl : TE} {E : XK} {R R1 R2' : SV NoM} {vs : List Nat} {H B : Hp} {σ : L2.St} {D : Ends} {tz tu : TS}
/-- numbers[t] -/
theorem ty_dget {lots : List (List Nat)} {ch : List Nat} (hd : Ty H0 NoM ps ta (DN lots)) (hk : Ty H0 NoM ps tb R) (hR : ∀ H v, R.R H v → TX ch Tr H v) (hm : ch ∈ lots) : Ty H0 NoM ps (tDGet ta tb) (Iv NoM (.int (lots.idxOf ch : Int))) := fun σ H g t Q q =>
  hd σ H g t _ fun v H2 e2 r => hk σ H2 (g.up e2) (t.up e2) _ fun y H3 e3 r3 => by
    obtain ⟨a, kvs, rfl, h, hv⟩ := (DN lots).st (.ofEx e3) r
    obtain ⟨b, rfl, hb⟩ := hR _ _ r3
    refine ⟨a, _, rfl, ?_, q _ H3 (e2.trans e3) rfl⟩
    have h1 := List.idxOf_lt_length_of_mem hm
    have h2 := hv _ h1
    rw [List.getD_eq_getElem?_getD, List.getElem?_eq_getElem h1] at h2
    have h3 : lots[List.idxOf ch lots] = ch := List.getElem_idxOf h1
    rw [show (some lots[List.idxOf ch lots]).getD [] = ch from h3] at h2
    rw [← h2]
    exact .t h (by rw [kc_map]; exact hb)
/-- {t: i for i, t in enumerate(lots)} -/
theorem ty_dcE {lots : List (List Nat)} {j1 j2 : Nat} (hl : Ty H0 NoM ps tl R) (hR : ∀ H v, R.R H v → LO TX lots Tr H v) (nd : lots.Nodup) (hn : lots.length ≤ 1000) (m1 : j1 ∈ vs) (m2 : j2 ∈ vs)
    (h1 : ∀ R1 R2 : SV NoM, (((wipeP ps vs).set j1 (some R1)).set j2 (some R2))[j1]? = some (some R1)) (h2 : ∀ R1 R2 : SV NoM, (((wipeP ps vs).set j1 (some R1)).set j2 (some R2))[j2]? = some (some R2)) :
    Ty H0 NoM ps (tDcT (iEnum K (tCons tl tNil)) (gTup K 2 (gCons (gName j1) (gCons (gName j2) gNil))) (tVar j2) (tVar j1) vs) (DN lots) := fun σ H gd ts Q q => by
  unfold tDcT iEnum
  refine (ta_cons hl ta_nil) σ H gd ts _ fun us' B e p => ?_
  cases p with
  | cons r t =>
    cases t
    obtain ⟨a, us, rfl, _, hA, pA⟩ := hR _ _ r
    have hlen := pr_len pA
    refine ⟨a, us, rfl, SqL.of hA, fun D hD => ?_⟩
    have neD : a ≠ D := fun z => by rw [z, hD] at hA; cases hA
    have tB := ts.up e
    have hw : Walk (Ite K a) us.length (fun H => SqL K H a us) _ := walk_enum
    refine ⟨fun i m G => m = us.length - i ∧ i ≤ us.length ∧ Ex B G ∧ ∃ kvs, G D = some (.dT kvs) ∧ kvs.length ≤ i ∧ ∀ j, j < i → valV kvs (kc (lots.getD j [])) = some (.int (j : Int)), ⟨us.length, rfl, Nat.zero_le _, Ex.new hD, [], upd_same, Nat.le_refl _, fun j hj => by omega⟩, ?_⟩
    rintro i m G ⟨rfl, hi, eG, kvs, hk, hkl, hv⟩
    have gl : SqL K G a us := SqL.of (eG a _ hA)
    by_cases hlt : i < us.length
    · refine .inr ⟨hw.goes i G hlt gl, fun G' => i + 1 ≤ us.length ∧ Ex B G' ∧ ∃ kvs, G' D = some (.dT kvs) ∧ kvs.length ≤ i + 1 ∧ ∀ j, j < i + 1 → valV kvs (kc (lots.getD j [])) = some (.int (j : Int)), fun G' p => ⟨us.length - (i + 1), by omega, rfl, p⟩, fun x G' y => ?_⟩
      obtain ⟨T, x1, x2, rfl, hT, rfl, hx1, hx2⟩ := hw.yields i G x G' hlt gl y
      have hx1 : V.int (i : Int) = x1 := Option.some.inj hx1
      subst hx1
      obtain ⟨c, hc, pc⟩ := pr_get' pA hx2
      have ec : lots.getD i [] = c := by rw [List.getD_eq_getElem?_getD, hc]; rfl
      have eN := Ex.new (o := .tup [.int (i : Int), x2]) hT
      have ti : Tsl (((wipeP ps vs).set j1 (some (Iv NoM (.int (i : Int))))).set j2 (some (An NoM (TX c)))) (((wipe σ vs).set j1 (some (.int (i : Int)))).set j2 (some x2)) (upd G T (.tup [.int (i : Int), x2])) :=
        Tsl.set (R := An NoM (TX c)) (Mn.ex (P := TX c) (eG.trans eN) pc) (Tsl.set (R := Iv NoM (.int (i : Int))) rfl ((tB.up (eG.trans eN)).wipe vs))
      refine ⟨T, [.int (i : Int), x2], rfl, SqT.of upd_same, rfl, _, _, rfl, _, _, rfl, rfl, ?_, ?_⟩
      · apply List.ext_getElem?
        intro u
        rw [wipe_get, wipe_get, List.getElem?_set, List.getElem?_set, wipe_get, List.length_set, wipe_length]
        by_cases hm : u ∈ vs
        · simp only [hm, if_true]
          by_cases q2 : j2 = u
          · subst q2
            by_cases hl : j2 < σ.length <;> simp [hl]
          · simp only [q2, if_false]
            by_cases q1 : j1 = u
            · subst q1
              by_cases hl : j1 < σ.length <;> simp [hl]
            · simp only [q1, if_false]
              cases σ[u]? <;> rfl
        · have q2 : j2 ≠ u := fun z => hm (z ▸ m2)
          have q1 : j1 ≠ u := fun z => hm (z ▸ m1)
          simp only [hm, if_false, q1, q2]
      · obtain ⟨v2, ev2, a2, rfl, ha2⟩ := ti.get (h2 _ _)
        obtain ⟨v1, ev1, ew⟩ := ti.get (h1 (Iv NoM (.int (i : Int))) (An NoM (TX c)))
        have ew : v1 = .int (i : Int) := ew
        subst ew
        refine ⟨_, ev2, _, ev1, kvs, kc c, a2, rfl, by rw [kc_map]; exact ha2, by rw [upd_ne fun z => by rw [z, hT] at hk; cases hk]; exact hk, sz_lt (by omega), hlt, Ex.mut (eG.trans eN) hD, _, upd_same, ?_, fun j hj => ?_⟩
        · have := length_putK kvs (kc c) (.int (i : Int))
          omega
        · rw [valV_put]
          by_cases e2 : j = i
          · rw [e2, ec, if_pos rfl]
          · rw [if_neg ?_]
            · exact hv j (by omega)
            · intro z
              have z := kc_inj z
              rw [← ec] at z
              have hj' : j < lots.length := by omega
              have hi' : i < lots.length := by omega
              rw [List.getD_eq_getElem?_getD, List.getD_eq_getElem?_getD, List.getElem?_eq_getElem hj', List.getElem?_eq_getElem hi'] at z
              exact e2 ((List.getElem?_inj hj' nd).mp (by rw [List.getElem?_eq_getElem hj', List.getElem?_eq_getElem hi']; exact congrArg some z))
    · have ei : i = us.length := by omega
      subst ei
      exact .inl ⟨hw.stops G gl, q _ G (e.trans eG) ⟨D, kvs, rfl, hk, fun j hj => hv j (by omega)⟩⟩
/-- for i, t in enumerate(lots): lots at a, told by slot s -/
theorem st_forEnL {a : Addr} {us : List V} {lots : List (List Nat)} {s j1 j2 : Nat} (g : Good H0 NoM H) (ts : Tsl ps σ H) (hs0 : ps[s]? = some (some (LS a us lots))) (I : Nat → List (Option (SV NoM))) (hI : ∀ i, (I i)[s]? = some (some (LS a us lots))) (h0 : ∀ σ H, Tsl ps σ H → Tsl (I 0) σ H)
    (hs : ∀ (i : Nat) c σ' H', lots[i]? = some c → Good H0 NoM H' → Tsl (((I i).set j1 (some (Iv NoM (.int (i : Int))))).set j2 (some (An NoM (TX c)))) σ' H' → ∀ D' : Ends, D'.rt = D.rt → (∀ σ2 H2, Good H0 NoM H2 → Tsl (I (i + 1)) σ2 H2 → D'.nx σ2 H2) → tu D' σ' H')
    (hd : ∀ σ' H', Good H0 NoM H' → Tsl (I lots.length) σ' H' → tz D σ' H') : tSeq (tFor (iEnum K (tCons (tVar s) tNil)) (gTup K 2 (gCons (gName j1) (gCons (gName j2) gNil))) tu) tz D σ H := by
  obtain ⟨v, ev, e, hA, pA⟩ := ts.get hs0
  subst e
  have hlen := pr_len pA
  refine ⟨_, ev, a, us, rfl, SqL.of hA, ?_⟩
  refine for_it (walk_enum (K := K) (a := a) (xs := us)) (fun i σ' H' => Good H0 NoM H' ∧ Tsl (I i) σ' H') ⟨g, h0 _ _ ts⟩ (fun i σ' H' _ p => ?_) (fun i x σ' H' H4 hi p y => ?_) fun σ' H' p => hd σ' H' p.1 (hlen ▸ p.2)
  · obtain ⟨_, _, _, h, _⟩ := p.2.get (hI i)
    exact SqL.of h
  · obtain ⟨T, x1, x2, rfl, hT, rfl, hx1, hx2⟩ := y
    have hx1 : V.int (i : Int) = x1 := Option.some.inj hx1
    subst hx1
    obtain ⟨_, _, _, _, pB⟩ := p.2.get (hI i)
    obtain ⟨c, hc, pc⟩ := pr_get' pB hx2
    have eN := Ex.new (o := .tup [.int (i : Int), x2]) hT
    refine ⟨T, [.int (i : Int), x2], rfl, SqT.of upd_same, rfl, _, _, rfl, _, _, rfl, rfl, ?_⟩
    exact hs i c _ _ hc (p.1.up eN) (Tsl.set (R := An NoM (TX c)) (Mn.ex (P := TX c) eN pc) (Tsl.set (R := Iv NoM (.int (i : Int))) rfl (p.2.up eN))) _ rfl fun σ2 H2 g t => ⟨g, t⟩
/-- for i, p in enumerate(t): t at b, told by slot s -/
theorem st_forEnX {b : Addr} {ch : List Nat} {s j1 j2 : Nat} (g : Good H0 NoM H) (ts : Tsl ps σ H) (hs0 : ps[s]? = some (some (XS b ch))) (I : Nat → List (Option (SV NoM))) (hI : ∀ i, (I i)[s]? = some (some (XS b ch))) (h0 : ∀ σ H, Tsl ps σ H → Tsl (I 0) σ H)
    (hs : ∀ (i : Nat) σ' H', i < ch.length → Good H0 NoM H' → Tsl (((I i).set j1 (some (Iv NoM (.int (i : Int))))).set j2 (some (Iv NoM (.int (ch.getD i 0 : Int))))) σ' H' → ∀ D' : Ends, D'.rt = D.rt → (∀ σ2 H2, Good H0 NoM H2 → Tsl (I (i + 1)) σ2 H2 → D'.nx σ2 H2) → tu D' σ' H')
    (hd : ∀ σ' H', Good H0 NoM H' → Tsl (I ch.length) σ' H' → D.nx σ' H') : tFor (iEnT K (tCons (tVar s) tNil)) (gTup K 2 (gCons (gName j1) (gCons (gName j2) gNil))) tu D σ H := by
  obtain ⟨v, ev, e, hA⟩ := ts.get hs0
  subst e
  refine ⟨_, ev, b, _, rfl, SqT.of hA, ?_⟩
  refine for_it (walk_enT (K := K) (a := b) (xs := ch.map fun n : Nat => V.int (n : Int))) (fun i σ' H' => Good H0 NoM H' ∧ Tsl (I i) σ' H') ⟨g, h0 _ _ ts⟩ (fun i σ' H' _ p => ?_) (fun i x σ' H' H4 hi p y => ?_) fun σ' H' p => hd σ' H' p.1 (by rw [List.length_map] at p; exact p.2)
  · obtain ⟨_, _, _, h⟩ := p.2.get (hI i)
    exact SqT.of h
  · obtain ⟨T, x1, x2, rfl, hT, rfl, hx1, hx2⟩ := y
    have hx1 : V.int (i : Int) = x1 := Option.some.inj hx1
    subst hx1
    rw [List.length_map] at hi
    have hx2 : (ch.map fun n : Nat => V.int (n : Int))[i]? = some x2 := hx2
    rw [List.getElem?_map, getD_at 0 hi] at hx2
    have hx2 : V.int (ch.getD i 0 : Int) = x2 := Option.some.inj hx2
    subst hx2
    have eN := Ex.new (o := .tup [.int (i : Int), .int (ch.getD i 0 : Int)]) hT
    refine ⟨T, _, rfl, SqT.of upd_same, rfl, _, _, rfl, _, _, rfl, rfl, ?_⟩
    exact hs i _ _ hi (p.1.up eN) (Tsl.set (R := Iv NoM (.int (ch.getD i 0 : Int))) rfl (Tsl.set (R := Iv NoM (.int (i : Int))) rfl (p.2.up eN))) _ rfl fun σ2 H2 g t => ⟨g, t⟩
end
end My
end
section
set_option Elab.async false
set_option linter.all false
set_option maxRecDepth 100000
set_option maxHeartbeats 2000000
namespace My
open PySem PySem.Spec PyProof.Rows L2 Evl
open Mi (at0 at2 subsets put putSign rest addAt deSign dLater dAt dCol derivation)
theorem dv_fit0 : ∀ size ∈ List.range 5, ∀ many ∈ List.range 5, many ≤ size → (subsets size many).Nodup ∧ ∀ ch ∈ subsets size many, ∀ i ∈ List.range many, ∀ later ∈ List.range size, later ∉ rest ch i → put (rest ch i) later ∈ subsets size many := by decide +kernel
theorem dv_fit (size : Nat) (hs : size ≤ 4) (many : Nat) (hm : many ≤ size) : (subsets size many).Nodup ∧ ∀ ch ∈ subsets size many, ∀ i, i < many → ∀ later, later < size → later ∉ rest ch i → put (rest ch i) later ∈ subsets size many := by
  obtain ⟨a, b⟩ := dv_fit0 size (List.mem_range.mpr (by omega)) many (List.mem_range.mpr (by omega)) hm
  exact ⟨a, fun ch hc i hi later hl => b ch hc i (List.mem_range.mpr hi) later (List.mem_range.mpr hl)⟩
def DvOk (m : List (List Rat)) (size many : Nat) : Prop := m.length = size ∧ (∀ r, r < size → (m.getD r []).length = size) ∧ many ≤ size ∧ size ≤ 4 ∧ (∀ r, r < size → ∀ c, c < size → Sm (at2 m r c)) ∧
  ∀ col, col < (subsets size many).length → ∀ i, i < many → ∀ later, later < size →
    (∀ r, r < (subsets size many).length → Sm (at2 (dLater m (subsets size many) ((subsets size many).getD col []) col i (((subsets size many).getD col []).getD i 0) (dAt m (subsets size many) size ((subsets size many).getD col []) col (dCol m (subsets size many) size col) i) later) r col)) ∧
    Sm (((deSign ((subsets size many).getD col []) i later : Int) : Rat) * at2 m later (((subsets size many).getD col []).getD i 0))
abbrev spDv (K : PySem.W.Frag) : Sp := Sp2 (ι := List (List Rat) × Nat × Nat) (fun i => LO (LO (IQ K)) i.1) (fun i => IV (.int (i.2.2 : Int))) (fun i => DvOk i.1 i.2.1 i.2.2) (fun i => LO (LO (IQ K)) (derivation i.1 i.2.1 i.2.2))
/-- square rows -/
def Sqr (n : Nat) (rows : List (List Rat)) : Prop := rows.length = n ∧ ∀ r, r < n → (rows.getD r []).length = n
theorem Sqr.add {n : Nat} {rows : List (List Rat)} (h : Sqr n rows) (r c : Nat) (v : Rat) : Sqr n (addAt rows r c v) := by
  unfold addAt
  refine ⟨by rw [List.length_set]; exact h.1, fun k hk => ?_⟩
  rw [List.getD_eq_getElem?_getD, List.getElem?_set]
  by_cases e : r = k
  · rw [if_pos e, if_pos (by rw [h.1, e]; exact hk)]
    show (List.set _ _ _).length = n
    rw [List.length_set, e]
    exact h.2 k hk
  · rw [if_neg e, ← List.getD_eq_getElem?_getD]
    exact h.2 k hk
theorem Sqr.later {n : Nat} (m : List (List Rat)) (lots : List (List Nat)) (ch : List Nat) (col i place : Nat) {rows : List (List Rat)} (h : Sqr n rows) : ∀ k, Sqr n (dLater m lots ch col i place rows k)
  | 0 => h
  | k + 1 => by
    unfold dLater
    split
    · exact Sqr.later m lots ch col i place h k
    · exact (Sqr.later m lots ch col i place h k).add _ _ _
theorem Sqr.at_ {n : Nat} (m : List (List Rat)) (lots : List (List Nat)) (size : Nat) (ch : List Nat) (col : Nat) {rows : List (List Rat)} (h : Sqr n rows) : ∀ k, Sqr n (dAt m lots size ch col rows k)
  | 0 => h
  | k + 1 => (Sqr.at_ m lots size ch col h k).later ..
theorem Sqr.col (m : List (List Rat)) (lots : List (List Nat)) (size : Nat) : ∀ k, Sqr lots.length (dCol m lots size k)
  | 0 => ⟨by unfold dCol; rw [List.length_map, List.length_range], fun r hr => by
      unfold dCol
      rw [List.getD_eq_getElem?_getD, List.getElem?_map, List.getElem?_range hr]
      show (List.map _ _).length = _
      rw [List.length_map, List.length_range]⟩
  | k + 1 => (Sqr.col m lots size k).at_ ..
theorem owm_an {K : PySem.W.Frag} {F : Addr} {as : List Addr} {l : List (List Rat)} {H : Hp} {v : V} (h : (OwM K F as l).R H v) : LO (LO (IQ K)) l (fun a => ¬ NoM a) H v := by
  obtain ⟨rfl, m⟩ := h
  exact m.lo (fun m => m) fun _ _ m => m
section
variable {H0 : Hp} {K : PySem.W.Frag} {ps : List (Option (SV NoM))} {ta tb tc te tl : TE} {E : XK} {R R1 R2' : SV NoM} {vs : List Nat} {H B : Hp} {σ : L2.St} {D : Ends} {tz tu : TS}
abbrev rNN : R2 := fun x y H Q => y = .non ∧ Q (.bl (!decide (x = .non))) H
theorem tt_notN {b : Bool} (h : Ty H0 NoM ps ta R) (hR : ∀ H v, R.R H v → decide (v = .non) = b) : TyT H0 NoM ps (tTest (tOp rNN ta (tC .non))) (!b) := fun σ H g t Q q =>
  h σ H g t _ fun v H2 e2 r => ⟨rfl, _, rfl, by rw [hR _ _ r]; exact q H2 e2⟩
theorem pin_non {ch : List Nat} {p : Nat} {S : Addr → Prop} {v : V} (h : PIN K ch p S H v) : decide (v = .non) = decide (p ∈ ch) := by
  unfold PIN at h
  by_cases e : p ∈ ch
  · rw [if_pos e] at h
    rw [h, decide_eq_true e]
    rfl
  · rw [if_neg e] at h
    obtain ⟨a, x, rfl, _⟩ := h
    rw [decide_eq_false e]
    rfl
theorem ty_pin1 {ch : List Nat} {p : Nat} (h : Ty H0 NoM ps ta R) (hR : ∀ H v, R.R H v → PIN K ch p Tr H v) (e : p ∉ ch) : Ty H0 NoM ps (tOp (rIx K) ta (tC (.int 1))) (Iv NoM (.int (putSign ch p))) := fun σ H g t Q q =>
  h σ H g t _ fun v H2 e2 r => by
    have k := hR _ _ r
    unfold PIN at k
    rw [if_neg e] at k
    obtain ⟨a, x, rfl, hs, _⟩ := k
    exact .inr (.inl ⟨a, _, 1, _, rfl, rfl, hs, ix_at (j := 1) rfl rfl, q _ H2 e2 rfl⟩)
theorem ty_pin0 {ch : List Nat} {p : Nat} (h : Ty H0 NoM ps ta R) (hR : ∀ H v, R.R H v → PIN K ch p Tr H v) (e : p ∉ ch) : Ty H0 NoM ps (tOp (rIx K) ta (tC (.int 0))) (An NoM (TX (put ch p))) := fun σ H g t Q q =>
  h σ H g t _ fun v H2 e2 r => by
    have k := hR _ _ r
    unfold PIN at k
    rw [if_neg e] at k
    obtain ⟨a, x, rfl, hs, hx⟩ := k
    exact .inr (.inl ⟨a, _, 0, _, rfl, rfl, hs, ix_at (j := 0) rfl rfl, q _ H2 e2 hx⟩)
/-- a loop over range(n) that ends its block -/
theorem st_for1e {t : TA} {j : Nat} {hi : Int} (n : Nat) (g : Good H0 NoM H) (ts : Tsl ps σ H) (h : TyA H0 NoM ps t [Iv NoM (.int hi)]) (hn : hi.toNat = n) (hb : -1000000 ≤ hi ∧ hi ≤ 1000000) (I : Nat → List (Option (SV NoM)))
    (h0 : ∀ σ H, Tsl ps σ H → Tsl (I 0) σ H)
    (hs : ∀ (i : Nat) σ' H', i < n → Good H0 NoM H' → Tsl ((I i).set j (some (Iv NoM (.int (i : Int))))) σ' H' → ∀ D' : Ends, D'.rt = D.rt → (∀ σ2 H2, Good H0 NoM H2 → Tsl (I (i + 1)) σ2 H2 → D'.nx σ2 H2) → tu D' σ' H')
    (hd : ∀ σ' H', Good H0 NoM H' → Tsl (I n) σ' H' → D.nx σ' H') : tFor (iRng1 t) (gName j) tu D σ H := by
  subst hn
  refine h σ H g ts _ fun vs H1 e p => ?_
  obtain rfl : vs = [.int hi] := by
    cases p with | cons r t => cases t; rw [show _ = _ from r]
  refine ⟨hi, rfl, by omega, by omega, for_range (lo := 0) (n := hi.toNat) (fun i σ H => Good H0 NoM H ∧ Tsl (I i) σ H) ⟨g.up e, h0 _ _ (ts.up e)⟩ (fun i σ' H' hi p => ?_) fun σ' H' p => hd σ' H' p.1 p.2⟩
  have e0 : (0 : Int) + (i : Int) = (i : Int) := Int.zero_add _
  rw [e0]
  exact hs i _ H' hi p.1 (p.2.set rfl) _ rfl fun σ2 H2 g t => ⟨g, t⟩
end
section
variable {P : Program} {w : World} {K : PySem.W.Frag} {mg : Str → Option Value} {base : Heap}
theorem has_derivation (T : Tx K mg) : Has P w K mg base 4 "derivation" ["matrix", "many"] (spDv K) := by
  have h_subsets := has_subsets (P := P) (w := w) (base := base) T
  have h_place_in := has_place_in (P := P) (w := w) (base := base) T
  have h_plus := has_plus (P := P) (w := w) (base := base) T
  have h_times := has_times (P := P) (w := w) (base := base) T
  refine has2 T.d_derivation sc_derivation (fun _ _ _ _ _ _ us hl => match us, hl with | [_, _], _ => rfl) fun f cdv A outer s H E hr => ⟨_,
    (pss_cons (ps_set (i := 2) sc_derivation.nd rfl (Or.inr rfl) (pe_has h_subsets (hr.mono (by decide)) (pa_cons (pe_callB (len_seqK (K := K)) (by rfl) T.b_len (by decide +kernel) (pa_cons (pv 0) pa_nil)) (pa_cons (pv 1) pa_nil))))
      (pss_cons (ps_setDcT (i := 3) (own := [("at", 7), ("chosen", 6)]) rfl (hu0 hr.units) sc_derivation.nd rfl rfl (swD_true rfl rfl rfl (by decide +kernel)) (pi_enumK (K := K) T.b_enumerate (pa_cons (pv 2) pa_nil)) (blkOk_by (by kernel_rfl)) (fun _ _ _ _ _ => (pg_tupK (K := K) (n := 2) rfl (pgs_cons (pg_name (i := 7) sc_derivation.nd rfl (Or.inl rfl)) (pgs_cons (pg_name (i := 6) sc_derivation.nd rfl (Or.inl rfl)) pgs_nil)))) (fun _ _ _ _ _ => (pv 6)) (fun _ _ _ _ _ => (pv 7)))
      (pss_cons (ps_setLc (i := 4) (own := [("left", 14)]) rfl sc_derivation.nd rfl rfl (sw_true rfl rfl rfl (by decide +kernel)) (pi_listK (K := K) (pv 2)) (blkOk_by (by kernel_rfl)) (fun _ _ _ _ _ => (pg_name (i := 14) sc_derivation.nd rfl (Or.inl rfl))) (fun _ _ _ _ _ => pts_nil) (fun _ _ _ _ _ => (pe_lc (own := [("right", 15)]) rfl sc_derivation.nd (pi_listK (K := K) (pv 2)) (blkOk_by (by kernel_rfl)) (fun _ _ _ _ _ => (pg_name (i := 15) sc_derivation.nd rfl (Or.inl rfl))) (fun _ _ _ _ _ => pts_nil) (fun _ _ _ _ _ => (pe_gc T.g_ZERO)))))
      (pss_cons (ps_for PassesOwn.never rfl (pi_enumK (K := K) T.b_enumerate (pa_cons (pv 2) pa_nil)) (pg_tupK (K := K) (n := 2) rfl (pgs_cons (pg_name (i := 5) sc_derivation.nd rfl (Or.inl rfl)) (pgs_cons (pg_name (i := 6) sc_derivation.nd rfl (Or.inl rfl)) pgs_nil))) (pss_one (ps_for PassesOwn.never rfl (pi_enT (K := K) T.b_enumerate (pa_cons (pv 6) pa_nil)) (pg_tupK (K := K) (n := 2) rfl (pgs_cons (pg_name (i := 7) sc_derivation.nd rfl (Or.inl rfl)) (pgs_cons (pg_name (i := 8) sc_derivation.nd rfl (Or.inl rfl)) pgs_nil))) (pss_cons (ps_set (i := 9) sc_derivation.nd rfl (Or.inl rfl) (pe_op (op_catAK (K := K)) (pe_slice (sl_tupAK (K := K)) (pv 6) po_none (po_some (pv 7))) (pe_slice (sl_tupAK (K := K)) (pv 6) (po_some (pe_op op_add (pv 7) pe_int)) po_none)))
      (pss_one (ps_for PassesOwn.never rfl (pi_range1 (by rfl) T.b_range (pa_cons (pe_callB (len_seqK (K := K)) (by rfl) T.b_len (by decide +kernel) (pa_cons (pv 0) pa_nil)) pa_nil)) (pg_name (i := 10) sc_derivation.nd rfl (Or.inl rfl)) (pss_cons (ps_set (i := 11) sc_derivation.nd rfl (Or.inl rfl) (pe_has h_place_in (hr.mono (by decide)) (pa_cons (pv 9) (pa_cons (pv 10) pa_nil))))
      (pss_one (ps_if (pt_cmpR op_notN (pv 11) pe_non (nomark _)) (pss_cons (ps_set (i := 12) sc_derivation.nd rfl (Or.inl rfl) (pe_ifExp (pt_cmpR op_eq (pe_op op_mod (pv 7) pe_int) pe_int (nomark _)) (pe_ix (ix_seqK (K := K)) (pv 11) pe_int (fun _ _ => rfl)) (pe_un un_neg (pe_ix (ix_seqK (K := K)) (pv 11) pe_int (fun _ _ => rfl)))))
      (pss_cons (ps_set (i := 13) sc_derivation.nd rfl (Or.inl rfl) (pe_dget (hu1 hr.units) (pv 3) (pe_ix (ix_seqK (K := K)) (pv 11) pe_int (fun _ _ => rfl)) (fun _ _ => rfl)))
      (pss_one (ps_asg (pe_has h_plus (hr.mono (by decide)) (pa_cons (pe_ix (ix_seqK (K := K)) (pe_ix (ix_seqK (K := K)) (pv 4) (pv 13) (fun _ _ => rfl)) (pv 5) (fun _ _ => rfl)) (pa_cons (pe_has h_times (hr.mono (by decide)) (pa_cons (pe_tup (pa_cons (pv 12) (pa_cons pe_int pa_nil))) (pa_cons (pe_ix (ix_seqK (K := K)) (pe_ix (ix_seqK (K := K)) (pv 0) (pv 10) (fun _ _ => rfl)) (pv 8) (fun _ _ => rfl)) pa_nil))) pa_nil))) (pg_sub (pe_ix (ix_seqK (K := K)) (pv 4) (pv 13) (fun _ _ => rfl)) (pv 5) set_list))))) pss_nil)))))))))
      (pss_one (ps_ret (pv 4))))))), ?_⟩
  rintro ⟨m, size, many⟩ v1 v2 Q h1 h2 ⟨hml, hmr, hms, hs4, hsm, hok⟩ ret
  dsimp only at hml hmr hms hs4 hsm hok
  obtain ⟨sl, sch⟩ := sub_fit size hs4 many hms
  obtain ⟨nd, hput⟩ := dv_fit size hs4 many hms
  have g : Good H NoM H := .start H
  have ts : Tsl [some (At NoM (fun a => H a ≠ none) (fun _ _ m => m) (LO (LO (IQ K)) m)), some (Iv NoM (.int (many : Int))), none, none, none, none, none, none, none, none, none, none, none, none, none, none] (start ["matrix", "many", "lots", "numbers", "rows", "column", "chosen", "at", "place", "rest", "later", "put", "sign", "row", "left", "right"] [v1, v2]) H :=
    wip_cons (Mn.mono (P := LO (LO (IQ K)) m) (fun _ z => z.2) (Mn.tr h1)) (wip_cons h2 (non_cons (non_cons (non_cons (non_cons (non_cons (non_cons (non_cons (non_cons (non_cons (non_cons (non_cons (non_cons (non_cons (non_cons nil_ts)))))))))))))))
  have lenM : ∀ (B : Hp) (ps : List (Option (SV NoM))), ps[0]? = some (some (At NoM (fun a => H a ≠ none) (fun _ _ m => m) (LO (LO (IQ K)) m))) → Ty B NoM ps (tCB (rLenA K) (tCons (tVar 0) tNil)) (Iv NoM (.int (size : Int))) := fun B ps h0 => ty_int (ty_lenL (R := At NoM (fun a => H a ≠ none) (fun _ _ m => m) (LO (LO (IQ K)) m)) (ty_var h0) fun _ _ h => Mn.any h) (by rw [hml])
  generalize hlots : subsets size many = lots at sl sch nd hput hok
  have hder : derivation m size many = dCol m lots size lots.length := by unfold derivation; rw [hlots]
  refine st_setV (Fr NoM H (LO TX lots)) g ts ?_ fun v H2 e2 r2 => ?_
  · rw [← hlots]
    exact ty_sub (lenM _ _ rfl) (ty_var rfl) hms hs4
  obtain ⟨a, us, rfl, ⟨_, haH⟩, ha2, pa⟩ := r2
  have g2 := g.up e2
  have t2 := (ts.up e2).set (i := 2) (R := LS a us lots) (v := .ref a) ⟨rfl, ha2, Paired.mapR pa fun b x q => Mn.any (P := TX b) q⟩
  have lsL : ∀ {H' : Hp} {v : V}, (LS a us lots).R H' v → LO TX lots (fun a => ¬ NoM a) H' v := fun ⟨e, h, p⟩ => ⟨a, us, e, fun m => m, h, Paired.mapR p fun b x q => q⟩
  refine st_set (DN lots) g2 t2 (ty_dcE (R := LS a us lots) (ty_var rfl) (fun _ _ h => Mn.any (lsL h)) nd (by omega) (by decide) (by decide) (fun _ _ => rfl) fun _ _ => rfl) fun σ3 H3 e3 g3 t3 => ?_
  refine st_setV (NwM K H3 (dCol m lots size 0)) g3.base t3 ?_ fun v H4 e4 r4 => ?_
  · refine ty_lcM (dCol m lots size 0) (ti_list ([] : List Nat) (Pc := TX) (xs := lots) (R := LS a us lots) (ty_var rfl) (fun _ _ h => lsL h) (by decide)) (by unfold dCol; rw [List.length_map, List.length_range]) (by omega) fun B i c hc gB => ?_
    obtain ⟨hi, rfl⟩ := range_at hc
    refine ty_lc _ (ti_list ([] : List Nat) (Pc := TX) (xs := lots) (R := LS a us lots) (ty_var rfl) (fun _ _ h => lsL h) (by decide)) (by rw [List.length_map, List.length_range]) (by omega) fun B2 j c2 hc2 gB2 => ?_
    obtain ⟨hj, rfl⟩ := range_at hc2
    exact ty_fr (ty_zero T)
  obtain ⟨F, as, hF3, has3, rO⟩ := r4
  have eV : v = .ref F := rO.1
  subst eV
  have g4 := g3.up e4
  have ha3 : H3 a = some (.lst us) := e3 a _ ha2
  have hasH : ∀ b ∈ as, H b = none := fun b hb => fresh_back g3.ex0 (has3 b hb)
  have hFH : H F = none := fresh_back g3.ex0 hF3
  have neas : ∀ b ∈ as, a ≠ b := fun b hb z => by
    have := has3 b hb
    rw [← z, ha3] at this
    cases this
  let SL : List (List Rat) → Option (SV NoM) → Option (SV NoM) → Option (SV NoM) → Option (SV NoM) → Option (SV NoM) → List (Option (SV NoM)) := fun rows x5 x6 x7 x8 x9 =>
    [some (At NoM (fun a => H a ≠ none) (fun _ _ m => m) (LO (LO (IQ K)) m)), some (Iv NoM (.int (many : Int))), some (LS a us lots), some (DN lots), some (OwM K F as rows), x5, x6, x7, x8, x9, none, none, none, none, none, none]
  have t4 : Tsl (SL (dCol m lots size 0) none none none none none) (σ3.set 4 (some (.ref F))) H4 := (t3.up e4).set (i := 4) (R := OwM K F as (dCol m lots size 0)) rO
  refine st_forEnL (lots := lots) (a := a) (us := us) g4 t4 rfl (fun col => SL (dCol m lots size col) none none none none none) (fun _ => rfl) (fun _ _ t => t) (fun col ch σ5 H5 hc g5 t5 D1 hD1 cont1 => ?_) fun σ5 H5 g5 t5 => ?_
  · have hcol : col < lots.length := (List.getElem?_eq_some_iff.mp hc).1
    have ech : lots.getD col [] = ch := by rw [List.getD_eq_getElem?_getD, hc]; rfl
    have hchm : ch ∈ lots := List.mem_of_getElem? hc
    obtain ⟨hchl, hchp⟩ := sch ch hchm
    have hok := hok col hcol
    rw [ech] at hok
    obtain ⟨v6, ev6, b, rfl, hb⟩ := t5.get (i := 6) (R := An NoM (TX ch)) rfl
    have t6 : Tsl (SL (dCol m lots size col) (some (Iv NoM (.int (col : Int)))) (some (XS b ch)) none none none) σ5 H5 := Tsl.put (i := 6) (R := XS b ch) ⟨rfl, hb⟩ ev6 t5
    refine st_forEnX (ch := ch) (b := b) g5 t6 rfl (fun i => SL (dAt m lots size ch col (dCol m lots size col) i) (some (Iv NoM (.int (col : Int)))) (some (XS b ch)) none none none) (fun _ => rfl) (fun _ _ t => t) (fun i σ7 H7 hi g7 t7 D2 hD2 cont2 => ?_) fun σ7 H7 g7 t7 => ?_
    · have hokI := hok i (by omega)
      refine st_set (An NoM (TX (rest ch i))) g7 t7 ?_ fun σ8 H8 e8 g8 t8 => ?_
      · have z1 := cut_take ch i
        have z2 := cut_drop ch (i + 1)
        refine ty_catX (R := An NoM (TX (ch.take i))) (R1 := An NoM (TX (ch.drop (i + 1)))) ?_ (fun _ _ h => h) ?_ (fun _ _ h => h) (by rw [List.length_take, List.length_drop]; omega)
        · rw [← z1]
          refine ty_slX (R := XS b ch) (ty_var rfl) (fun _ _ h => ⟨b, h.1, h.2⟩) to_none (to_some ?_)
          exact ty_var rfl
        · rw [← z2]
          refine ty_slX (R := XS b ch) (lo := some (((i + 1 : Nat) : Int))) (ty_var rfl) (fun _ _ h => ⟨b, h.1, h.2⟩) (to_some ?_) to_none
          refine ty_int (i := (i : Int) + 1) (ty_i0 ?_ ty_c) (by omega)
          exact ty_var rfl
      refine st_for1e size g8 t8 (ta_cons (lenM _ _ rfl) ta_nil) rfl (by omega) (fun later => SL (dLater m lots ch col i (ch.getD i 0) (dAt m lots size ch col (dCol m lots size col) i) later) (some (Iv NoM (.int (col : Int)))) (some (XS b ch)) (some (Iv NoM (.int (i : Int)))) (some (Iv NoM (.int (ch.getD i 0 : Int)))) (some (An NoM (TX (rest ch i))))) (fun _ _ t => t) (fun later σ9 H9 hl g9 t9 D3 hD3 cont3 => ?_) fun σ9 H9 g9 t9 => ?_
      · obtain ⟨hrs, hsg⟩ := hokI later hl
        have hput' := hput ch hchm i (by omega) later hl
        have sq : Sqr lots.length (dLater m lots ch col i (ch.getD i 0) (dAt m lots size ch col (dCol m lots size col) i) later) := ((Sqr.col m lots size col).at_ ..).later ..
        have eL : dLater m lots ch col i (ch.getD i 0) (dAt m lots size ch col (dCol m lots size col) i) (later + 1) = if later ∈ rest ch i then dLater m lots ch col i (ch.getD i 0) (dAt m lots size ch col (dCol m lots size col) i) later else addAt (dLater m lots ch col i (ch.getD i 0) (dAt m lots size ch col (dCol m lots size col) i) later) (lots.idxOf (put (rest ch i) later)) col (((deSign ch i later : Int) : Rat) * at2 m later (ch.getD i 0)) := rfl
        rw [eL] at cont3
        generalize dLater m lots ch col i (ch.getD i 0) (dAt m lots size ch col (dCol m lots size col) i) later = rows at hrs sq cont3 t9
        have hrl : (rest ch i).length ≤ 4 := by unfold Mi.rest; rw [List.length_append, List.length_take, List.length_drop]; omega
        refine st_set (Fr NoM H9 (PIN K (rest ch i) later)) g9.base t9 ?_ fun σa Ha ea ga ta => ?_
        · exact ty_call2 (ι := List Nat × Nat) (R1 := An NoM (TX (rest ch i))) (R2' := Iv NoM (.int (later : Int))) (rest ch i, later) (ty_var rfl) (ty_var rfl) (fun _ _ h => h) (fun _ _ h => h) hrl
        have ga' := g9.trans ga
        refine st_if1 ga ta (tt_notN (R := Fr NoM H9 (PIN K (rest ch i) later)) (ty_var rfl) fun _ _ h => pin_non h) (fun hb' Hb eb gb tb => ?_) fun hb' Hb eb gb tb => ?_
        · have hnm : later ∉ rest ch i := by simpa using hb'
          have hpm := hput' hnm
          rw [if_neg hnm] at cont3
          refine st_set (Iv NoM (.int (deSign ch i later))) gb tb ?_ fun σc Hc ec gc tc => ?_
          · refine ty_if (b := decide (i % 2 = 0)) (tt_is (tt_test (ty_eqI (ty_i (ty_var rfl) ty_c (show (0 : Int) < 2 by decide)) ty_c rfl)) ?_) (fun hb => ?_) fun hb => ?_
            · rw [dec_int, Bool.beq_eq_decide_eq]
              exact decide_eq_decide.mpr (by omega)
            · rw [show deSign ch i later = putSign (rest ch i) later from if_pos (of_decide_eq_true hb)]
              exact ty_pin1 (R := Fr NoM H9 (PIN K (rest ch i) later)) (ty_var rfl) (fun _ _ h => fr_tr h) hnm
            · rw [show deSign ch i later = -putSign (rest ch i) later from if_neg (of_decide_eq_false hb)]
              exact ty_un (ty_pin1 (R := Fr NoM H9 (PIN K (rest ch i) later)) (ty_var rfl) (fun _ _ h => fr_tr h) hnm)
          refine st_set (Iv NoM (.int (lots.idxOf (put (rest ch i) later) : Int))) gc tc ?_ fun σd Hd ed gd td => ?_
          · refine ty_dget (R := An NoM (TX (put (rest ch i) later))) ?_ ?_ (fun _ _ h => h) hpm
            · exact ty_var rfl
            · exact ty_pin0 (R := Fr NoM H9 (PIN K (rest ch i) later)) (ty_var rfl) (fun _ _ h => fr_tr h) hnm
          have hidx := List.idxOf_lt_length_of_mem hpm
          generalize lots.idxOf (put (rest ch i) later) = row at hidx cont3 td
          have hpl : ch.getD i 0 < size := hchp _ (List.mem_of_getElem? (getD_at 0 hi))
          have td' : Tsl [some (At NoM (fun a => H a ≠ none) (fun _ _ m => m) (LO (LO (IQ K)) m)), some (Iv NoM (.int (many : Int))), some (LS a us lots), some (DN lots), some (OwM K F as rows), some (Iv NoM (.int (col : Int))), some (XS b ch), some (Iv NoM (.int (i : Int))), some (Iv NoM (.int (ch.getD i 0 : Int))), some (An NoM (TX (rest ch i))), some (Iv NoM (.int (later : Int))), none, some (Iv NoM (.int (deSign ch i later))), some (Iv NoM (.int (row : Int))), none, none] σd Hd :=
            Tsl.to td ⟨.inr rfl, .inr rfl, .inr rfl, .inr rfl, .inr rfl, .inr rfl, .inr rfl, .inr rfl, .inr rfl, .inr rfl, .inr rfl, .inl rfl, .inr rfl, .inr rfl, .inr rfl, .inr rfl, trivial⟩
          refine st_storeM (H0 := H) (B := H9) (i := 4) (l := rows) (q := at2 rows row col + ((deSign ch i later : Int) : Rat) * at2 m later (ch.getD i 0)) (x := (row : Int)) (y := (col : Int)) row col (((ga.up eb).up ec).up ed) (((ga'.up eb).up ec).up ed) hasH td' rfl ?_ (ty_var rfl) (ty_var rfl) rfl rfl (by rw [sq.1]; exact hidx) (by rw [sq.2 _ hidx]; exact hcol) (fun c hc => ⟨mo_at fun x hx z => hx (z ▸ hasH c hc), mo_iv, mo_ls (neas c hc), mo_dn, mo_iv, mo_xs, mo_iv, mo_iv, mo_tx, mo_iv, mo_iv, mo_iv, trivial⟩) fun H' gz tz => ?_
          · refine ty_plus (ty_ix2 (R := OwM K F as rows) row col (ty_var rfl) (fun _ _ h => owm_an h) (ty_var rfl) (ty_var rfl) rfl rfl (by rw [sq.1]; exact hidx) (by rw [sq.2 _ hidx]; exact hcol)) ?_ (hrs _ hidx) hsg
            refine ty_times (ty_pair (ty_var rfl) ty_c rfl rfl) (ty_ix2 (R := At NoM (fun a => H a ≠ none) (fun _ _ m => m) (LO (LO (IQ K)) m)) later (ch.getD i 0) (ty_var rfl) (fun _ _ h => Mn.mono (fun _ _ m => m) h) (ty_var rfl) (ty_var rfl) rfl rfl (by rw [hml]; exact hl) (by rw [hmr _ hl]; exact hpl)) (sm_int _ ?_) (hsm _ hl _ hpl)
            unfold deSign putSign
            split <;> split <;> decide
          · exact cont3 _ H' gz (Tsl.to tz ⟨.inr rfl, .inr rfl, .inr rfl, .inr rfl, .inr rfl, .inr rfl, .inr rfl, .inr rfl, .inr rfl, .inr rfl, .inl rfl, .inr rfl, .inl rfl, .inl rfl, .inr rfl, .inr rfl, trivial⟩)
        · have hmm : later ∈ rest ch i := by simpa using hb'
          rw [if_pos hmm] at cont3
          exact cont3 _ Hb (ga'.up eb) (Tsl.to tb ⟨.inr rfl, .inr rfl, .inr rfl, .inr rfl, .inr rfl, .inr rfl, .inr rfl, .inr rfl, .inr rfl, .inr rfl, .inl rfl, .inl rfl, .inr rfl, .inr rfl, .inr rfl, .inr rfl, trivial⟩)
      · exact cont2 _ H9 g9 (Tsl.to t9 ⟨.inr rfl, .inr rfl, .inr rfl, .inr rfl, .inr rfl, .inr rfl, .inr rfl, .inl rfl, .inl rfl, .inl rfl, .inr rfl, .inr rfl, .inr rfl, .inr rfl, .inr rfl, .inr rfl, trivial⟩)
    · refine cont1 _ H7 g7 (Tsl.to t7 ?_)
      have e1 : dCol m lots size (col + 1) = dAt m lots size ch col (dCol m lots size col) ch.length := by
        show dAt m lots size (lots.getD col []) col (dCol m lots size col) (lots.getD col []).length = _
        rw [ech]
      show Wk _ (SL (dCol m lots size (col + 1)) none none none none none)
      rw [e1]
      exact ⟨.inr rfl, .inr rfl, .inr rfl, .inr rfl, .inr rfl, .inl rfl, .inl rfl, .inr rfl, .inr rfl, .inr rfl, .inr rfl, .inr rfl, .inr rfl, .inr rfl, .inr rfl, .inr rfl, trivial⟩
  · refine st_ret (R := OwM K F as (dCol m lots size lots.length)) g5 t5 (ty_var rfl) fun v H' e x => ?_
    obtain ⟨rfl, mm⟩ := x
    refine ret _ H' (g5.up e).ex0 ?_
    dsimp only
    rw [hder]
    exact mm.lo hFH hasH
end
end My
end
section
set_option Elab.async false
set_option linter.all false
set_option maxRecDepth 100000
set_option maxHeartbeats 2000000
namespace My
open PySem PySem.Spec PyProof.Rows L2 Evl
open Mi (at0 at2 subsets companion derivation compound charPoly sumsMat mulMat)
abbrev spSm (K : PySem.W.Frag) : Sp := Sp2 (ι := List Rat × Nat × Nat) (fun i => TO' K (IQ K) i.1) (fun i => IV (.int (i.2.2 : Int))) (fun i => i.1.length = i.2.1 + 1 ∧ DvOk (companion i.1 i.2.1) i.2.1 i.2.2 ∧ ChOk (derivation (companion i.1 i.2.1) i.2.1 i.2.2) (subsets i.2.1 i.2.2).length) (fun i => TO' K (IQ K) (sumsMat i.1 i.2.1 i.2.2))
abbrev spPm (K : PySem.W.Frag) : Sp := Sp2 (ι := List Rat × Nat × Nat) (fun i => TO' K (IQ K) i.1) (fun i => IV (.int (i.2.2 : Int))) (fun i => i.1.length = i.2.1 + 1 ∧ CpOk (companion i.1 i.2.1) i.2.1 i.2.2 ∧ ChOk (compound isz (companion i.1 i.2.1) i.2.1 i.2.2) (subsets i.2.1 i.2.2).length) (fun i => TO' K (IQ K) (mulMat isz i.1 i.2.1 i.2.2))
section
variable {M : Addr → Prop} {H0 : Hp} {K : PySem.W.Frag} {ps : List (Option (SV M))} {ta tb te : TE} {E : XK} {R R1 : SV M}
theorem ty_comp {cs : List Rat} {n : Nat} (h1 : Ty H0 M ps ta R) (hR : ∀ H v, R.R H v → TO' K (IQ K) cs Tr H v) (hl : cs.length = n + 1) (hn : n ≤ 1000) : Ty H0 M ps (tCall (spComp K) [] E (tCons ta tNil)) (Fr M H0 (LO (LO (IQ K)) (companion cs n))) :=
  ty_call1 (ι := List Rat × Nat) (cs, n) h1 hR ⟨hl, hn⟩
theorem ty_dv {m : List (List Rat)} {n k : Nat} (h1 : Ty H0 M ps ta R) (hR : ∀ H v, R.R H v → LO (LO (IQ K)) m Tr H v) (h2 : Ty H0 M ps tb (Iv M (.int (k : Int)))) (ok : DvOk m n k) : Ty H0 M ps (tCall (spDv K) [] E (tCons ta (tCons tb tNil))) (Fr M H0 (LO (LO (IQ K)) (derivation m n k))) :=
  ty_call2 (ι := List (List Rat) × Nat × Nat) (m, n, k) h1 h2 hR (fun _ _ h => h) ok
theorem ty_cp {m : List (List Rat)} {n k : Nat} (h1 : Ty H0 M ps ta R) (hR : ∀ H v, R.R H v → LO (LO (IQ K)) m Tr H v) (h2 : Ty H0 M ps tb (Iv M (.int (k : Int)))) (ok : CpOk m n k) : Ty H0 M ps (tCall (spCp K) [] E (tCons ta (tCons tb tNil))) (Fr M H0 (LO (LO (IQ K)) (compound isz m n k))) :=
  ty_call2 (ι := List (List Rat) × Nat × Nat) (m, n, k) h1 h2 hR (fun _ _ h => h) ok
theorem ty_char {m : List (List Rat)} {n : Nat} (h1 : Ty H0 M ps ta R) (hR : ∀ H v, R.R H v → LO (LO (IQ K)) m Tr H v) (ok : ChOk m n) : Ty H0 M ps (tCall (spChar K) [] E (tCons ta tNil)) (An M (TO' K (IQ K) (charPoly m n))) :=
  ty_conv (ty_call1 (ι := List (List Rat) × Nat) (m, n) h1 hR ok) fun _ _ h => fr_an h
end
section
variable {P : Program} {w : World} {K : PySem.W.Frag} {mg : Str → Option Value} {base : Heap}
theorem has_sums_mat (T : Tx K mg) : Has P w K mg base 7 "choice_sums_by_matrices" ["poly", "many"] (spSm K) := by
  have h_companion := has_companion (P := P) (w := w) (base := base) T
  have h_derivation := has_derivation (P := P) (w := w) (base := base) T
  have h_characteristic := has_characteristic (P := P) (w := w) (base := base) T
  refine has2 T.d_choice_sums_by_matrices sc_choice_sums_by_matrices (fun _ _ _ _ _ _ us hl => match us, hl with | [_, _], _ => rfl) fun f cdv A outer s H E hr => ⟨_,
    (pss_one (ps_ret (pe_has h_characteristic (hr.mono (by decide)) (pa_cons (pe_has h_derivation (hr.mono (by decide)) (pa_cons (pe_has h_companion (hr.mono (by decide)) (pa_cons (pv 0) pa_nil)) (pa_cons (pv 1) pa_nil))) pa_nil)))), ?_⟩
  rintro ⟨cs, n, many⟩ v1 v2 Q h1 h2 ⟨hl, hd, hc⟩ ret
  dsimp only at hl hd hc
  have g : Good H NoM H := .start H
  have ts : Tsl [some (An NoM (TO' K (IQ K) cs)), some (Iv NoM (.int (many : Int)))] (start ["poly", "many"] [v1, v2]) H := wip_cons (Mn.mono (fun _ _ z => z) h1) (wip_cons h2 nil_ts)
  have hn : n ≤ 4 := hd.2.2.2.1
  refine st_ret (R := An NoM (TO' K (IQ K) (sumsMat cs n many))) g ts ?_ fun v H' e x => ret v H' e x
  refine ty_char (R := Fr NoM H (LO (LO (IQ K)) (derivation (companion cs n) n many))) ?_ (fun _ _ h => fr_tr h) hc
  refine ty_dv (R := Fr NoM H (LO (LO (IQ K)) (companion cs n))) ?_ (fun _ _ h => fr_tr h) (ty_var rfl) hd
  exact ty_comp (R := An NoM (TO' K (IQ K) cs)) (ty_var rfl) (fun _ _ h => an_tr h) hl (by omega)
theorem has_products_mat (T : Tx K mg) : Has P w K mg base 7 "choice_products_by_matrices" ["poly", "many"] (spPm K) := by
  have h_companion := has_companion (P := P) (w := w) (base := base) T
  have h_compound := has_compound (P := P) (w := w) (base := base) T
  have h_characteristic := has_characteristic (P := P) (w := w) (base := base) T
  refine has2 T.d_choice_products_by_matrices sc_choice_products_by_matrices (fun _ _ _ _ _ _ us hl => match us, hl with | [_, _], _ => rfl) fun f cdv A outer s H E hr => ⟨_,
    (pss_one (ps_ret (pe_has h_characteristic (hr.mono (by decide)) (pa_cons (pe_has h_compound (hr.mono (by decide)) (pa_cons (pe_has h_companion (hr.mono (by decide)) (pa_cons (pv 0) pa_nil)) (pa_cons (pv 1) pa_nil))) pa_nil)))), ?_⟩
  rintro ⟨cs, n, many⟩ v1 v2 Q h1 h2 ⟨hl, hd, hc⟩ ret
  dsimp only at hl hd hc
  have g : Good H NoM H := .start H
  have ts : Tsl [some (An NoM (TO' K (IQ K) cs)), some (Iv NoM (.int (many : Int)))] (start ["poly", "many"] [v1, v2]) H := wip_cons (Mn.mono (fun _ _ z => z) h1) (wip_cons h2 nil_ts)
  have hn : n ≤ 4 := hd.2.2.2.1
  refine st_ret (R := An NoM (TO' K (IQ K) (mulMat isz cs n many))) g ts ?_ fun v H' e x => ret v H' e x
  refine ty_char (R := Fr NoM H (LO (LO (IQ K)) (compound isz (companion cs n) n many))) ?_ (fun _ _ h => fr_tr h) hc
  refine ty_cp (R := Fr NoM H (LO (LO (IQ K)) (companion cs n))) ?_ (fun _ _ h => fr_tr h) (ty_var rfl) hd
  exact ty_comp (R := An NoM (TO' K (IQ K) cs)) (ty_var rfl) (fun _ _ h => an_tr h) hl (by omega)
end
end My
end
section
set_option Elab.async false
set_option linter.all false
set_option maxRecDepth 100000
set_option maxHeartbeats 2000000
namespace My
open PySem PySem.Spec PyProof.Rows L2 Evl
local macro_rules | `(tactic| walk_at "ty") => `(tactic| repeat' (first | exact ty_c | exact ty_var rfl | apply ty_num0 | apply ty_den1 | apply ty_i0 | apply ty_i | apply ty_un | apply ty_pair))
open Mi (at0)
/-! what a bag's polynomial keeps: not empty, the last coefficient 1, its numbers within the limits -/
/-- the common denominator of the first i -/
def lcTo (cs : List Rat) : Nat → Nat
  | 0 => 1
  | i + 1 => lcTo cs i / Nat.gcd (lcTo cs i) (at0 cs i).den * (at0 cs i).den
structure BagOk (cs : List Rat) : Prop where
  ne : 0 < cs.length
  le : cs.length ≤ 8
  last : at0 cs (cs.length - 1) = 1
  sm : ∀ x ∈ cs, Sm x
  lc : ∀ i, i ≤ cs.length → lcTo cs i < 2 ^ 4000
  dg : ∀ i, i < cs.length → (at0 cs i).num.natAbs * (lcTo cs cs.length / (at0 cs i).den) < 10 ^ 100
theorem lcTo_pos (cs : List Rat) : ∀ i, 0 < lcTo cs i
  | 0 => Nat.one_pos
  | i + 1 => by
    have ih := lcTo_pos cs i
    unfold lcTo
    refine Nat.mul_pos ?_ (Nat.pos_of_ne_zero (at0 cs i).den_nz)
    exact Nat.div_pos (Nat.gcd_le_left _ ih) (Nat.gcd_pos_of_pos_left _ ih)
section
variable {M : Addr → Prop} {H0 : Hp} {K : PySem.W.Frag} {ps : List (Option (SV M))} {ta tb te : TE} {tt : TT} {E : XK} {q r : Rat} {R R1 R' : SV M} {D : Ends} {tz tu : TS} {σ : L2.St} {H : Hp}
theorem dpall_q {H : Hp} {S : Addr → Prop} : ∀ {cs : List Rat} {vs : List V}, Paired (fun b x => IQ K b S H x) cs vs → DpAll K H vs (cs.map qD)
  | [], _, .nil => .nil
  | c :: cs, _, .cons r t => .cons (dp_q r) (dpall_q t)
theorem dp_tq {H : Hp} {S : Addr → Prop} {cs : List Rat} {v : V} (h : TO' K (IQ K) cs S H v) : Dp K H v (.tuple (cs.map qD)) := by
  obtain ⟨a, vs, rfl, h, p⟩ := h
  exact .tup h (dpall_q p)
theorem shaped_tq {cs : List Rat} (h : cs.length ≤ 8) : SeqAt.shaped (.tuple (cs.map qD)) = true := by
  match cs, h with
  | [], _ => rfl
  | [_], _ => rfl
  | [_, _], _ => rfl
  | [_, _, _], _ => rfl
  | [_, _, _, _], _ => rfl
  | [_, _, _, _, _], _ => rfl
  | [_, _, _, _, _, _], _ => rfl
  | [_, _, _, _, _, _, _], _ => rfl
  | [_, _, _, _, _, _, _, _], _ => rfl
  | _ :: _ :: _ :: _ :: _ :: _ :: _ :: _ :: _ :: _, h => simp at h
/-- poly == () -/
theorem ty_eqTQ0 {cs : List Rat} (ha : Ty H0 M ps ta R) (hR : ∀ H v, R.R H v → TO' K (IQ K) cs Tr H v) (hl : cs.length ≤ 8) : Ty H0 M ps (tOp (rEqD K) ta (tTup tNil)) (Iv M (.bl (decide (cs = [])))) := fun σ H g t Q k =>
  ha σ H g t _ fun v H2 e2 h2 => ⟨by show 0 ≤ sizeLine; decide, fun p hp => by
    have h3 := R.st (.ofEx (Ex.new (o := .tup []) hp)) h2
    refine ⟨_, .tuple [], dp_tq (hR _ _ h3), .tup (SqT.of upd_same) .nil, shaped_tq hl, rfl, ?_⟩
    have e : PyData.eqv (.tuple (cs.map qD)) (.tuple []) = decide (cs = []) := by
      cases cs <;> rfl
    rw [e]
    exact k _ _ (e2.trans (Ex.new hp)) rfl⟩
theorem ty_ixTn {β : Type} {P : β → VP} [∀ b, Mn (P b)] {l : List β} {i : Int} (c : β) (R' : SV M) (h : Ty H0 M ps ta R) (hR : ∀ H v, R.R H v → TO' K P l (fun a => ¬ M a) H v) (hi : Ty H0 M ps tb (Iv M (.int i))) (hc : atI l i = some c)
    (h' : ∀ H v, P c (fun a => ¬ M a) H v → R'.R H v) : Ty H0 M ps (tOp (rIx K) ta tb) R' := fun σ H g t Q q =>
  h σ H g t _ fun v H2 e2 r => hi σ H2 (g.up e2) (t.up e2) _ fun y H3 e3 r3 => by
    obtain ⟨a, vs, rfl, hs, p⟩ := hR _ _ (R.st (.ofEx e3) r)
    obtain ⟨x, hx, px⟩ := pr_atI p hc
    exact .inr (.inl ⟨a, vs, i, x, rfl, r3, hs, hx, q x H3 (e2.trans e3) (h' _ _ px)⟩)
theorem st_drop (R : SV M) (g : Good H0 M H) (ts : Tsl ps σ H) (h : Ty H0 M ps te R) (k : ∀ H', Ex H H' → Good H0 M H' → Tsl ps σ H' → tz D σ H') : tSeq (tDrop te) tz D σ H :=
  h σ H g ts _ fun v H2 e r => k H2 e (g.up e) (ts.up e)
/-- over a tuple of rationals -/
theorem st_forTQ {cs : List Rat} {tl : TE} {j : Nat} (g : Good H0 M H) (ts : Tsl ps σ H) (h : Ty H0 M ps tl R) (hR : ∀ H v, R.R H v → TO' K (IQ K) cs Tr H v) (I : Nat → List (Option (SV M)))
    (h0 : ∀ σ H, Tsl ps σ H → Tsl (I 0) σ H)
    (hs : ∀ (B : Hp) (i : Nat) σ' H', i < cs.length → Good H0 M B → Good B M H' → Tsl ((I i).set j (some (Qs M K (at0 cs i)))) σ' H' → ∀ D' : Ends, D'.rt = D.rt → (∀ σ2 H2, Good B M H2 → Tsl (I (i + 1)) σ2 H2 → D'.nx σ2 H2) → tu D' σ' H')
    (hd : ∀ σ' H', Good H0 M H' → Tsl (I cs.length) σ' H' → tz D σ' H') : tSeq (tFor (iTup K tl) (gName j) tu) tz D σ H := by
  refine h σ H g ts _ fun v B e r => ?_
  obtain ⟨a, vs, rfl, hl, p⟩ := hR _ _ r
  have hlen := pr_len p
  have gB := g.up e
  refine ⟨a, rfl, ⟨vs, hl⟩, for_it (walk_tup (K := K) (a := a) (xs := vs)) (fun i σ' H' => Good B M H' ∧ Tsl (I i) σ' H') ⟨gB.base, h0 _ _ (ts.up e)⟩ (fun i σ' H' _ q => sqt_up (S := fun a => ¬ M a) (fun a o e n => q.1.kp a o e n) hl) (fun i x σ' H' H4 hi q y => ?_) fun σ' H' q => hd σ' H' (gB.trans q.1) (hlen ▸ q.2)⟩
  obtain ⟨rfl, hx⟩ := y
  obtain ⟨c, hc, pc⟩ := pr_get' p hx
  have hi' : i < cs.length := by omega
  have ec : at0 cs i = c := by
    rw [getD_some hi'] at hc
    exact Option.some.inj hc
  refine hs B i _ H4 hi' gB q.1 (q.2.set ?_) _ rfl fun σ2 H2 g t => ⟨g, t⟩
  rw [ec]
  exact (Qs M K c).st q.1.kp pc
end
abbrev spTrim (K : PySem.W.Frag) : Sp := Sp1 (ι := List Rat) (fun i => LO (IQ K) i) (fun i => 0 < i.length ∧ i.length ≤ 1000 ∧ at0 i (i.length - 1) ≠ 0) (fun i => TO' K (IQ K) i)
abbrev spPoly (K : PySem.W.Frag) : Sp := Sp1 (ι := List Rat) (fun i => TO' K (IQ K) i) BagOk (fun i => TO' K (IQ K) i)
abbrev spScal (K : PySem.W.Frag) : Sp := Sp2 (ι := List Rat) (fun i => TO' K (IQ K) i) (fun _ => IQ K 1) BagOk (fun i => TO' K (IQ K) i)
abbrev spNsz : Sp := Sp1 (ι := Nat) (fun n => IV (.int (n : Int))) (fun n => n ≤ 40) (fun _ => IV .non)
abbrev spLcd (K : PySem.W.Frag) : Sp := Sp1 (ι := List Rat) (fun i => TO' K (IQ K) i) BagOk (fun i => IV (.int (lcTo i i.length : Int)))
abbrev spNdg (K : PySem.W.Frag) : Sp := Sp1 (ι := List Rat) (fun i => TO' K (IQ K) i) BagOk (fun _ => IV .non)
theorem at_last {α : Type} (d : α) {l : List α} (h : 0 < l.length) : atI l (-1) = some (l.getD (l.length - 1) d) := by
  obtain ⟨a, b, rfl⟩ : ∃ a b, l = a ++ [b] := ⟨l.dropLast, l.getLast (by intro z; rw [z] at h; simp at h), (List.dropLast_concat_getLast _).symm⟩
  rw [atI_last]
  congr 1
  rw [List.getD_eq_getElem?_getD]
  simp
theorem mul_one_list (cs : List Rat) (i : Nat) (c : Rat) (h : cs[i]? = some c) : at0 cs i * 1 = c := by
  rw [Rat.mul_one]
  unfold at0
  rw [List.getD_eq_getElem?_getD, h]
  rfl
section
variable {P : Program} {w : World} {K : PySem.W.Frag} {mg : Str → Option Value} {base : Heap}
theorem has_trimmed (T : Tx K mg) : Has P w K mg base 1 "trimmed" ["parts"] (spTrim K) := by
  refine has1 T.d_trimmed sc_trimmed (fun _ _ _ _ _ _ us hl => match us, hl with | [_], _ => rfl) fun f cdv A outer s H E hr => ⟨_,
    (pss_cons (ps_set (i := 1) sc_trimmed.nd rfl (Or.inl rfl) (pe_callB (len_seqK (K := K)) (by rfl) T.b_len (by decide +kernel) (pa_cons (pv 0) pa_nil)))
      (pss_cons (ps_while PassesOwn.never (PW.pt (pw_and (pt_cmpR op_gt (pv 1) pe_int (nomark _)) (pw_and1 (pt_cmpR (eqDK (K := K) hr.units) (pe_ix (ix_seqK (K := K)) (pv 0) (pe_op op_sub (pv 1) pe_int) (fun _ _ => rfl)) (pe_gc T.g_ZERO) (nomark _))))) (pss_one (ps_aug (i := 1) sc_trimmed.nd rfl (Or.inl rfl) pe_int ip_sub)))
      (pss_one (ps_ret (pe_callTy (tuple_ofK (K := K)) (by rfl) T.b_tuple (by decide +kernel) (pa_cons (pe_slice (sl_listK (K := K)) (pv 0) po_none (po_some (pv 1))) pa_nil)))))), ?_⟩
  intro cs v1 Q h1 ⟨h0, hl, hz⟩ ret
  have g : Good H NoM H := .start H
  have ts : Tsl [some (An NoM (LO (IQ K) cs)), none] (start ["parts", "size"] [v1]) H := wip_cons (Mn.mono (fun _ _ z => z) h1) (non_cons nil_ts)
  refine st_set (Iv NoM (.int (cs.length : Int))) g ts (ty_lenL (R := An NoM (LO (IQ K) cs)) (ty_var rfl) fun _ _ h => an_tr h) fun σ2 H2 e2 g2 t2 => ?_
  refine q_while (fun m σ' H' => Good H NoM H' ∧ Tsl [some (An NoM (LO (IQ K) cs)), some (Iv NoM (.int (cs.length : Int)))] σ' H') 0 ⟨g2, t2⟩ ?_
  rintro m σ' H' ⟨g3, t3⟩
  refine ⟨false, fun H4 e4 Q4 q4 => ?_, (fun hb => by cases hb), fun _ H4 e4 => ?_⟩
  · refine (tt_is (tt_and (tt_test (ty_i0 (ty_var (i := 1) rfl) ty_c)) fun _ => tt_test (ty_eqQ (ty_ixQL (R := An NoM (LO (IQ K) cs)) (i := (cs.length : Int) - 1) (cs.length - 1) (ty_var (i := 0) rfl) ?_ (fun _ _ h => h) (by omega) (by omega)) (ty_zero T))) ?_) σ' H4 (g3.up e4) (t3.up e4) Q4 q4
    · exact ty_i0 (ty_var rfl) ty_c
    · rw [decide_eq_false hz, Bool.and_false]
  · refine st_ret (R := An NoM (TO' K (IQ K) cs)) (g3.up e4) (t3.up e4) ?_ fun v H' e x => ret v H' ((g3.up e4).up e).ex0 x
    have hc : cutL cs none (some (cs.length : Int)) = cs := by rw [cut_take, List.take_length]
    refine ty_tuple (R := An NoM (LO (IQ K) (cutL cs none (some (cs.length : Int))))) ?_ fun _ _ h => by rw [hc] at h; exact an_tr h
    refine ty_slL (R := An NoM (LO (IQ K) cs)) (fun a => ¬ NoM a) (fun _ h => h) (fun _ h => h.1) (ty_var rfl) (fun _ _ h => h) to_none (to_some ?_)
    exact ty_var rfl
theorem has_polynomial (T : Tx K mg) : Has P w K mg base 4 "polynomial" ["parts"] (spPoly K) := by
  have h_trimmed := has_trimmed (P := P) (w := w) (base := base) T
  have h_number := has_number (P := P) (w := w) (base := base) T
  refine has1 T.d_polynomial sc_polynomial (fun _ _ _ _ _ _ us hl => match us, hl with | [_], _ => rfl) fun f cdv A outer s H E hr => ⟨_,
    (pss_one (ps_ret (pe_has h_trimmed (hr.mono (by decide)) (pa_cons (pe_lc (own := [("part", 1)]) rfl sc_polynomial.nd (pi_tupK (K := K) (pv 0)) (blkOk_by (by kernel_rfl)) (fun _ _ _ _ _ => (pg_name (i := 1) sc_polynomial.nd rfl (Or.inl rfl))) (fun _ _ _ _ _ => pts_nil) (fun _ _ _ _ _ => (pe_has h_number (hr.mono (by decide)) (pa_cons (pv 1) pa_nil)))) pa_nil)))), ?_⟩
  intro cs v1 Q h1 ok ret
  have g : Good H NoM H := .start H
  have ts : Tsl [some (An NoM (TO' K (IQ K) cs)), none] (start ["parts", "part"] [v1]) H := wip_cons (Mn.mono (fun _ _ z => z) h1) (non_cons nil_ts)
  have hle := ok.le
  refine st_ret (R := Fr NoM H (TO' K (IQ K) cs)) g ts ?_ fun v H' e x => ret v H' e (Mn.mono (fun _ z => z.2) x)
  refine ty_call1 (ι := List Rat) (R1 := Fr NoM H (LO (IQ K) cs)) cs ?_ (fun _ _ h => fr_tr h) ⟨ok.ne, by omega, by rw [ok.last]; decide⟩
  refine ty_lc cs (ti_tup (0 : Rat) (K := K) (Pc := IQ K) (xs := cs) (R := An NoM (TO' K (IQ K) cs)) (ty_var rfl) (fun _ _ h => h) (by decide)) rfl (by omega) fun B i c hc gB => ?_
  have ec : cs.getD i 0 = c := by rw [List.getD_eq_getElem?_getD, hc]; rfl
  refine ty_fr (ty_conv (ty_call1 (ι := Rat) (R1 := Qs NoM K c) c ?_ (fun _ _ h => h) (ok.sm c (List.mem_of_getElem? hc))) fun _ _ h => h)
  rw [← ec]
  exact ty_conv (ty_var rfl) fun _ _ h => h
theorem has_scaled (T : Tx K mg) : Has P w K mg base 4 "scaled" ["poly", "factor"] (spScal K) := by
  have h_trimmed := has_trimmed (P := P) (w := w) (base := base) T
  have h_times := has_times (P := P) (w := w) (base := base) T
  refine has2 T.d_scaled sc_scaled (fun _ _ _ _ _ _ us hl => match us, hl with | [_, _], _ => rfl) fun f cdv A outer s H E hr => ⟨_,
    (pss_one (ps_ret (pe_has h_trimmed (hr.mono (by decide)) (pa_cons (pe_lc (own := [("part", 2)]) rfl sc_scaled.nd (pi_tupK (K := K) (pv 0)) (blkOk_by (by kernel_rfl)) (fun _ _ _ _ _ => (pg_name (i := 2) sc_scaled.nd rfl (Or.inl rfl))) (fun _ _ _ _ _ => pts_nil) (fun _ _ _ _ _ => (pe_has h_times (hr.mono (by decide)) (pa_cons (pv 2) (pa_cons (pv 1) pa_nil))))) pa_nil)))), ?_⟩
  intro cs v1 v2 Q h1 h2 ok ret
  have g : Good H NoM H := .start H
  have ts : Tsl [some (An NoM (TO' K (IQ K) cs)), some (Qs NoM K 1), none] (start ["poly", "factor", "part"] [v1, v2]) H := wip_cons (Mn.mono (fun _ _ z => z) h1) (wip_cons h2 (non_cons nil_ts))
  have hle := ok.le
  refine st_ret (R := Fr NoM H (TO' K (IQ K) cs)) g ts ?_ fun v H' e x => ret v H' e (Mn.mono (fun _ z => z.2) x)
  refine ty_call1 (ι := List Rat) (R1 := Fr NoM H (LO (IQ K) cs)) cs ?_ (fun _ _ h => fr_tr h) ⟨ok.ne, by omega, by rw [ok.last]; decide⟩
  refine ty_lc cs (ti_tup (0 : Rat) (K := K) (Pc := IQ K) (xs := cs) (R := An NoM (TO' K (IQ K) cs)) (ty_var rfl) (fun _ _ h => h) (by decide)) rfl (by omega) fun B i c hc gB => ?_
  rw [← mul_one_list cs i c hc]
  refine ty_fr (ty_times ?_ (ty_var (i := 1) rfl) ?_ sm_one)
  · exact ty_conv (ty_var (i := 2) rfl) fun _ _ h => h
  · exact ok.sm _ (at0_mem (List.getElem?_eq_some_iff.mp hc).1)
theorem has_monic (T : Tx K mg) : Has P w K mg base 5 "monic" ["poly"] (spPoly K) := by
  have h_scaled := has_scaled (P := P) (w := w) (base := base) T
  have h_over := has_over (P := P) (w := w) (base := base) T
  refine has1 T.d_monic sc_monic (fun _ _ _ _ _ _ us hl => match us, hl with | [_], _ => rfl) fun f cdv A outer s H E hr => ⟨_,
    (pss_one (ps_ret (pe_ifExp (pt_cmpR (eqDK (K := K) hr.units) (pv 0) (pe_tup pa_nil) (nomark _)) (pv 0) (pe_has h_scaled (hr.mono (by decide)) (pa_cons (pv 0) (pa_cons (pe_has h_over (hr.mono (by decide)) (pa_cons (pe_gc T.g_ONE) (pa_cons (pe_ix (ix_seqK (K := K)) (pv 0) (pe_un un_neg pe_int) (fun _ _ => rfl)) pa_nil))) pa_nil)))))), ?_⟩
  intro cs v1 Q h1 ok ret
  have g : Good H NoM H := .start H
  have ts : Tsl [some (An NoM (TO' K (IQ K) cs))] (start ["poly"] [v1]) H := wip_cons (Mn.mono (fun _ _ z => z) h1) nil_ts
  have hne : cs ≠ [] := fun z => by have := ok.ne; rw [z] at this; simp at this
  refine st_ret (R := An NoM (TO' K (IQ K) cs)) g ts (ty_if (tt_test (ty_eqTQ0 (R := An NoM (TO' K (IQ K) cs)) (ty_var rfl) (fun _ _ h => an_tr h) ok.le)) (fun hb => absurd (of_decide_eq_true hb) hne) fun _ => ?_) fun v H' e x => ret v H' e x
  refine ty_conv (R := Fr NoM H (TO' K (IQ K) cs)) (ty_call2 (ι := List Rat) (R1 := An NoM (TO' K (IQ K) cs)) (R2' := Qs NoM K 1) cs (ty_var rfl) ?_ (fun _ _ h => an_tr h) (fun _ _ h => h) ok) fun _ _ h => fr_an h
  have e1 : (1 : Rat) / ((1 : Nat) : Rat) = 1 := by decide +kernel
  refine ty_conv (ty_call2 (ι := Rat × Nat) (R1 := Qs NoM K 1) (R2' := Qs NoM K 1) ((1 : Rat), 1) (ty_one T) ?_ (fun _ _ h => h) (fun _ _ h => h) ⟨sm_one, by decide, Nat.one_lt_two_pow (by decide)⟩) fun _ _ h => by
    dsimp only at h
    rw [e1] at h
    exact h
  refine ty_ixTn (R := An NoM (TO' K (IQ K) cs)) (i := -1) (1 : Rat) (Qs NoM K 1) (ty_var rfl) (fun _ _ h => h) (ty_un ty_c) ?_ fun _ _ h => h
  rw [at_last (0 : Rat) ok.ne]
  exact congrArg some ok.last
theorem has_need_size (T : Tx K mg) : Has P w K mg base 1 "need_size" ["size"] spNsz := by
  refine has1 T.d_need_size sc_need_size (fun _ _ _ _ _ _ us hl => match us, hl with | [_], _ => rfl) fun f cdv A outer s H E hr => ⟨_,
    (pss_one (ps_if (pt_cmpR op_gt (pv 0) (pe_gc T.g_MAX_SIZE) (nomark _)) (pss_one ps_never) pss_nil)), ?_⟩
  intro n v1 Q h1 hn ret
  have g : Good H NoM H := .start H
  have ts : Tsl [some (Iv NoM (.int (n : Int)))] (start ["size"] [v1]) H := wip_cons h1 nil_ts
  refine st_if1 g ts (tt_test (ty_i0 (ty_var rfl) ty_c)) (fun hb H' e _ _ => ?_) fun _ H' e _ _ => ret _ H' e rfl
  have := of_decide_eq_true hb
  omega
theorem has_common_denominator (T : Tx K mg) : Has P w K mg base 2 "common_denominator" ["parts"] (spLcd K) := by
  have h_common_divisor := has_common_divisor (P := P) (w := w) (base := base) T
  refine has1 T.d_common_denominator sc_common_denominator (fun _ _ _ _ _ _ us hl => match us, hl with | [_], _ => rfl) fun f cdv A outer s H E hr => ⟨_,
    (pss_cons (ps_set (i := 1) sc_common_denominator.nd rfl (Or.inl rfl) pe_int)
      (pss_cons (ps_for PassesOwn.never rfl (pi_tupK (K := K) (pv 0)) (pg_name (i := 2) sc_common_denominator.nd rfl (Or.inl rfl)) (pss_one (ps_set (i := 1) sc_common_denominator.nd rfl (Or.inl rfl) (pe_op op_mulW (pe_op op_fdivW (pv 1) (pe_has h_common_divisor (hr.mono (by decide)) (pa_cons (pv 1) (pa_cons (pe_ix (ix_seqK (K := K)) (pv 2) pe_int (fun _ _ => rfl)) pa_nil)))) (pe_ix (ix_seqK (K := K)) (pv 2) pe_int (fun _ _ => rfl))))))
      (pss_one (ps_ret (pv 1))))), ?_⟩
  intro cs v1 Q h1 ok ret
  have g : Good H NoM H := .start H
  have ts : Tsl [some (An NoM (TO' K (IQ K) cs)), none, none] (start ["parts", "found", "part"] [v1]) H := wip_cons (Mn.mono (fun _ _ z => z) h1) (non_cons (non_cons nil_ts))
  refine st_set (Iv NoM (.int (lcTo cs 0 : Int))) g ts ty_c fun σ2 H2 e2 g2 t2 => ?_
  refine st_forTQ (cs := cs) g2 t2 (ty_var rfl) (fun _ _ h => an_tr h) (fun i => [some (An NoM (TO' K (IQ K) cs)), some (Iv NoM (.int (lcTo cs i : Int))), none]) (fun _ _ t => t) (fun B i σ3 H3 hi gB g3 t3 D' hD cont => ?_) fun σ3 H3 g3 t3 => ?_
  · have hb := ok.lc i (by omega)
    have hsm := ok.sm _ (at0_mem hi)
    have hp := lcTo_pos cs i
    have hg0 : 0 < Nat.gcd (lcTo cs i) (at0 cs i).den := Nat.gcd_pos_of_pos_left _ hp
    have hg1 : Nat.gcd (lcTo cs i) (at0 cs i).den ≤ lcTo cs i := Nat.gcd_le_left _ hp
    have hq : lcTo cs i / Nat.gcd (lcTo cs i) (at0 cs i).den ≤ lcTo cs i := Nat.div_le_self ..
    refine st_set1 (Iv NoM (.int (lcTo cs (i + 1) : Int))) g3 t3 ?_ fun σ4 H4 e4 g4 t4 => cont σ4 H4 g4 (Tsl.to t4 ⟨.inr rfl, .inr rfl, .inl rfl, trivial⟩)
    refine ty_int (ty_i (ty_i (ty_var rfl) (ty_int (j := ((Nat.gcd (lcTo cs i) (at0 cs i).den : Nat) : Int)) (ty_gcd (ty_var (i := 1) rfl) (ty_den1 (ty_var (i := 2) rfl))) rfl) ?_) (ty_den1 (ty_var (i := 2) rfl)) ?_) ?_
    · exact wide_div (b := 4000) (by omega) (by rw [Int.natAbs_natCast]; omega) (by decide) (by decide)
    · refine wide_mul (a := 4000) (b := 4400) ?_ ?_ (by decide) (by decide) (by decide)
      · rw [← Int.natCast_ediv, Int.natAbs_natCast]; omega
      · rw [Int.natAbs_natCast]; exact hsm.2
    · rw [← Int.natCast_ediv, ← Int.natCast_mul]
      rfl
  · exact st_ret g3 t3 (ty_var (i := 1) rfl) fun v H' e x => ret v H' (g3.up e).ex0 x
end
end My
end
section
set_option Elab.async false
set_option linter.all false
set_option maxRecDepth 100000
set_option maxHeartbeats 2000000
set_option exponentiation.threshold 100000
namespace My
open PySem PySem.Spec PyProof.Rows L2 Evl
open Mi (at0)
abbrev BI : Bool → VP := fun b => IV (.bl b)
theorem pr_bl {S : Addr → Prop} {H : Hp} : ∀ {bs : List Bool} {vs : List V}, Paired (fun b x => BI b S H x) bs vs → vs = bs.map V.bl
  | [], _, .nil => rfl
  | b :: bs, _, .cons r t => by
    have r : _ = V.bl b := r
    rw [r, pr_bl t]
    rfl
section
variable {M : Addr → Prop} {H0 : Hp} {K : PySem.W.Frag} {ps : List (Option (SV M))} {ta tb te : TE} {E : XK} {R R1 R' : SV M}
theorem ty_any {bs : List Bool} (h : Ty H0 M ps ta R) (hR : ∀ H v, R.R H v → LO BI bs Tr H v) : Ty H0 M ps (tCB (rAny K) (tCons ta tNil)) (Iv M (.bl (bs.any id))) :=
  ty_cb (ta_cons h ta_nil) fun H vs Q g p q => by
    cases p with
    | cons r1 t1 =>
      cases t1
      obtain ⟨a, xs, rfl, _, h1, p1⟩ := hR _ _ r1
      rw [pr_bl p1] at h1
      exact ⟨a, bs, rfl, SqL.of h1, q _ H (Ex.refl H) rfl⟩
theorem ty_all {bs : List Bool} (h : Ty H0 M ps ta R) (hR : ∀ H v, R.R H v → LO BI bs Tr H v) : Ty H0 M ps (tCB (rAll K) (tCons ta tNil)) (Iv M (.bl (bs.all id))) :=
  ty_cb (ta_cons h ta_nil) fun H vs Q g p q => by
    cases p with
    | cons r1 t1 =>
      cases t1
      obtain ⟨a, xs, rfl, _, h1, p1⟩ := hR _ _ r1
      rw [pr_bl p1] at h1
      exact ⟨a, bs, rfl, SqL.of h1, q _ H (Ex.refl H) rfl⟩
theorem ty_abs {i : Int} (h : Ty H0 M ps ta (Iv M (.int i))) : Ty H0 M ps (tCB (fun xs H Q => ∃ i, xs = [.int i] ∧ Q (.int (if i < 0 then -i else i)) H) (tCons ta tNil)) (Iv M (.int (i.natAbs : Int))) := by
  refine ty_int (ty_cb1 (z := .int (if i < 0 then -i else i)) h fun H Q q => ⟨i, rfl, q⟩) (abs_nat i)
end
section
variable {P : Program} {w : World} {K : PySem.W.Frag} {mg : Str → Option Value} {base : Heap}
theorem has_need_digits (T : Tx K mg) : Has P w K mg base 3 "need_digits" ["poly"] (spNdg K) := by
  have h_common_denominator := has_common_denominator (P := P) (w := w) (base := base) T
  refine has1 T.d_need_digits sc_need_digits (fun _ _ _ _ _ _ us hl => match us, hl with | [_], _ => rfl) fun f cdv A outer s H E hr => ⟨_,
    (pss_cons (ps_set (i := 1) sc_need_digits.nd rfl (Or.inr rfl) (pe_has h_common_denominator (hr.mono (by decide)) (pa_cons (pv 0) pa_nil)))
      (pss_one (ps_if (pt_val (pe_callB (anyK (K := K) rfl) (by rfl) T.b_any (by decide +kernel) (pa_cons (pe_lc (own := [("part", 2)]) rfl sc_need_digits.nd (pi_tupK (K := K) (pv 0)) (blkOk_by (by kernel_rfl)) (fun _ _ _ _ _ => (pg_name (i := 2) sc_need_digits.nd rfl (Or.inl rfl))) (fun _ _ _ _ _ => pts_nil) (fun _ _ _ _ _ => (pe_cmpR op_ge (pe_op op_mulW (pe_callB call_abs (by rfl) T.b_abs (by decide +kernel) (pa_cons (pe_ix (ix_seqK (K := K)) (pv 2) pe_int (fun _ _ => rfl)) pa_nil)) (pe_op op_fdivW (pv 1) (pe_ix (ix_seqK (K := K)) (pv 2) pe_int (fun _ _ => rfl)))) (pe_gc T.g_WALL) (nomark _)))) pa_nil))) (pss_one ps_never) pss_nil))), ?_⟩
  intro cs v1 Q h1 ok ret
  have g : Good H NoM H := .start H
  have ts : Tsl [some (An NoM (TO' K (IQ K) cs)), none, none] (start ["poly", "shared", "part"] [v1]) H := wip_cons (Mn.mono (fun _ _ z => z) h1) (non_cons (non_cons nil_ts))
  have hle := ok.le
  refine st_set (Iv NoM (.int (lcTo cs cs.length : Int))) g ts (ty_conv (ty_call1 (ι := List Rat) (R1 := An NoM (TO' K (IQ K) cs)) cs (ty_var rfl) (fun _ _ h => an_tr h) ok) fun _ _ h => h) fun σ2 H2 e2 g2 t2 => ?_
  refine st_if1 g2 t2 (tt_is (tt_B (ty_any (bs := cs.map fun _ => false) (R := Fr NoM H (LO BI (cs.map fun _ => false))) ?_ fun _ _ h => fr_tr h)) (c := false) ?_) (fun hb H' e _ _ => by cases hb) fun _ H' e _ _ => ret _ H' (g2.up e).ex0 rfl
  · refine ty_lc (cs.map fun _ => false) (ti_tup (0 : Rat) (K := K) (Pc := IQ K) (xs := cs) (R := An NoM (TO' K (IQ K) cs)) (ty_var rfl) (fun _ _ h => h) (by decide)) (by rw [List.length_map]) (by omega) fun B i c hc gB => ?_
    obtain ⟨hi, rfl⟩ := map_at (0 : Rat) hc
    have hd := ok.dg i hi
    have hsm := ok.sm _ (at0_mem hi)
    have hlc := ok.lc cs.length (Nat.le_refl _)
    have hdp : 0 < (at0 cs i).den := Nat.pos_of_ne_zero (at0 cs i).den_nz
    have tv : ∀ B' : Hp, Ty B' NoM [some (An NoM (TO' K (IQ K) cs)), some (Iv NoM (.int (lcTo cs cs.length : Int))), some (An NoM (IQ K (cs.getD i 0)))] (tVar 2) (Qs NoM K (at0 cs i)) := fun B' => ty_conv (ty_var (i := 2) rfl) fun _ _ h => h
    refine ty_conv (R := Iv NoM (.bl (decide ((10 ^ 100 : Int) ≤ (at0 cs i).num.natAbs * ((lcTo cs cs.length : Int) / (at0 cs i).den))))) ?_ fun H v h => ?_
    · refine ty_i0 (ty_i (ty_abs (ty_num0 (tv _))) (ty_i (ty_var (i := 1) rfl) (ty_den1 (tv _)) ?_) ?_) ty_c
      · exact wide_div (b := 4400) (by omega) (by rw [Int.natAbs_natCast]; exact hsm.2) (by decide) (by decide)
      · refine wide_mul (a := 20000) (b := 4000) ?_ ?_ (by decide) (by decide) (by decide)
        · rw [Int.natAbs_natCast]; exact hsm.1
        · rw [← Int.natCast_ediv, Int.natAbs_natCast]
          exact Nat.lt_of_le_of_lt (Nat.div_le_self _ _) hlc
    · have e : decide ((10 ^ 100 : Int) ≤ (at0 cs i).num.natAbs * ((lcTo cs cs.length : Int) / (at0 cs i).den)) = false := by
        refine decide_eq_false ?_
        rw [← Int.natCast_ediv, ← Int.natCast_mul]
        have e2 : (10 ^ 100 : Int) = ((10 ^ 100 : Nat) : Int) := by decide +kernel
        rw [e2]
        omega
      have h : v = .bl _ := h
      rw [e] at h
      exact h
  · rw [List.any_map]
    induction cs with
    | nil => rfl
    | cons _ _ _ => simp
theorem has_checked (T : Tx K mg) : Has P w K mg base 6 "checked" ["parts"] (spPoly K) := by
  have h_polynomial := has_polynomial (P := P) (w := w) (base := base) T
  have h_need_size := has_need_size (P := P) (w := w) (base := base) T
  have h_monic := has_monic (P := P) (w := w) (base := base) T
  have h_need_digits := has_need_digits (P := P) (w := w) (base := base) T
  refine has1 T.d_checked sc_checked (fun _ _ _ _ _ _ us hl => match us, hl with | [_], _ => rfl) fun f cdv A outer s H E hr => ⟨_,
    (pss_cons (ps_set (i := 1) sc_checked.nd rfl (Or.inl rfl) (pe_has h_polynomial (hr.mono (by decide)) (pa_cons (pv 0) pa_nil)))
      (pss_cons (ps_if (pt_cmpR (eqDK (K := K) hr.units) (pv 1) (pe_tup pa_nil) (nomark _)) (pss_one ps_never) pss_nil)
      (pss_cons (ps_expr (pe_has h_need_size (hr.mono (by decide)) (pa_cons (pe_op op_sub (pe_callB (len_seqK (K := K)) (by rfl) T.b_len (by decide +kernel) (pa_cons (pv 1) pa_nil)) pe_int) pa_nil)))
      (pss_cons (ps_set (i := 2) sc_checked.nd rfl (Or.inl rfl) (pe_has h_monic (hr.mono (by decide)) (pa_cons (pv 1) pa_nil)))
      (pss_cons (ps_expr (pe_has h_need_digits (hr.mono (by decide)) (pa_cons (pv 2) pa_nil)))
      (pss_one (ps_ret (pv 2)))))))), ?_⟩
  intro cs v1 Q h1 ok ret
  have g : Good H NoM H := .start H
  have ts : Tsl [some (An NoM (TO' K (IQ K) cs)), none, none] (start ["parts", "poly", "found"] [v1]) H := wip_cons (Mn.mono (fun _ _ z => z) h1) (non_cons (non_cons nil_ts))
  have hle := ok.le
  have hne : cs ≠ [] := fun z => by have := ok.ne; rw [z] at this; simp at this
  refine st_set (Fr NoM H (TO' K (IQ K) cs)) g ts (ty_call1 (ι := List Rat) (R1 := An NoM (TO' K (IQ K) cs)) cs (ty_var rfl) (fun _ _ h => an_tr h) ok) fun σ2 H2 e2 g2 t2 => ?_
  refine st_when g2 t2 (tt_test (ty_eqTQ0 (R := Fr NoM H (TO' K (IQ K) cs)) (ty_var rfl) (fun _ _ h => fr_tr h) ok.le)) (fun hb => absurd (of_decide_eq_true hb) hne) fun _ H3 e3 g3 t3 => ?_
  refine st_drop (Fr NoM H (IV .non)) g3 t3 (ty_call1 (ι := Nat) (R1 := Iv NoM (.int ((cs.length - 1 : Nat) : Int))) (cs.length - 1) (ty_int (ty_i0 (ty_lenT (R := Fr NoM H (TO' K (IQ K) cs)) (ty_var rfl) fun _ _ h => fr_tr h) ty_c) (by have := ok.ne; omega)) (fun _ _ h => h) (by omega)) fun H4 e4 g4 t4 => ?_
  refine st_set (Fr NoM H (TO' K (IQ K) cs)) g4 t4 (ty_call1 (ι := List Rat) (R1 := Fr NoM H (TO' K (IQ K) cs)) cs (ty_var rfl) (fun _ _ h => fr_tr h) ok) fun σ5 H5 e5 g5 t5 => ?_
  refine st_drop (Fr NoM H (IV .non)) g5 t5 (ty_call1 (ι := List Rat) (R1 := Fr NoM H (TO' K (IQ K) cs)) cs (ty_var rfl) (fun _ _ h => fr_tr h) ok) fun H6 e6 g6 t6 => ?_
  exact st_ret (R := Fr NoM H (TO' K (IQ K) cs)) g6 t6 (ty_var (i := 2) rfl) fun v H' e x => ret v H' (g6.up e).ex0 (Mn.mono (fun _ z => z.2) x)
end
end My
end
section
set_option Elab.async false
set_option linter.all false
set_option maxRecDepth 100000
set_option maxHeartbeats 2000000
namespace My
open PySem PySem.Spec PyProof.Rows L2 Evl
open Mi (at0)
abbrev bC (K : PySem.W.Frag) : Addr := He.ga K "Bag"
abbrev bM (K : PySem.W.Frag) (m : Str) : Addr := He.ma K (bC K) m
/-- the def within the classmethod's record -/
def ofA (K : PySem.W.Frag) : Addr := match PySem.W.recIn K (bM K "of") "classmethod" with
  | some (.ref g :: _) => g
  | _ => 0
/-- the class Bag behind the top -/
structure Bx (K : PySem.W.Frag) (mg : Str → Option Value) : Prop where
  gl : mg "Bag" = some (.ref (bC K))
  cls : Cls K (bC K)
  noat : NoAttr K (bC K) "poly"
  mkr : Mk K (bC K) (bM K "__init__")
  f_init : ∃ fd, FunD K "__init__" "Bag.__init__" (defArgs s_Bag_init) (defBody s_Bag_init) (defScope s_Bag_init) [] [] (bM K "__init__") fd
  m_len : Meth K (bC K) "__len__" (bM K "__len__")
  f_len : ∃ fd, FunD K "__len__" "Bag.__len__" (defArgs s_Bag_len) (defBody s_Bag_len) (defScope s_Bag_len) [] [] (bM K "__len__") fd
  m_co : Meth K (bC K) "coefficients" (bM K "coefficients")
  f_co : ∃ fd, FunD K "coefficients" "Bag.coefficients" (defArgs s_Bag_coefficients) (defBody s_Bag_coefficients) (defScope s_Bag_coefficients) [] [] (bM K "coefficients") fd
  r_of : ClX.CRead K (bC K) (.type "type")
  c_of : ClX.CMet K (bC K) (.type "type") "of" (bM K "of") (ofA K)
  f_of : ∃ fd, FunD K "of" "Bag.of" (defArgs s_Bag_of) (defBody s_Bag_of) (defScope s_Bag_of) [] [] (ofA K) fd
/-- a bag of the polynomial cs -/
def BG (K : PySem.W.Frag) (cs : List Rat) : VP := fun S H v => ∃ x dx t, v = .ref x ∧ H x = some (.ins (bC K) dx [("poly", t)]) ∧ TO' K (IQ K) cs S H t
instance (K : PySem.W.Frag) (cs : List Rat) : Mn (BG K cs) := ⟨fun s k ⟨x, dx, t, e, h, p⟩ => ⟨x, dx, t, e, k x _ h (fun ⟨_, z⟩ => nomatch z), Mn.up (P := TO' K (IQ K) cs) s k p⟩, fun ⟨x, dx, t, e, h, p⟩ => ⟨x, dx, t, e, h, Mn.tr (P := TO' K (IQ K) cs) p⟩⟩
structure HasM (P : Program) (w : World) (K : PySem.W.Frag) (mg : Str → Option Value) (base : Heap) (k : Nat) (f : Addr) (ps : List Str) (sp : Sp) : Prop where
  ex : ∃ fd, FnOk P w K mg base CX0 k f fd ps sp ∧ Binds K fd ps []
theorem HasM.mono {P : Program} {w : World} {K : PySem.W.Frag} {mg : Str → Option Value} {base : Heap} {j k : Nat} {f : Addr} {ps : List Str} {sp : Sp} (h : HasM P w K mg base j f ps sp) (l : j ≤ k) : HasM P w K mg base k f ps sp := by
  obtain ⟨fd, a, b⟩ := h.ex
  exact ⟨fd, a.mono l, b⟩
section
variable {P : Program} {w : World} {K : PySem.W.Frag} {mg : Str → Option Value} {base : Heap} {k : Nat} {x q : Str} {ps N : List Str} {sp : Sp} {st : Stmt} {f : Addr}
theorem hasM_of (d : ∃ fd, FunD K x q (defArgs st) (defBody st) (defScope st) [] [] f fd) (S : FnScope N ps (defScope st)) (len : ∀ vs H Q E, sp vs H Q E → vs.length = ps.length)
    (hb : ∀ (kV doc pm : Value) (an : Option Addr) (cdv ct : Value) (us : List Value), us.length = ps.length → bindArgs (PySem.W.fnOf x q (defArgs st) (defBody st) (defScope st) .none kV doc pm an cdv ct) ⟨us, []⟩ = pure (ps.zip us))
    (hbody : ∀ (cdv : Value) (A : Around) (outer : List Env) (s : Shared) (H : Hp) (vs : List V) (Q : VK) (E : XK), Room k (A.deeper (envOfC q (defScope st) s.heap.objs.size f cdv)) → sp vs H Q E →
      ∃ t, PSs (cxOf CX0 P w K mg base N q (defScope st) f cdv A outer s H E).nox (defBody st) t ∧ t { nx := fun _ H' => Q .non H', rt := Q } (start N vs) H) : HasM P w K mg base (k + 1) f ps sp := by
  obtain ⟨fd, F⟩ := d
  refine ⟨fd, F.ok S len fun cdv A outer s H vs Q E hr h => ?_, F.bindsN hb⟩
  obtain ⟨t, p, q⟩ := hbody cdv A outer s H vs Q E hr h
  exact ⟨t, p.nox, q⟩
end
theorem pe_fldK {X : Cx} {K : PySem.W.Frag} {o : Expr} {f : Str} {pos : Pos} {ta : TE} (he : PE X o ta) (hb : attributeBase o f X.env (eval o X.env) = eval o X.env := by rfl) (h : X.K = K := by rfl) : PE X (.Attribute o f pos) (tFld K ta f) := h ▸ pe_fld he hb
theorem ps_fldK {X : Cx} {K : PySem.W.Frag} {o value : Expr} {f : Str} {pos pos' : Pos} {ta tv : TE} (ha : PE X o ta) (hv : PE X value tv) (hs : swapsWith value (some (.Attribute o f pos')) pos.line X.env = pure false := by rfl) (h : X.K = K := by rfl) : PS X (.Assign [.Attribute o f pos'] value pos) (sFld K ta tv f) := h ▸ ps_fld ha hv hs
section
variable {H0 : Hp} {K : PySem.W.Frag} {mg : Str → Option Value} {ps : List (Option (SV NoM))} {ta tb te : TE} {E : XK} {R R1 R' : SV NoM} {cs : List Rat}
theorem ty_poly (B : Bx K mg) (h : Ty H0 NoM ps ta R) (hR : ∀ H v, R.R H v → BG K cs Tr H v) : Ty H0 NoM ps (tFld K ta "poly") (An NoM (TO' K (IQ K) cs)) := fun σ H g t Q q =>
  h σ H g t _ fun v H2 e2 r => by
    obtain ⟨x, dx, t', rfl, hx, p⟩ := hR _ _ r
    exact ⟨x, _, dx, _, t', rfl, hx, B.cls, B.noat, rfl, q _ H2 e2 (Mn.mono (P := TO' K (IQ K) cs) (fun _ _ m => m) p)⟩
end
abbrev spInit (K : PySem.W.Frag) : Sp := fun vs H Q _ => ∃ cs x dx v, vs = [.ref x, v] ∧ H x = some (.ins (bC K) dx []) ∧ TO' K (IQ K) cs Tr H v ∧ BagOk cs ∧
  ∀ H' t, Ex H H' → H' x = some (.ins (bC K) dx []) → TO' K (IQ K) cs Tr H' t → Q .non (upd H' x (.ins (bC K) dx [("poly", t)]))
abbrev spBlen (K : PySem.W.Frag) : Sp := Sp1 (ι := List Rat) (fun i => BG K i) (fun i => 0 < i.length ∧ i.length ≤ 1000) (fun i => IV (.int ((i.length - 1 : Nat) : Int)))
abbrev spBco (K : PySem.W.Frag) : Sp := Sp1 (ι := List Rat) (fun i => BG K i) (fun _ => True) (fun i => LO (IQ K) i)
theorem len_sp1 {ι : Type} {P1 W : ι → VP} {ok : ι → Prop} (vs : List V) (H : Hp) (Q : VK) (E : XK) (h : Sp1 P1 ok W vs H Q E) : vs.length = 1 := by
  obtain ⟨_, _, rfl, _⟩ := h; rfl
theorem ty_slT {M : Addr → Prop} {H0 : Hp} {K : PySem.W.Frag} {ps : List (Option (SV M))} {te : TE} {R : SV M} {β : Type} {Pb : β → VP} [∀ b, Mn (Pb b)] {l : List β} {tl th : TO} {lo hi : Option Int} (h : Ty H0 M ps te R) (hR : ∀ H v, R.R H v → TO' K Pb l (fun a => ¬ M a) H v) (h1 : TyO H0 M ps tl lo) (h2 : TyO H0 M ps th hi) : Ty H0 M ps (tSl (rSlA K) te tl th) (An M (TO' K Pb (cutL l lo hi))) := fun σ H g t Q q =>
  h σ H g t _ fun v H2 e2 r => h1 σ H2 (g.up e2) (t.up e2) _ fun H3 e3 => h2 σ H3 ((g.up e2).up e3) ((t.up e2).up e3) _ fun H4 e4 => by
    obtain ⟨a, vs, rfl, hA, p⟩ := hR _ _ (R.st (.ofEx (e3.trans e4)) r)
    have hlen := pr_len p
    refine ⟨a, vs, rfl, hA, fun z => ?_, fun _ b hb => ?_⟩
    · have e : cutL l lo hi = l := by
        unfold cutL
        rw [hlen, z.1, z.2, ← hlen]
        simp
      rw [e] at q
      exact q _ H4 (e2.trans (e3.trans e4)) ⟨a, vs, rfl, hA, p⟩
    · refine q _ _ ((e2.trans (e3.trans e4)).trans (Ex.new hb)) ⟨b, _, rfl, SqT.of upd_same, ?_⟩
      refine Paired.mapR (F := fun b x => Pb b (fun a => ¬ M a) H4 x) ?_ fun c x k => Mn.ex (Ex.new hb) k
      unfold cutV cutL
      rw [← hlen]
      exact pr_take _ (pr_drop _ p)
section
variable {P : Program} {w : World} {K : PySem.W.Frag} {mg : Str → Option Value} {base : Heap}
theorem has_init (T : Tx K mg) (B : Bx K mg) : HasM P w K mg base 7 (bM K "__init__") ["self", "parts"] (spInit K) := by
  have h_checked := has_checked (P := P) (w := w) (base := base) T
  refine hasM_of B.f_init sc_Bag_init (fun vs H Q E h => by obtain ⟨_, _, _, _, rfl, _⟩ := h; rfl) (fun _ _ _ _ _ _ us hl => match us, hl with | [_, _], _ => rfl) fun cdv A outer s H vs Q E hr h => ⟨_,
    (pss_one (ps_fldK (K := K) (pv 0) (pe_has h_checked (hr.mono (by decide)) (pa_cons (pv 1) pa_nil)))), ?_⟩
  obtain ⟨cs, x, dx, v, rfl, hx, hv, ok, ret⟩ := h
  have g : Good H NoM H := .start H
  have ts : Tsl [some (Iv NoM (.ref x)), some (An NoM (TO' K (IQ K) cs))] (start ["self", "parts"] [.ref x, v]) H := wip_cons rfl (wip_cons (Mn.mono (P := TO' K (IQ K) cs) (fun _ _ z => z) hv) nil_ts)
  refine (ty_call1 (H0 := H) (ι := List Rat) (R1 := An NoM (TO' K (IQ K) cs)) cs (ty_var (i := 1) rfl) (fun _ _ h => an_tr h) ok) _ H g ts _ fun t H2 e2 r2 => ?_
  have hx2 := e2 x _ hx
  exact ⟨.ref x, rfl, x, bC K, dx, [], rfl, hx2, B.cls, B.noat, by decide, ret H2 t e2 hx2 (fr_tr r2)⟩
theorem has_blen (T : Tx K mg) (B : Bx K mg) : HasM P w K mg base 1 (bM K "__len__") ["self"] (spBlen K) := by
  refine hasM_of B.f_len sc_Bag_len (len_sp1 ·) (fun _ _ _ _ _ _ us hl => match us, hl with | [_], _ => rfl) fun cdv A outer s H vs Q E hr h => ⟨_,
    (pss_one (ps_ret (pe_callB (len_seqK (K := K)) (by rfl) T.b_len (by decide +kernel) (pa_cons (pe_slice (sl_tupAK (K := K)) (pe_fldK (K := K) (pv 0)) (po_some pe_int) po_none) pa_nil)))), ?_⟩
  obtain ⟨cs, v1, rfl, h1, ⟨h0, hl⟩, ret⟩ := h
  have g : Good H NoM H := .start H
  have ts : Tsl [some (An NoM (BG K cs))] (start ["self"] [v1]) H := wip_cons (Mn.mono (P := BG K cs) (fun _ _ z => z) h1) nil_ts
  refine st_ret (R := Iv NoM (.int ((cs.length - 1 : Nat) : Int))) g ts ?_ fun v H' e x => ret v H' e x
  have z := cut_drop cs 1
  refine ty_int (ty_lenT (R := An NoM (TO' K (IQ K) (cutL cs (some ((1 : Nat) : Int)) none))) (l := cutL cs (some ((1 : Nat) : Int)) none) ?_ fun _ _ h => an_tr h) (by rw [z, List.length_drop])
  refine ty_slT (lo := some ((1 : Nat) : Int)) (ty_poly B (R := An NoM (BG K cs)) (ty_var rfl) fun _ _ h => an_tr h) (fun _ _ h => h) (to_some ?_) to_none
  exact ty_c
theorem has_bco (T : Tx K mg) (B : Bx K mg) : HasM P w K mg base 1 (bM K "coefficients") ["self"] (spBco K) := by
  refine hasM_of B.f_co sc_Bag_coefficients (len_sp1 ·) (fun _ _ _ _ _ _ us hl => match us, hl with | [_], _ => rfl) fun cdv A outer s H vs Q E hr h => ⟨_,
    (pss_one (ps_ret (pe_callTy (list_ofK (K := K)) (by rfl) T.b_list (by decide +kernel) (pa_cons (pe_fldK (K := K) (pv 0)) pa_nil)))), ?_⟩
  obtain ⟨cs, v1, rfl, h1, _, ret⟩ := h
  have g : Good H NoM H := .start H
  have ts : Tsl [some (An NoM (BG K cs))] (start ["self"] [v1]) H := wip_cons (Mn.mono (P := BG K cs) (fun _ _ z => z) h1) nil_ts
  refine st_ret (R := Fr NoM H (LO (IQ K) cs)) g ts ?_ fun v H' e x => ret v H' e (Mn.mono (fun _ z => z.2) x)
  exact ty_listT (R := An NoM (TO' K (IQ K) cs)) (ty_poly B (R := An NoM (BG K cs)) (ty_var rfl) fun _ _ h => an_tr h) fun _ _ h => an_tr h
end
end My
end
section
set_option Elab.async false
set_option linter.all false
set_option maxRecDepth 100000
set_option maxHeartbeats 2000000
namespace My
open PySem PySem.Spec PyProof.Rows L2 Evl
open Mi (at0)
def rLenO (K : PySem.W.Frag) : List V → Hp → VK → Prop := fun xs H Q => ∃ a dx fs, xs = [.ref a] ∧ H a = some (.ins (bC K) dx fs) ∧ spBlen K [.ref a] H (fun v H' => ∃ n : Nat, v = .int (n : Int) ∧ n < 2 ^ 62 ∧ Q (.int (n : Int)) H') E0
/-- len of a bag -/
theorem call_lenO {X : Cx} {K : PySem.W.Frag} {mg : Str → Option Value} {k : Nat} (B : Bx K mg) (F : HasM X.prog X.w K X.mg X.base k (bM K "__len__") ["self"] (spBlen K)) (hr : Room (k + 1) X.A) (hK : X.K = K := by rfl) : CallR X (.builtin "len") (rLenO K) := by
  subst hK
  intro pins s σ H xs us Q I r h
  obtain ⟨a, dx, fs, rfl, ha, hsp⟩ := h
  obtain ⟨u, rfl, ru⟩ := vals1 r
  cases (show u = Value.ref a from ru)
  obtain ⟨fd, ok, bd⟩ := F.ex
  obtain ⟨mA, O, _, _, _, _⟩ := ins_get I.hok ha
  obtain ⟨od, J, _⟩ := O.look
  have room : Room k X.A.in1 := ⟨hr.hd, by have := hr.dp; show X.A.depth + 3 * k + 5 < _; omega, by have := hr.un; show X.A.units + 1 + 16 * k + 200 < _; omega⟩
  refine Calls.call_function_entry kind_len plain_len entry_len (args_len1 _) ?_
  unfold Builtin.«len»
  refine wpAny_bind (m := oneArg "len" _) (wpAny_pure ?_)
  refine wpAny_bind (m := callSpecial? (.ref a) (Str.ofString "__len__")) (PySem.W.special_fn I.kIn J B.m_len.at_ (beq_iff_eq.mp B.m_len.fn) ?_)
  refine wpAny_call (codeAny_mono (ok.run X.A.in1 X.stack s H ⟨[.ref a], []⟩ [.ref a] [.ref a] _ _ room I.env0.in1 (bd s [.ref a] I.kIn rfl) (.cons rfl .nil) hsp) fun fin t done => ?_)
  cases fin with
  | error e => exact done.elim
  | ok fl =>
    cases fl with
    | ret u =>
      obtain ⟨v, H', I', rv, n, rfl, hn, q⟩ := I.after done
      obtain ⟨tk, rfl⟩ := (show ∃ tk, u = Value.int (n : Int) tk from rv)
      refine wpAny_bind (wpAny_holding (wpAny_pure ?_))
      refine wpAny_bind (wpAny_letGo ?_)
      show wpAny _ _ (if (n : Int) < 0 then _ else _) _ _ _
      rw [if_neg (by omega)]
      show wpAny _ _ (if (n : Int) ≥ 2 ^ 63 then _ else _) _ _ _
      rw [if_neg (by omega)]
      exact wpAny_bind (wpAny_mkInt (wpAny_pure ⟨_, rfl, .int (n : Int), H', I'.tok _, ⟨_, rfl⟩, q⟩))
    | next => exact done.elim
    | brk => exact done.elim
    | cont => exact done.elim
end My
end
section
set_option Elab.async false
set_option linter.all false
set_option maxRecDepth 100000
set_option maxHeartbeats 2000000
namespace My
open PySem PySem.Spec PyProof.Rows L2 Evl
open Mi (at0)
theorem pe_never {X : Cx} {e : Expr} : PE X e (fun _ _ _ => False) := ⟨fun _ _ _ _ _ _ h => h.elim⟩
section
variable {X : Cx} {K : PySem.W.Frag} {k : Nat} {e o : Expr} {p pos apos : Pos} {t : TA} {ta : TE}
theorem pe_bag (B : Bx K X.mg) (F : HasM X.prog X.w K X.mg X.base k (bM K "__init__") ["self", "parts"] (spInit K)) (hr : Room (k + 1) X.A) (ha : PA X [e] t) (hg : Gl X "Bag" := by rfl) (hK : X.K = K := by rfl)
    (he : starEach [e] X.env = (false, eval e X.env) :: starEach [] X.env := by rfl) (hpl : (backTo pos (starEach [] X.env)).any (·.1) = false := by rfl) : PE X (.Call (.Name "Bag" p) [e] [] pos) (tMake (bC K) (spInit K) [] E0 t) := by
  subst hK
  obtain ⟨fd, ok, bd⟩ := F.ex
  exact pe_make B.mkr ok hr hg B.gl bd .nil pass0 ha (by decide) he hpl
/-- cls(e), cls a name of the def's own that holds Bag -/
theorem pe_clsL {i : Nat} {x : Str} (B : Bx K X.mg) (F : HasM X.prog X.w K X.mg X.base k (bM K "__init__") ["self", "parts"] (spInit K)) (hr : Room (k + 1) X.A) (hN : X.N[i]? = some x) (hv : Vis X.env.scope x) (ha : PA X [e] t)
    (hdb : (x == ("__debug__" : Str)) = false := by decide) (hcd : (x == ("__classdict__" : Str)) = false := by decide) (hK : X.K = K := by rfl)
    (he : starEach [e] X.env = (false, eval e X.env) :: starEach [] X.env := by rfl) (hpl : (backTo pos (starEach [] X.env)).any (·.1) = false := by rfl) : PE X (.Call (.Name x p) [e] [] pos) (fun σ H Q => σ[i]? = some (some (.ref (bC K))) ∧ tMake (bC K) (spInit K) [] E0 t σ H Q) := by
  subst hK
  obtain ⟨fd, ok, bd⟩ := F.ex
  refine ⟨fun pins s σ H Q I h => ?_⟩
  obtain ⟨hs, ht⟩ := h
  refine wpAny_Call_Name_kw (thn ((pe_var (pos := p) hN hv hdb hcd).run pins s σ H (fun v G => v = .ref (bC X.K) ∧ G = H) I ⟨_, hs, rfl, rfl⟩) fun u s1 ⟨v, G, I1, r1, q1⟩ => ?_)
  obtain ⟨rfl, rfl⟩ := q1
  cases r1
  refine PySem.W.callWith_K (h₀ := X.base) I.ok.mod.kin B.mkr.kp (thn (ha.run pos pins s1 σ _ _ I1 ht) fun us s2 ⟨vs, G2, I2, r, q⟩ => ⟨I2.kIn, ?_⟩) he hpl
  exact run_make B.mkr ok hr bd .nil pass0 I2 r q
theorem pe_co (B : Bx K X.mg) (F : HasM X.prog X.w K X.mg X.base k (bM K "coefficients") ["self"] (spBco K)) (hr : Room k X.A) (he : PE X o ta) (hK : X.K = K := by rfl)
    (ht : eval (.Call (.Attribute o "coefficients" apos) [] [] pos) X.env = (do
      let ov ← eval o X.env
      standAt apos.atName
      let (f, first) ← holding [ov] (getMethod ov "coefficients" (plainOf o X.env))
      callWith pos f first (backTo pos (starEach [] X.env)) (backToKw pos (keywordEach [] X.env))) := by rfl) : PE X (.Call (.Attribute o "coefficients" apos) [] [] pos) (tMeth (bC K) "coefficients" (spBco K) [] E0 ta tNil) := by
  subst hK
  obtain ⟨fd, ok, bd⟩ := F.ex
  exact pe_meth0 he B.cls B.m_co ok hr bd .nil pass0 ht
/-- Bag.of() -/
theorem pe_of {sp : Sp} (B : Bx K X.mg) (F : FnR X.prog X.w K X.mg X.base CX0 k (ofA K) sp) (hr : Room k X.A) (hg : Gl X "Bag" := by rfl) (hK : X.K = K := by rfl)
    (ht : eval (.Call (.Attribute (.Name "Bag" p) "of" apos) [] [] pos) X.env = (do
      let ov ← eval (.Name "Bag" p) X.env
      standAt apos.atName
      let (f, first) ← holding [ov] (getMethod ov "of" (plainOf (.Name "Bag" p) X.env))
      callWith pos f first (backTo pos (starEach [] X.env)) (backToKw pos (keywordEach [] X.env))) := by rfl) : PE X (.Call (.Attribute (.Name "Bag" p) "of" apos) [] [] pos) (fun σ H Q => sp [.ref (bC K)] H Q E0) := by
  subst hK
  refine ⟨fun pins s σ H Q I h => ?_⟩
  have pn : PE X (.Name "Bag" p) (tC (.ref (bC X.K))) := pe_glob hg B.gl rfl
  refine PySem.W.methodCall_KW (thn (pn.run pins s σ H (fun v G => v = .ref (bC X.K) ∧ G = H) I ⟨rfl, rfl⟩) fun u s1 ⟨v, G, I1, r1, q1⟩ => ?_) ht
  obtain ⟨rfl, rfl⟩ := q1
  cases (show u = Value.ref (bC X.K) from r1)
  refine ClX.getmethcm_ok I1 B.r_of B.c_of fun s2 I2 => ?_
  exact PySem.W.callWith_M0 (first := []) ⟨ClX.pin_at I2, I2.kIn⟩ B.c_of.fi (ClX.run_cm (us := []) (vs := []) F hr pass0 I2 .nil h)
end
theorem sqt_ins {K : PySem.W.Frag} {H : Hp} {x a C dx : Addr} {fs : List (Str × V)} {o : HO} {xs : List V} (hx : H x = some (.ins C dx fs)) (h : SqT K H a xs) : SqT K (upd H x o) a xs := by
  rcases h with (h | ⟨ob, h⟩) | h
  · exact .inl (.inl (by rw [upd_ne fun z => by rw [z, hx] at h; cases h]; exact h))
  · exact .inl (.inr ⟨ob, by rw [upd_ne fun z => by rw [z, hx] at h; cases h]; exact h⟩)
  · exact .inr h
theorem tq_ins {K : PySem.W.Frag} {H : Hp} {x C dx : Addr} {fs : List (Str × V)} {o : HO} {cs : List Rat} {v : V} (hx : H x = some (.ins C dx fs)) (h : TO' K (IQ K) cs Tr H v) : TO' K (IQ K) cs Tr (upd H x o) v := by
  obtain ⟨a, vs, e, h, p⟩ := h
  exact ⟨a, vs, e, sqt_ins hx h, Paired.mapR p fun b u ⟨c, e, q⟩ => ⟨c, e, sqt_ins hx q⟩⟩
section
variable {H0 : Hp} {K : PySem.W.Frag} {mg : Str → Option Value} {ps : List (Option (SV NoM))} {ta tb te : TE} {E : XK} {R R1 R' : SV NoM} {cs : List Rat}
theorem ty_bag (h : Ty H0 NoM ps te R) (hR : ∀ H v, R.R H v → TO' K (IQ K) cs Tr H v) (ok : BagOk cs) : Ty H0 NoM ps (tMake (bC K) (spInit K) [] E (tCons te tNil)) (An NoM (BG K cs)) := fun σ H g t Q q => by
  refine h σ H g t _ fun v H2 e2 r => ?_
  show ∀ x dx, H2 x = none → H2 dx = none → dx ≠ x → _
  intro x dx hx hd ne
  have hx' : upd H2 dx (.own x) x = none := by rw [upd_ne (Ne.symm ne)]; exact hx
  have e3 : Ex H2 (upd (upd H2 dx (.own x)) x (.ins (bC K) dx [])) := (Ex.new hd).trans (Ex.new hx')
  refine ⟨cs, x, dx, v, rfl, upd_same, Mn.ex (P := TO' K (IQ K) cs) e3 (hR _ _ r), ok, fun H' t' e4 hx4 ht => ⟨rfl, ?_⟩⟩
  exact q _ _ (e2.trans (Ex.mut (e3.trans e4) hx)) ⟨x, dx, t', rfl, upd_same, Mn.mono (P := TO' K (IQ K) cs) (fun _ _ m => m) (tq_ins hx4 ht)⟩
theorem ty_co (h : Ty H0 NoM ps ta R) (hR : ∀ H v, R.R H v → BG K cs Tr H v) : Ty H0 NoM ps (tMeth (bC K) "coefficients" (spBco K) [] E ta tNil) (Fr NoM H0 (LO (IQ K) cs)) := fun σ H g t Q q =>
  h σ H g t _ fun v H2 e2 r => by
    have rb := hR _ _ r
    obtain ⟨x, dx, t', rfl, hx, p⟩ := id rb
    exact ⟨x, dx, _, rfl, hx, rfl, cs, .ref x, rfl, rb, trivial, fun v' H' e' w => q v' H' (e2.trans e') (Mn.mono (fun _ z => (g.up e2).fresh z) w)⟩
theorem ty_blen (h : Ty H0 NoM ps ta R) (hR : ∀ H v, R.R H v → BG K cs Tr H v) (h0 : 0 < cs.length) (hl : cs.length ≤ 1000) : Ty H0 NoM ps (tCB (rLenO K) (tCons ta tNil)) (Iv NoM (.int ((cs.length - 1 : Nat) : Int))) :=
  ty_cb (ta_cons h ta_nil) fun H vs Q g p q => by
    cases p with
    | cons r1 t1 =>
      cases t1
      have rb := hR _ _ r1
      obtain ⟨x, dx, t', rfl, hx, p⟩ := id rb
      refine ⟨x, dx, _, rfl, hx, cs, .ref x, rfl, rb, ⟨h0, hl⟩, fun v H' e w => ⟨cs.length - 1, w, by omega, q _ H' e rfl⟩⟩
end
theorem ty_cls {i : Nat} {C : Addr} (h0 : ps[i]? = some (some (Iv NoM (.ref C)))) (h : Ty H0 NoM ps te R) : Ty H0 NoM ps (fun σ H Q => σ[i]? = some (some (.ref C)) ∧ te σ H Q) R := fun σ H g t Q q => by
  obtain ⟨v, ev, e⟩ := t.get h0
  have e : v = _ := e
  subst e
  exact ⟨ev, h σ H g t Q q⟩
/-- of() -/
abbrev spOf (K : PySem.W.Frag) : Sp := fun vs H Q _ => ∃ a, vs = [.ref (bC K), .ref a] ∧ H a = some (.tup []) ∧ Ret (BG K [1]) H Q
theorem bagOk_one : BagOk [1] := ⟨by decide, by decide, rfl, fun x hx => by rw [List.mem_singleton.mp hx]; exact sm_one, fun i hi => by
  have : i = 0 ∨ i = 1 := by have : i ≤ 1 := hi; omega
  rcases this with rfl | rfl
  · exact Nat.one_lt_two_pow (by decide)
  · exact Nat.one_lt_two_pow (by decide), fun i hi => by
  have : i = 0 := by have : i < 1 := hi; omega
  subst this
  decide +kernel⟩
section
variable {P : Program} {w : World} {K : PySem.W.Frag} {mg : Str → Option Value} {base : Heap}
theorem has_of' (T : Tx K mg) (B : Bx K mg) : FnR P w K mg base CX0 9 (ofA K) (fun vs H Q E => ∃ ws rest, vs = ws ++ rest ∧ ws.length = ["cls"].length ∧ rest.length ≤ sizeLine ∧ ∀ p, H p = Option.none → spOf K (ws ++ [V.ref p]) (upd H p (.tup rest)) Q E) := by
  have h_number := has_number (P := P) (w := w) (base := base) T
  have h_need_size := has_need_size (P := P) (w := w) (base := base) T
  have h_init := has_init (P := P) (w := w) (base := base) T B
  obtain ⟨fd, F⟩ := B.f_of
  obtain ⟨oc, od, dV, kV, doc, pm, an, cdv, ct, osl, rfl, lk, hcd, hD, hK⟩ := F.ex
  have hD : dV = .none := by
    rcases hD with ⟨_, e⟩ | ⟨e, _⟩
    · exact e
    · exact absurd rfl e
  subst hD
  refine StX.fn_star (ps := ["cls"]) (pv := "numbers") lk hcd sc_Bag_of StX.cxUp_none (fun us rest hl => StX.bind_star1 (B := fun l => bindArgs (PySem.W.fnOf "of" "Bag.of" (defArgs s_Bag_of) (defBody s_Bag_of) (defScope s_Bag_of) .none kV doc pm an cdv ct) ⟨l, []⟩) (p1 := "cls") (pv := "numbers") (fun a => rfl) (fun a r rs => rfl) us rest hl) fun A outer s H vs Q E hr h => ?_
  obtain ⟨a, rfl, ha, ret⟩ := h
  refine ⟨_, PSs.nox ((pss_cons (ps_setLc (i := 2) (own := [("value", 4)]) rfl sc_Bag_of.nd rfl rfl (sw_true rfl rfl rfl (by decide +kernel)) (pi_tupK (K := K) (pv 1)) (blkOk_by (by kernel_rfl)) (fun _ _ _ _ _ => (pg_name (i := 4) sc_Bag_of.nd rfl (Or.inl rfl))) (fun _ _ _ _ _ => pts_nil) (fun _ _ _ _ _ => (pe_has h_number (hr.mono (by decide)) (pa_cons (pv 4) pa_nil))))
      (pss_cons (ps_expr (pe_has h_need_size (hr.mono (by decide)) (pa_cons (pe_callB (len_seqK (K := K)) (by rfl) T.b_len (by decide +kernel) (pa_cons (pv 2) pa_nil)) pa_nil)))
      (pss_cons (ps_set (i := 3) sc_Bag_of.nd rfl (Or.inl rfl) (pe_tup (pa_cons (pe_gc T.g_ONE) pa_nil)))
      (pss_cons (ps_for PassesOwn.never rfl (pi_listK (K := K) (pv 2)) (pg_name (i := 4) sc_Bag_of.nd rfl (Or.inl rfl)) (pss_one (ps_set (i := 3) sc_Bag_of.nd rfl (Or.inl rfl) pe_never)))
      (pss_one (ps_ret (pe_clsL (K := K) (i := 0) B h_init (hr.mono (by decide)) rfl (Or.inl rfl) (pa_cons (pv 3) pa_nil))))))))), ?_⟩
  have g : Good H NoM H := .start H
  have ts : Tsl [some (Iv NoM (.ref (bC K))), some (An NoM (TO' K (IQ K) [])), none, none, none] (start ["cls", "numbers", "values", "poly", "value"] [.ref (bC K), .ref a]) H := wip_cons rfl (wip_cons ⟨a, [], rfl, SqT.of ha, .nil⟩ (non_cons (non_cons (non_cons nil_ts))))
  refine st_set (Fr NoM H (LO (IQ K) [])) g ts ?_ fun σ2 H2 e2 g2 t2 => ?_
  · exact ty_lc ([] : List Rat) (ti_tup (0 : Rat) (K := K) (Pc := IQ K) (xs := []) (R := An NoM (TO' K (IQ K) [])) (ty_var rfl) (fun _ _ h => h) (by decide)) rfl (by decide) fun B i c hc gB => by cases hc
  refine st_drop (Fr NoM H (IV .non)) g2 t2 (ty_call1 (ι := Nat) (R1 := Iv NoM (.int (0 : Int))) 0 (ty_lenL (R := Fr NoM H (LO (IQ K) [])) (l := []) (ty_var rfl) fun _ _ h => fr_tr h) (fun _ _ h => h) (by decide)) fun H3 e3 g3 t3 => ?_
  refine st_set (An NoM (TO' K (IQ K) [1])) g3 t3 ?_ fun σ4 H4 e4 g4 t4 => ?_
  · refine ty_tupl (ta_cons (ty_one T) ta_nil) (by show 1 ≤ 100000; decide) fun H vs p => ?_
    cases p with
    | cons r t => cases t; exact .cons r .nil
  refine st_forL (Pb := IQ K) (l := []) g4 t4 (ty_var rfl) (fun _ _ h => fr_an h) (fun _ => _) (fun _ _ t => t) (fun B i c σ5 H5 hc => by cases hc) fun σ5 H5 g5 t5 => ?_
  refine st_ret (R := An NoM (BG K [1])) g5 t5 (ty_cls rfl (ty_bag (R := An NoM (TO' K (IQ K) [1])) (ty_var rfl) (fun _ _ h => an_tr h) bagOk_one)) fun v H' e x => ret v H' (g5.up e).ex0 ?_
  exact x
end
end My
end
section
set_option Elab.async false
set_option linter.all false
set_option maxRecDepth 100000
set_option maxHeartbeats 2000000
namespace My
open PySem PySem.Spec PyProof.Rows L2 Evl
open Mi (at0 companion derivation compound subsets)
def rd (b : Bool) : Str := if b = true then "sums" else "matrices"
abbrev spNr : Sp := Sp1 (ι := Bool) (fun b => IV (.str (rd b))) (fun _ => True) (fun _ => IV .non)
abbrev spNc (K : PySem.W.Frag) : Sp := Sp2 (ι := List Rat × Nat) (fun i => BG K i.1) (fun i => IV (.int (i.2 : Int))) (fun i => 0 < i.1.length ∧ i.1.length ≤ 8 ∧ i.2 ≤ 4 ∧ Mi.choices (i.1.length - 1) i.2 ≤ 40) (fun _ => IV .non)
/-- the answers of the two methods -/
def csR (b : Bool) (cs : List Rat) (n many : Nat) : List Rat := if n < many then [1] else if b = true then Mi.addChoices cs n many else Mi.sumsMat cs n many
def cpR (b : Bool) (cs : List Rat) (n many : Nat) : List Rat := if n < many then [1] else if b = true then Mi.mulChoices cs n many else Mi.mulMat isz cs n many
structure CsOk (b : Bool) (cs : List Rat) (n many : Nat) : Prop where
  bag : BagOk cs
  len : cs.length = n + 1
  le : n ≤ 4
  m1 : 1 ≤ many
  m4 : many ≤ 4
  a : many ≤ n → b = true → ∃ t s R, AcOk cs n many t s R
  m : many ≤ n → b = false → DvOk (companion cs n) n many ∧ ChOk (derivation (companion cs n) n many) (subsets n many).length
  r : BagOk (csR b cs n many)
structure CpOk' (b : Bool) (cs : List Rat) (n many : Nat) : Prop where
  bag : BagOk cs
  len : cs.length = n + 1
  le : n ≤ 4
  m1 : 1 ≤ many
  m4 : many ≤ 4
  a : many ≤ n → b = true → ∃ t s, McOk cs n many t s
  m : many ≤ n → b = false → CpOk (companion cs n) n many ∧ ChOk (compound isz (companion cs n) n many) (subsets n many).length
  r : BagOk (cpR b cs n many)
abbrev spCs (K : PySem.W.Frag) : Sp := fun vs H Q _ => ∃ (b : Bool) (cs : List Rat) (n many : Nat) (v1 : V), vs = [v1, .int (many : Int), .str (rd b)] ∧ BG K cs Tr H v1 ∧ CsOk b cs n many ∧ Ret (BG K (csR b cs n many)) H Q
abbrev spCpp (K : PySem.W.Frag) : Sp := fun vs H Q _ => ∃ (b : Bool) (cs : List Rat) (n many : Nat) (v1 : V), vs = [v1, .int (many : Int), .str (rd b)] ∧ BG K cs Tr H v1 ∧ CpOk' b cs n many ∧ Ret (BG K (cpR b cs n many)) H Q
theorem choices_small0 : ∀ n ∈ List.range 5, ∀ many ∈ List.range 5, Mi.choices n many ≤ 40 := by decide +kernel
theorem choices_small (n many : Nat) (hn : n ≤ 4) (hm : many ≤ 4) : Mi.choices n many ≤ 40 := choices_small0 n (List.mem_range.mpr (by omega)) many (List.mem_range.mpr (by omega))
section
variable {H0 : Hp} {K : PySem.W.Frag} {ps : List (Option (SV NoM))} {ta tb te : TE} {E : XK} {R R1 R' : SV NoM}
theorem ty_callA {i : Nat} {S : Addr → Option Sp} {t : TA} {f : Addr} {sp : Sp} {Rs : List (SV NoM)} (h0 : ps[i]? = some (some (Iv NoM (.ref f)))) (hS : S f = some sp) (h : TyA H0 NoM ps t Rs)
    (hs : ∀ H vs (Q : VK), Good H0 NoM H → Paired (fun (R : SV NoM) v => R.R H v) Rs vs → (∀ v H2, Ex H H2 → R.R H2 v → Q v H2) → sp vs H Q (fun _ _ _ => False)) : Ty H0 NoM ps (tCallA i S t) R := fun σ H g ts Q q => by
  obtain ⟨v, ev, e⟩ := ts.get h0
  have e : v = _ := e
  subst e
  exact ⟨f, sp, ev, hS, h σ H g ts _ fun vs H2 e2 p => hs H2 vs Q (g.up e2) p fun v H3 e3 r => q v H3 (e2.trans e3) r⟩
theorem ty_callA2 {ι : Type} {P1 P2 W : ι → VP} {ok : ι → Prop} [∀ i, Mn (W i)] {j : Nat} {S : Addr → Option Sp} {f : Addr} {R2' : SV NoM} (i : ι) (h0 : ps[j]? = some (some (Iv NoM (.ref f)))) (hS : S f = some (Sp2 P1 P2 ok W)) (h1 : Ty H0 NoM ps ta R1) (h2 : Ty H0 NoM ps tb R2') (c1 : ∀ H v, R1.R H v → P1 i Tr H v) (c2 : ∀ H v, R2'.R H v → P2 i Tr H v) (o : ok i) :
    Ty H0 NoM ps (tCallA j S (tCons ta (tCons tb tNil))) (Fr NoM H0 (W i)) :=
  ty_callA h0 hS (ta_cons h1 (ta_cons h2 ta_nil)) fun H vs Q g p q => by
    obtain ⟨v1, v2, rfl, r1, r2⟩ : ∃ v1 v2, vs = [v1, v2] ∧ R1.R H v1 ∧ R2'.R H v2 := by
      cases p with | cons r t => cases t with | cons r' t' => cases t'; exact ⟨_, _, rfl, r, r'⟩
    exact ⟨i, v1, v2, rfl, c1 _ _ r1, c2 _ _ r2, o, ret_fr g q⟩
theorem ty_of {k : Nat} {E : XK} {sp : Sp} (hs : ∀ H (Q : VK), Good H0 NoM H → (∀ v H2, Ex H H2 → R.R H2 v → Q v H2) → sp [.ref (bC K)] H Q E) : Ty H0 NoM ps (fun σ H Q => sp [.ref (bC K)] H Q E) R := fun σ H g ts Q q => hs H Q g q
end
section
variable {P : Program} {w : World} {K : PySem.W.Frag} {mg : Str → Option Value} {base : Heap}
theorem has_need_road (T : Tx K mg) : Has P w K mg base 1 "need_road" ["road"] spNr := by
  refine has1 T.d_need_road sc_need_road (fun _ _ _ _ _ _ us hl => match us, hl with | [_], _ => rfl) fun f cdv A outer s H E hr => ⟨_,
    (pss_one (ps_if (pt_cmpR (notIn_seqK (K := K)) (pv 0) (pe_gc T.g_ROADS) (by rfl)) (pss_one ps_never) pss_nil)), ?_⟩
  intro b v1 Q h1 _ ret
  have h1 : v1 = .str (rd b) := h1
  subst h1
  refine ⟨.str (rd b), rfl, ?_⟩
  refine ⟨_, [.str "sums", .str "matrices"], rfl, .inr (T.q_ROADS H), rfl, rfl, ?_⟩
  refine ⟨false, ?_, ret _ H (Ex.refl H) rfl⟩
  cases b <;> decide
theorem has_need_choices (T : Tx K mg) (B : Bx K mg) : Has P w K mg base 3 "need_choices" ["bag", "many"] (spNc K) := by
  have h_choices := has_choices (P := P) (w := w) (base := base) T
  have h_blen := has_blen (P := P) (w := w) (base := base) T B
  refine has2 T.d_need_choices sc_need_choices (fun _ _ _ _ _ _ us hl => match us, hl with | [_, _], _ => rfl) fun f cdv A outer s H E hr => ⟨_,
    (pss_cons (ps_if (pt_cmpR op_lt (pv 1) pe_int (nomark _)) (pss_one ps_never) pss_nil)
      (pss_one (ps_if (pt_cmpR op_gt (pe_has h_choices (hr.mono (by decide)) (pa_cons (pe_callB (call_lenO (K := K) B h_blen (hr.mono (by decide))) (by rfl) T.b_len (by decide +kernel) (pa_cons (pv 0) pa_nil)) (pa_cons (pv 1) pa_nil))) (pe_gc T.g_MAX_SIZE) (nomark _)) (pss_one ps_never) pss_nil))), ?_⟩
  rintro ⟨cs, many⟩ v1 v2 Q h1 h2 ⟨h0, hl, hm, hc⟩ ret
  dsimp only at h0 hl hm hc
  have g : Good H NoM H := .start H
  have ts : Tsl [some (An NoM (BG K cs)), some (Iv NoM (.int (many : Int)))] (start ["bag", "many"] [v1, v2]) H := wip_cons (Mn.mono (P := BG K cs) (fun _ _ z => z) h1) (wip_cons h2 nil_ts)
  refine st_when g ts (tt_test (ty_i0 (ty_var rfl) ty_c)) (fun hb => ?_) fun _ H2 e2 g2 t2 => ?_
  · have := of_decide_eq_true hb
    omega
  refine st_if1 g2 t2 (tt_test (ty_i0 (ty_ch (n := cs.length - 1) (m := many) (ty_blen (R := An NoM (BG K cs)) (ty_var rfl) (fun _ _ h => an_tr h) h0 (by omega)) (ty_var rfl) (by omega) (by omega)) ty_c)) (fun hb => ?_) fun _ H3 e3 g3 t3 => ret _ H3 (g2.up e3).ex0 rfl
  have := of_decide_eq_true hb
  omega
theorem has_choice_sums (T : Tx K mg) (B : Bx K mg) : ∃ fd, FunD K "choice_sums" "choice_sums" (defArgs s_choice_sums) (defBody s_choice_sums) (defScope s_choice_sums) [] [("road", .str "sums")] (He.ga K "choice_sums") fd ∧ FnOk P w K mg base CX0 10 (He.ga K "choice_sums") fd ["bag", "many", "road"] (spCs K) := by
  have h_need_road := has_need_road (P := P) (w := w) (base := base) T
  have h_need_choices := has_need_choices (P := P) (w := w) (base := base) T B
  have h_blen := has_blen (P := P) (w := w) (base := base) T B
  have h_init := has_init (P := P) (w := w) (base := base) T B
  have h_of := has_of' (P := P) (w := w) (base := base) T B
  have h_s := has_add_choices (P := P) (w := w) (base := base) T
  have h_m := has_sums_mat (P := P) (w := w) (base := base) T
  obtain ⟨fd, F⟩ := T.k_sums
  refine ⟨fd, F, F.ok sc_choice_sums (fun vs H Q E h => by obtain ⟨_, _, _, _, _, rfl, _⟩ := h; rfl) fun cdv A outer s H vs Q E hr h => ?_⟩
  obtain ⟨b, cs, n, many, v1, rfl, h1, ok, ret⟩ := h
  have hlen := ok.len
  have hle := ok.le
  have hm1 := ok.m1
  have hm4 := ok.m4
  have hbl := ok.bag.le
  have g : Good H NoM H := .start H
  have ts : Tsl [some (An NoM (BG K cs)), some (Iv NoM (.int (many : Int))), some (Iv NoM (.str (rd b))), none] (start ["bag", "many", "road", "action"] [v1, .int (many : Int), .str (rd b)]) H := wip_cons (Mn.mono (P := BG K cs) (fun _ _ z => z) h1) (wip_cons rfl (wip_cons rfl (non_cons nil_ts)))
  have hch := choices_small n many hle hm4
  have e1 : csR b cs n many = if n < many then [1] else if b = true then Mi.addChoices cs n many else Mi.sumsMat cs n many := rfl
  have hr9 : csR b cs n many = [1] → BagOk [1] := fun _ => bagOk_one
  cases b with
  | true =>
    let S : Addr → Option Sp := fun f => if f = He.ga K "add_choices" then some (spAc K) else none
    have held : ∀ f sp, S f = some sp → Held P w K mg base 7 f sp := fun f sp hf => by
      by_cases e : f = He.ga K "add_choices"
      · have e2 : some (spAc K) = some sp := by
          have e3 : S f = some (spAc K) := if_pos e
          rw [← e3]; exact hf
        subst e
        rw [← Option.some.inj e2]
        obtain ⟨fd, a, c⟩ := h_s.ex
        exact ⟨fd, _, a, h_s.kp, c⟩
      · have e3 : S f = none := if_neg e
        rw [e3] at hf
        cases hf
    have hS : S (He.ga K "add_choices") = some (spAc K) := if_pos rfl
    clear_value S
    refine ⟨_, PSs.nox ((pss_cons (ps_expr (pe_has h_need_road (hr.mono (by decide)) (pa_cons (pv 2) pa_nil)))
      (pss_cons (ps_expr (pe_has h_need_choices (hr.mono (by decide)) (pa_cons (pv 0) (pa_cons (pv 1) pa_nil))))
      (pss_cons (ps_if (pt_cmpR op_gt (pv 1) (pe_callB (call_lenO (K := K) B h_blen (hr.mono (by decide))) (by rfl) T.b_len (by decide +kernel) (pa_cons (pv 0) pa_nil)) (nomark _)) (pss_one (ps_ret (pe_of (K := K) B h_of (hr.mono (by decide))))) pss_nil)
      (pss_cons (ps_set (i := 3) sc_choice_sums.nd rfl (Or.inl rfl) (pe_ifExp (pt_cmpR op_eq (pv 2) pe_str (nomark _)) (pe_glob (v := .ref (He.ga K "add_choices")) rfl T.d_add_choices.gl rfl) (pe_glob (v := .ref (He.ga K "choice_sums_by_matrices")) rfl T.d_choice_sums_by_matrices.gl rfl)))
      (pss_one (ps_ret (pe_bag (K := K) B h_init (hr.mono (by decide)) (pa_cons (pe_callA (S := S) (i := 3) held (hr.mono (by decide)) rfl (Or.inl rfl) (pa_cons (pe_fldK (K := K) (pv 0)) (pa_cons (pv 1) pa_nil))) pa_nil))))))))), ?_⟩
    refine st_drop (Fr NoM H (IV .non)) g ts (ty_call1 (ι := Bool) (R1 := Iv NoM (.str (rd true))) true (ty_var rfl) (fun _ _ h => h) trivial) fun H2 e2 g2 t2 => ?_
    refine st_drop (Fr NoM H (IV .non)) g2 t2 (ty_call2 (ι := List Rat × Nat) (R1 := An NoM (BG K cs)) (R2' := Iv NoM (.int (many : Int))) (cs, many) (ty_var rfl) (ty_var rfl) (fun _ _ h => an_tr h) (fun _ _ h => h) ⟨by show 0 < cs.length; omega, by show cs.length ≤ 8; omega, hm4, by show Mi.choices (cs.length - 1) many ≤ 40; rw [hlen]; exact hch⟩) fun H3 e3 g3 t3 => ?_
    refine st_when g3 t3 (tt_test (ty_i0 (ty_var rfl) (ty_blen (R := An NoM (BG K cs)) (ty_var rfl) (fun _ _ h => an_tr h) (by omega) (by omega)))) (fun hb H4 e4 g4 t4 => ?_) fun hb H4 e4 g4 t4 => ?_
    · have hb := of_decide_eq_true hb
      have hlt : n < many := by omega
      refine st_ret (R := An NoM (BG K [1])) g4 t4 (fun σ6 H6 g6 t6 Q6 q6 => ⟨[.ref (bC K)], [], rfl, rfl, (by show 0 ≤ sizeLine; decide), fun p hp => ⟨p, rfl, upd_same, fun v H7 e7 x => q6 v H7 ((Ex.new hp).trans e7) x⟩⟩) fun v H' e x => ret v H' (g4.up e).ex0 ?_
      rw [e1, if_pos hlt]
      exact x
    · have hb := of_decide_eq_false hb
      have hlt : ¬ n < many := by omega
      refine st_set (Iv NoM (.ref (He.ga K "add_choices"))) g4 t4 (ty_if (b := true) (tt_is (tt_test (ty_eqI (ty_var rfl) ty_c rfl)) (by decide)) (fun hq => ?_) fun hq => ?_) fun σ5 H5 e5 g5 t5 => ?_
      · exact ty_c
      · cases hq
      obtain ⟨t, s, R, hac⟩ := ok.a (by omega) rfl
      have er : csR true cs n many = Mi.addChoices cs n many := by rw [e1, if_neg hlt]; rfl
      refine st_ret (R := An NoM (BG K (Mi.addChoices cs n many))) g5 t5 (ty_bag (R := Fr NoM H (TO' K (IQ K) (Mi.addChoices cs n many))) (ty_callA2 (ι := List Rat × Nat × Nat) (R1 := An NoM (TO' K (IQ K) cs)) (R2' := Iv NoM (.int (many : Int))) (cs, n, many) rfl hS (ty_poly B (R := An NoM (BG K cs)) (ty_var rfl) fun _ _ h => an_tr h) (ty_var rfl) (fun _ _ h => an_tr h) (fun _ _ h => h) ⟨hlen, (show n ≤ 50 by omega), (show many ≤ 50 by omega), t, s, R, hac⟩) (fun _ _ h => fr_tr h) (by rw [← er]; exact ok.r)) fun v H' e x => ret v H' (g5.up e).ex0 ?_
      rw [er]
      exact x
  | false =>
    let S : Addr → Option Sp := fun f => if f = He.ga K "choice_sums_by_matrices" then some (spSm K) else none
    have held : ∀ f sp, S f = some sp → Held P w K mg base 7 f sp := fun f sp hf => by
      by_cases e : f = He.ga K "choice_sums_by_matrices"
      · have e2 : some (spSm K) = some sp := by
          have e3 : S f = some (spSm K) := if_pos e
          rw [← e3]; exact hf
        subst e
        rw [← Option.some.inj e2]
        obtain ⟨fd, a, c⟩ := h_m.ex
        exact ⟨fd, _, a, h_m.kp, c⟩
      · have e3 : S f = none := if_neg e
        rw [e3] at hf
        cases hf
    have hS : S (He.ga K "choice_sums_by_matrices") = some (spSm K) := if_pos rfl
    clear_value S
    refine ⟨_, PSs.nox ((pss_cons (ps_expr (pe_has h_need_road (hr.mono (by decide)) (pa_cons (pv 2) pa_nil)))
      (pss_cons (ps_expr (pe_has h_need_choices (hr.mono (by decide)) (pa_cons (pv 0) (pa_cons (pv 1) pa_nil))))
      (pss_cons (ps_if (pt_cmpR op_gt (pv 1) (pe_callB (call_lenO (K := K) B h_blen (hr.mono (by decide))) (by rfl) T.b_len (by decide +kernel) (pa_cons (pv 0) pa_nil)) (nomark _)) (pss_one (ps_ret (pe_of (K := K) B h_of (hr.mono (by decide))))) pss_nil)
      (pss_cons (ps_set (i := 3) sc_choice_sums.nd rfl (Or.inl rfl) (pe_ifExp (pt_cmpR op_eq (pv 2) pe_str (nomark _)) (pe_glob (v := .ref (He.ga K "add_choices")) rfl T.d_add_choices.gl rfl) (pe_glob (v := .ref (He.ga K "choice_sums_by_matrices")) rfl T.d_choice_sums_by_matrices.gl rfl)))
      (pss_one (ps_ret (pe_bag (K := K) B h_init (hr.mono (by decide)) (pa_cons (pe_callA (S := S) (i := 3) held (hr.mono (by decide)) rfl (Or.inl rfl) (pa_cons (pe_fldK (K := K) (pv 0)) (pa_cons (pv 1) pa_nil))) pa_nil))))))))), ?_⟩
    refine st_drop (Fr NoM H (IV .non)) g ts (ty_call1 (ι := Bool) (R1 := Iv NoM (.str (rd false))) false (ty_var rfl) (fun _ _ h => h) trivial) fun H2 e2 g2 t2 => ?_
    refine st_drop (Fr NoM H (IV .non)) g2 t2 (ty_call2 (ι := List Rat × Nat) (R1 := An NoM (BG K cs)) (R2' := Iv NoM (.int (many : Int))) (cs, many) (ty_var rfl) (ty_var rfl) (fun _ _ h => an_tr h) (fun _ _ h => h) ⟨by show 0 < cs.length; omega, by show cs.length ≤ 8; omega, hm4, by show Mi.choices (cs.length - 1) many ≤ 40; rw [hlen]; exact hch⟩) fun H3 e3 g3 t3 => ?_
    refine st_when g3 t3 (tt_test (ty_i0 (ty_var rfl) (ty_blen (R := An NoM (BG K cs)) (ty_var rfl) (fun _ _ h => an_tr h) (by omega) (by omega)))) (fun hb H4 e4 g4 t4 => ?_) fun hb H4 e4 g4 t4 => ?_
    · have hb := of_decide_eq_true hb
      have hlt : n < many := by omega
      refine st_ret (R := An NoM (BG K [1])) g4 t4 (fun σ6 H6 g6 t6 Q6 q6 => ⟨[.ref (bC K)], [], rfl, rfl, (by show 0 ≤ sizeLine; decide), fun p hp => ⟨p, rfl, upd_same, fun v H7 e7 x => q6 v H7 ((Ex.new hp).trans e7) x⟩⟩) fun v H' e x => ret v H' (g4.up e).ex0 ?_
      rw [e1, if_pos hlt]
      exact x
    · have hb := of_decide_eq_false hb
      have hlt : ¬ n < many := by omega
      refine st_set (Iv NoM (.ref (He.ga K "choice_sums_by_matrices"))) g4 t4 (ty_if (b := false) (tt_is (tt_test (ty_eqI (ty_var rfl) ty_c rfl)) (by decide)) (fun hq => ?_) fun hq => ?_) fun σ5 H5 e5 g5 t5 => ?_
      · cases hq
      · exact ty_c
      obtain ⟨hd, hc⟩ := ok.m (by omega) rfl
      have er : csR false cs n many = Mi.sumsMat cs n many := by rw [e1, if_neg hlt]; rfl
      refine st_ret (R := An NoM (BG K (Mi.sumsMat cs n many))) g5 t5 (ty_bag (R := Fr NoM H (TO' K (IQ K) (Mi.sumsMat cs n many))) (ty_callA2 (ι := List Rat × Nat × Nat) (R1 := An NoM (TO' K (IQ K) cs)) (R2' := Iv NoM (.int (many : Int))) (cs, n, many) rfl hS (ty_poly B (R := An NoM (BG K cs)) (ty_var rfl) fun _ _ h => an_tr h) (ty_var rfl) (fun _ _ h => an_tr h) (fun _ _ h => h) ⟨hlen, hd, hc⟩) (fun _ _ h => fr_tr h) (by rw [← er]; exact ok.r)) fun v H' e x => ret v H' (g5.up e).ex0 ?_
      rw [er]
      exact x
theorem has_choice_products (T : Tx K mg) (B : Bx K mg) : ∃ fd, FunD K "choice_products" "choice_products" (defArgs s_choice_products) (defBody s_choice_products) (defScope s_choice_products) [] [("road", .str "sums")] (He.ga K "choice_products") fd ∧ FnOk P w K mg base CX0 10 (He.ga K "choice_products") fd ["bag", "many", "road"] (spCpp K) := by
  have h_need_road := has_need_road (P := P) (w := w) (base := base) T
  have h_need_choices := has_need_choices (P := P) (w := w) (base := base) T B
  have h_blen := has_blen (P := P) (w := w) (base := base) T B
  have h_init := has_init (P := P) (w := w) (base := base) T B
  have h_of := has_of' (P := P) (w := w) (base := base) T B
  have h_s := has_multiply_choices (P := P) (w := w) (base := base) T
  have h_m := has_products_mat (P := P) (w := w) (base := base) T
  obtain ⟨fd, F⟩ := T.k_products
  refine ⟨fd, F, F.ok sc_choice_products (fun vs H Q E h => by obtain ⟨_, _, _, _, _, rfl, _⟩ := h; rfl) fun cdv A outer s H vs Q E hr h => ?_⟩
  obtain ⟨b, cs, n, many, v1, rfl, h1, ok, ret⟩ := h
  have hlen := ok.len
  have hle := ok.le
  have hm1 := ok.m1
  have hm4 := ok.m4
  have hbl := ok.bag.le
  have g : Good H NoM H := .start H
  have ts : Tsl [some (An NoM (BG K cs)), some (Iv NoM (.int (many : Int))), some (Iv NoM (.str (rd b))), none] (start ["bag", "many", "road", "action"] [v1, .int (many : Int), .str (rd b)]) H := wip_cons (Mn.mono (P := BG K cs) (fun _ _ z => z) h1) (wip_cons rfl (wip_cons rfl (non_cons nil_ts)))
  have hch := choices_small n many hle hm4
  have e1 : cpR b cs n many = if n < many then [1] else if b = true then Mi.mulChoices cs n many else Mi.mulMat isz cs n many := rfl
  have hr9 : cpR b cs n many = [1] → BagOk [1] := fun _ => bagOk_one
  cases b with
  | true =>
    let S : Addr → Option Sp := fun f => if f = He.ga K "multiply_choices" then some (spMc K) else none
    have held : ∀ f sp, S f = some sp → Held P w K mg base 7 f sp := fun f sp hf => by
      by_cases e : f = He.ga K "multiply_choices"
      · have e2 : some (spMc K) = some sp := by
          have e3 : S f = some (spMc K) := if_pos e
          rw [← e3]; exact hf
        subst e
        rw [← Option.some.inj e2]
        obtain ⟨fd, a, c⟩ := h_s.ex
        exact ⟨fd, _, a, h_s.kp, c⟩
      · have e3 : S f = none := if_neg e
        rw [e3] at hf
        cases hf
    have hS : S (He.ga K "multiply_choices") = some (spMc K) := if_pos rfl
    clear_value S
    refine ⟨_, PSs.nox ((pss_cons (ps_expr (pe_has h_need_road (hr.mono (by decide)) (pa_cons (pv 2) pa_nil)))
      (pss_cons (ps_expr (pe_has h_need_choices (hr.mono (by decide)) (pa_cons (pv 0) (pa_cons (pv 1) pa_nil))))
      (pss_cons (ps_if (pt_cmpR op_gt (pv 1) (pe_callB (call_lenO (K := K) B h_blen (hr.mono (by decide))) (by rfl) T.b_len (by decide +kernel) (pa_cons (pv 0) pa_nil)) (nomark _)) (pss_one (ps_ret (pe_of (K := K) B h_of (hr.mono (by decide))))) pss_nil)
      (pss_cons (ps_set (i := 3) sc_choice_products.nd rfl (Or.inl rfl) (pe_ifExp (pt_cmpR op_eq (pv 2) pe_str (nomark _)) (pe_glob (v := .ref (He.ga K "multiply_choices")) rfl T.d_multiply_choices.gl rfl) (pe_glob (v := .ref (He.ga K "choice_products_by_matrices")) rfl T.d_choice_products_by_matrices.gl rfl)))
      (pss_one (ps_ret (pe_bag (K := K) B h_init (hr.mono (by decide)) (pa_cons (pe_callA (S := S) (i := 3) held (hr.mono (by decide)) rfl (Or.inl rfl) (pa_cons (pe_fldK (K := K) (pv 0)) (pa_cons (pv 1) pa_nil))) pa_nil))))))))), ?_⟩
    refine st_drop (Fr NoM H (IV .non)) g ts (ty_call1 (ι := Bool) (R1 := Iv NoM (.str (rd true))) true (ty_var rfl) (fun _ _ h => h) trivial) fun H2 e2 g2 t2 => ?_
    refine st_drop (Fr NoM H (IV .non)) g2 t2 (ty_call2 (ι := List Rat × Nat) (R1 := An NoM (BG K cs)) (R2' := Iv NoM (.int (many : Int))) (cs, many) (ty_var rfl) (ty_var rfl) (fun _ _ h => an_tr h) (fun _ _ h => h) ⟨by show 0 < cs.length; omega, by show cs.length ≤ 8; omega, hm4, by show Mi.choices (cs.length - 1) many ≤ 40; rw [hlen]; exact hch⟩) fun H3 e3 g3 t3 => ?_
    refine st_when g3 t3 (tt_test (ty_i0 (ty_var rfl) (ty_blen (R := An NoM (BG K cs)) (ty_var rfl) (fun _ _ h => an_tr h) (by omega) (by omega)))) (fun hb H4 e4 g4 t4 => ?_) fun hb H4 e4 g4 t4 => ?_
    · have hb := of_decide_eq_true hb
      have hlt : n < many := by omega
      refine st_ret (R := An NoM (BG K [1])) g4 t4 (fun σ6 H6 g6 t6 Q6 q6 => ⟨[.ref (bC K)], [], rfl, rfl, (by show 0 ≤ sizeLine; decide), fun p hp => ⟨p, rfl, upd_same, fun v H7 e7 x => q6 v H7 ((Ex.new hp).trans e7) x⟩⟩) fun v H' e x => ret v H' (g4.up e).ex0 ?_
      rw [e1, if_pos hlt]
      exact x
    · have hb := of_decide_eq_false hb
      have hlt : ¬ n < many := by omega
      refine st_set (Iv NoM (.ref (He.ga K "multiply_choices"))) g4 t4 (ty_if (b := true) (tt_is (tt_test (ty_eqI (ty_var rfl) ty_c rfl)) (by decide)) (fun hq => ?_) fun hq => ?_) fun σ5 H5 e5 g5 t5 => ?_
      · exact ty_c
      · cases hq
      obtain ⟨t, s, hac⟩ := ok.a (by omega) rfl
      have er : cpR true cs n many = Mi.mulChoices cs n many := by rw [e1, if_neg hlt]; rfl
      refine st_ret (R := An NoM (BG K (Mi.mulChoices cs n many))) g5 t5 (ty_bag (R := Fr NoM H (TO' K (IQ K) (Mi.mulChoices cs n many))) (ty_callA2 (ι := List Rat × Nat × Nat) (R1 := An NoM (TO' K (IQ K) cs)) (R2' := Iv NoM (.int (many : Int))) (cs, n, many) rfl hS (ty_poly B (R := An NoM (BG K cs)) (ty_var rfl) fun _ _ h => an_tr h) (ty_var rfl) (fun _ _ h => an_tr h) (fun _ _ h => h) ⟨hlen, (show n ≤ 50 by omega), (show many ≤ 20 by omega), t, s, hac⟩) (fun _ _ h => fr_tr h) (by rw [← er]; exact ok.r)) fun v H' e x => ret v H' (g5.up e).ex0 ?_
      rw [er]
      exact x
  | false =>
    let S : Addr → Option Sp := fun f => if f = He.ga K "choice_products_by_matrices" then some (spPm K) else none
    have held : ∀ f sp, S f = some sp → Held P w K mg base 7 f sp := fun f sp hf => by
      by_cases e : f = He.ga K "choice_products_by_matrices"
      · have e2 : some (spPm K) = some sp := by
          have e3 : S f = some (spPm K) := if_pos e
          rw [← e3]; exact hf
        subst e
        rw [← Option.some.inj e2]
        obtain ⟨fd, a, c⟩ := h_m.ex
        exact ⟨fd, _, a, h_m.kp, c⟩
      · have e3 : S f = none := if_neg e
        rw [e3] at hf
        cases hf
    have hS : S (He.ga K "choice_products_by_matrices") = some (spPm K) := if_pos rfl
    clear_value S
    refine ⟨_, PSs.nox ((pss_cons (ps_expr (pe_has h_need_road (hr.mono (by decide)) (pa_cons (pv 2) pa_nil)))
      (pss_cons (ps_expr (pe_has h_need_choices (hr.mono (by decide)) (pa_cons (pv 0) (pa_cons (pv 1) pa_nil))))
      (pss_cons (ps_if (pt_cmpR op_gt (pv 1) (pe_callB (call_lenO (K := K) B h_blen (hr.mono (by decide))) (by rfl) T.b_len (by decide +kernel) (pa_cons (pv 0) pa_nil)) (nomark _)) (pss_one (ps_ret (pe_of (K := K) B h_of (hr.mono (by decide))))) pss_nil)
      (pss_cons (ps_set (i := 3) sc_choice_products.nd rfl (Or.inl rfl) (pe_ifExp (pt_cmpR op_eq (pv 2) pe_str (nomark _)) (pe_glob (v := .ref (He.ga K "multiply_choices")) rfl T.d_multiply_choices.gl rfl) (pe_glob (v := .ref (He.ga K "choice_products_by_matrices")) rfl T.d_choice_products_by_matrices.gl rfl)))
      (pss_one (ps_ret (pe_bag (K := K) B h_init (hr.mono (by decide)) (pa_cons (pe_callA (S := S) (i := 3) held (hr.mono (by decide)) rfl (Or.inl rfl) (pa_cons (pe_fldK (K := K) (pv 0)) (pa_cons (pv 1) pa_nil))) pa_nil))))))))), ?_⟩
    refine st_drop (Fr NoM H (IV .non)) g ts (ty_call1 (ι := Bool) (R1 := Iv NoM (.str (rd false))) false (ty_var rfl) (fun _ _ h => h) trivial) fun H2 e2 g2 t2 => ?_
    refine st_drop (Fr NoM H (IV .non)) g2 t2 (ty_call2 (ι := List Rat × Nat) (R1 := An NoM (BG K cs)) (R2' := Iv NoM (.int (many : Int))) (cs, many) (ty_var rfl) (ty_var rfl) (fun _ _ h => an_tr h) (fun _ _ h => h) ⟨by show 0 < cs.length; omega, by show cs.length ≤ 8; omega, hm4, by show Mi.choices (cs.length - 1) many ≤ 40; rw [hlen]; exact hch⟩) fun H3 e3 g3 t3 => ?_
    refine st_when g3 t3 (tt_test (ty_i0 (ty_var rfl) (ty_blen (R := An NoM (BG K cs)) (ty_var rfl) (fun _ _ h => an_tr h) (by omega) (by omega)))) (fun hb H4 e4 g4 t4 => ?_) fun hb H4 e4 g4 t4 => ?_
    · have hb := of_decide_eq_true hb
      have hlt : n < many := by omega
      refine st_ret (R := An NoM (BG K [1])) g4 t4 (fun σ6 H6 g6 t6 Q6 q6 => ⟨[.ref (bC K)], [], rfl, rfl, (by show 0 ≤ sizeLine; decide), fun p hp => ⟨p, rfl, upd_same, fun v H7 e7 x => q6 v H7 ((Ex.new hp).trans e7) x⟩⟩) fun v H' e x => ret v H' (g4.up e).ex0 ?_
      rw [e1, if_pos hlt]
      exact x
    · have hb := of_decide_eq_false hb
      have hlt : ¬ n < many := by omega
      refine st_set (Iv NoM (.ref (He.ga K "choice_products_by_matrices"))) g4 t4 (ty_if (b := false) (tt_is (tt_test (ty_eqI (ty_var rfl) ty_c rfl)) (by decide)) (fun hq => ?_) fun hq => ?_) fun σ5 H5 e5 g5 t5 => ?_
      · cases hq
      · exact ty_c
      obtain ⟨hd, hc⟩ := ok.m (by omega) rfl
      have er : cpR false cs n many = Mi.mulMat isz cs n many := by rw [e1, if_neg hlt]; rfl
      refine st_ret (R := An NoM (BG K (Mi.mulMat isz cs n many))) g5 t5 (ty_bag (R := Fr NoM H (TO' K (IQ K) (Mi.mulMat isz cs n many))) (ty_callA2 (ι := List Rat × Nat × Nat) (R1 := An NoM (TO' K (IQ K) cs)) (R2' := Iv NoM (.int (many : Int))) (cs, n, many) rfl hS (ty_poly B (R := An NoM (BG K cs)) (ty_var rfl) fun _ _ h => an_tr h) (ty_var rfl) (fun _ _ h => an_tr h) (fun _ _ h => h) ⟨hlen, hd, hc⟩) (fun _ _ h => fr_tr h) (by rw [← er]; exact ok.r)) fun v H' e x => ret v H' (g5.up e).ex0 ?_
      rw [er]
      exact x
end
end My
end
section
set_option Elab.async false
set_option linter.all false
set_option maxRecDepth 100000
set_option maxHeartbeats 2000000
namespace My
open PySem PySem.Spec PyProof.Rows L2 Evl
/-! the generator's record: known only by its kind -/
def RB (i b s : Int) : Prop := 0 ≤ i ∧ 0 ≤ b ∧ 0 ≤ s ∧ s < 2147483647
def rv (Ls : Addr) (i b s : Int) : List V := [.ref Ls, .int i, .int b, .int s]
def Rphi (Rg Ls : Addr) (h : Heap) : Prop := ∃ (i b s : Int) (t1 t2 t3 : Tok) (n : Nat), RB i b s ∧ h.get? Rg = some { cls := .type "list", data := .seq #[.ref Ls, .int i t1, .int b t2, .int s t3] n }
def RX (Rg Ls : Addr) : HO := .ext (Rphi Rg Ls)
section
variable {P : Program} {w : World} {H H' : Hp} {h : Heap} {Rg Ls : Addr} {i b s : Int}
theorem rng_in (ok : HOk P w H h) (e : H Rg = some (RX Rg Ls)) : ∃ i b s, RB i b s ∧ HOk P w (upd H Rg (.lst (rv Ls i b s))) h := by
  obtain ⟨⟨i, b, s, t1, t2, t3, n, rb, g⟩, _⟩ := (show ObjOk P w H h Rg (.ext (Rphi Rg Ls)) from ok Rg _ e)
  refine ⟨i, b, s, rb, fun c o q => ?_⟩
  by_cases z : c = Rg
  · subst z
    rw [upd_same] at q
    obtain rfl := Option.some.inj q
    exact ⟨by show 4 ≤ sizeLine; decide, [.ref Ls, .int i t1, .int b t2, .int s t3], n, .cons rfl (.cons ⟨_, rfl⟩ (.cons ⟨_, rfl⟩ (.cons ⟨_, rfl⟩ .nil))), g⟩
  · rw [upd_ne z] at q
    exact (ok c o q).stay (fun _ _ _ k => k) (fun d k => by rw [upd_ne fun y => by rw [y, e] at k; cases k]; exact k) fun d xs k => by rw [upd_ne fun y => by rw [y, e] at k; cases k]; exact k
theorem rng_out (ok : HOk P w H h) (e : H Rg = some (.lst (rv Ls i b s))) (rb : RB i b s) : HOk P w (upd H Rg (RX Rg Ls)) h := fun c o q => by
  by_cases z : c = Rg
  · subst z
    rw [upd_same] at q
    obtain rfl := Option.some.inj q
    obtain ⟨_, its, n, r, g⟩ := (show ObjOk P w H h c (.lst (rv Ls i b s)) from ok c _ e)
    have f : Rphi c Ls h := by
      cases r with
      | cons r1 r => cases r with
        | cons r2 r => cases r with
          | cons r3 r => cases r with
            | cons r4 r =>
              cases r
              cases r1
              obtain ⟨t1, rfl⟩ := r2
              obtain ⟨t2, rfl⟩ := r3
              obtain ⟨t3, rfl⟩ := r4
              exact ⟨i, b, s, t1, t2, t3, n, rb, g⟩
    refine ⟨f, ⟨_, g⟩, fun h1 h2 f1 k => ?_⟩
    obtain ⟨i, b, s, t1, t2, t3, n, rb, g⟩ := f1
    exact ⟨i, b, s, t1, t2, t3, n, rb, k _ g⟩
  · rw [upd_ne z] at q
    exact (ok c o q).stay (fun _ _ _ k => k) (fun d k => by rw [upd_ne fun y => by rw [y, e] at k; cases k]; exact k) fun d xs k => by rw [upd_ne fun y => by rw [y, e] at k; cases k]; exact k
end
/-- a def that stores into the generator's record, told without the stores -/
theorem fn_rng {P : Program} {w : World} {K : PySem.W.Frag} {mg : Str → Option Value} {base : Heap} {k : Nat} {f : Addr} {fd : FuncData} {ps : List Str} {sp : Sp} (F : FnOk P w K mg base CX0 k f fd ps sp) :
    FnOk P w K mg base CX0 k f fd ps (fun vs H Q E => ∃ Rg Ls, vs.length = ps.length ∧ H Rg = some (RX Rg Ls) ∧ ∀ i b s, RB i b s → sp vs (upd H Rg (.lst (rv Ls i b s))) (fun v H' => ∃ i b s, RB i b s ∧ H' Rg = some (.lst (rv Ls i b s)) ∧ Q v (upd H' Rg (RX Rg Ls))) E) where
  len := fun vs H Q E ⟨_, _, hl, _⟩ => hl
  run := fun A outer s H args us vs Q E hr e0 bt rv' ⟨Rg, Ls, hl, hR, hs⟩ => by
    obtain ⟨i, b, sd, rb, ok⟩ := rng_in e0.hok hR
    have nR : ∀ c, H c = none → c ≠ Rg := fun c hc z => by rw [z, hR] at hc; cases hc
    have e1 : Env0 P w K mg base A outer s (upd H Rg (.lst (rv Ls i b sd))) := ⟨e0.frames, e0.mod, fun c o q => ⟨(e0.bs c o q).1, by rw [upd_ne (nR c (e0.bs c o q).2)]; exact (e0.bs c o q).2⟩, e0.bsz, e0.funs, fun c hc => by rw [upd_ne (nR c (e0.frf c hc))]; exact e0.frf c hc, ok, e0.bare⟩
    refine codeAny_mono (F.run A outer s _ args us vs _ E hr e1 bt rv' (hs i b sd rb)) fun r s' hq => ?_
    cases r with
    | error e => exact hq
    | ok fl =>
      cases fl with
      | ret u =>
        obtain ⟨v, H', os, bare, un, hok, r, i2, b2, s2, rb2, hR2, q⟩ := hq
        refine ⟨v, _, os, bare, ⟨fun c o z n => un.keep c o z (by rw [upd_ne (nR c n)]; exact n), fun c o z n => un.slot c o z (by rw [upd_ne (nR c n)]; exact n), fun c o z n x => ?_, un.there, fun c xs z => ?_, fun c o u z => ?_, fun c ts z => ?_⟩, rng_out hok hR2 rb2, r, q⟩
        · rw [upd_ne (nR c n)]
          exact un.free c o z (by rw [upd_ne (nR c n)]; exact n) x
        · have ne : c ≠ Rg := fun y => by rw [y, hR] at z; cases z
          rw [upd_ne ne]
          exact un.tups c xs (by rw [upd_ne ne]; exact z)
        · have ne : c ≠ Rg := fun y => by rw [y, hR] at z; cases z
          rw [upd_ne ne]
          exact un.frzs c o u (by rw [upd_ne ne]; exact z)
        · have ne : c ≠ Rg := fun y => by rw [y, hR] at z; cases z
          rw [upd_ne ne]
          exact un.tbls c ts (by rw [upd_ne ne]; exact z)
      | next => exact hq.elim
      | brk => exact hq.elim
      | cont => exact hq.elim
/-- a def that makes such a record -/
theorem fn_rng0 {P : Program} {w : World} {K : PySem.W.Frag} {mg : Str → Option Value} {base : Heap} {k : Nat} {f : Addr} {fd : FuncData} {ps : List Str} {sp : Sp} (F : FnOk P w K mg base CX0 k f fd ps sp) :
    FnOk P w K mg base CX0 k f fd ps (fun vs H Q E => sp vs H (fun v H' => ∃ Rg Ls i b s, H Rg = none ∧ RB i b s ∧ H' Rg = some (.lst (rv Ls i b s)) ∧ Q v (upd H' Rg (RX Rg Ls))) E) where
  len := fun vs H Q E h => F.len _ _ _ _ h
  run := fun A outer s H args us vs Q E hr e0 bt rv' hs => by
    refine codeAny_mono (F.run A outer s _ args us vs _ E hr e0 bt rv' hs) fun r s' hq => ?_
    cases r with
    | error e => exact hq
    | ok fl =>
      cases fl with
      | ret u =>
        obtain ⟨v, H', os, bare, un, hok, r, Rg, Ls, i2, b2, s2, hn, rb2, hR2, q⟩ := hq
        refine ⟨v, _, os, bare, ⟨un.keep, un.slot, fun c o z n x => ?_, un.there, fun c xs z => ?_, fun c o u z => ?_, fun c ts z => ?_⟩, rng_out hok hR2 rb2, r, q⟩
        · have e := un.free c o z n x
          rw [upd_ne fun y => by rw [y, hR2] at e; cases e]
          exact e
        · rw [upd_ne fun y => by rw [y, hn] at z; cases z]
          exact un.tups c xs z
        · rw [upd_ne fun y => by rw [y, hn] at z; cases z]
          exact un.frzs c o u z
        · rw [upd_ne fun y => by rw [y, hn] at z; cases z]
          exact un.tbls c ts z
      | next => exact hq.elim
      | brk => exact hq.elim
      | cont => exact hq.elim
end My
end
section
set_option Elab.async false
set_option linter.all false
set_option maxRecDepth 100000
set_option maxHeartbeats 2000000
namespace My
open PySem PySem.Spec PyProof.Rows L2 Evl
/-- a list of ints at Ls, as it stands -/
def XI (Ls : Addr) (xs : List Int) : SV NoM := ⟨fun H v => v = .ref Ls ∧ H Ls = some (.lst (xs.map V.int)), fun k ⟨e, h⟩ => ⟨e, k Ls _ h fun _ m => m⟩⟩
theorem xi_lo {Ls : Addr} {xs : List Int} {H : Hp} {v : V} {S : Addr → Prop} (h : (XI Ls xs).R H v) (hS : S Ls) : LO II xs S H v := by
  obtain ⟨e, h⟩ := h
  exact ⟨Ls, _, e, hS, h, pr_map (F := fun b x => II b S H x) (fun _ => rfl) xs⟩
section
variable {H0 B : Hp} {K : PySem.W.Frag} {ps : List (Option (SV NoM))} {ta tb te : TE} {R R1 R' : SV NoM} {Rg Ls : Addr} {i b s : Int} {xs : List Int}
theorem ty_rd {vs : List V} (k : Nat) (v : V) (hB : B Rg = some (.lst vs)) (h0 : ps[0]? = some (some (Iv NoM (.ref Rg)))) (hk : vs[k]? = some v) : Ty B NoM ps (tOp (rIx K) (tVar 0) (tC (.int (k : Int)))) (Iv NoM v) := fun σ H g t Q q => by
  obtain ⟨u, ev, e⟩ := t.get h0
  have e : u = _ := e
  subst e
  exact ⟨_, ev, .inl ⟨Rg, vs, (k : Int), v, rfl, rfl, SqL.of (g.ex0 Rg _ hB), ix_at rfl hk, q v H (Ex.refl H) rfl⟩⟩
theorem ty_rd0 (hB : B Rg = some (.lst (rv Ls i b s))) (hL : B Ls = some (.lst (xs.map V.int))) (h0 : ps[0]? = some (some (Iv NoM (.ref Rg)))) : Ty B NoM ps (tOp (rIx K) (tVar 0) (tC (.int 0))) (XI Ls xs) := fun σ H g t Q q =>
  ty_rd 0 (.ref Ls) hB h0 rfl σ H g t Q fun v H2 e r => q v H2 e ⟨r, (g.up e).ex0 Ls _ hL⟩
theorem ty_rd1 (hB : B Rg = some (.lst (rv Ls i b s))) (h0 : ps[0]? = some (some (Iv NoM (.ref Rg)))) : Ty B NoM ps (tOp (rIx K) (tVar 0) (tC (.int 1))) (Iv NoM (.int i)) := ty_rd 1 _ hB h0 rfl
theorem ty_rd2 (hB : B Rg = some (.lst (rv Ls i b s))) (h0 : ps[0]? = some (some (Iv NoM (.ref Rg)))) : Ty B NoM ps (tOp (rIx K) (tVar 0) (tC (.int 2))) (Iv NoM (.int b)) := ty_rd 2 _ hB h0 rfl
theorem ty_rd3 (hB : B Rg = some (.lst (rv Ls i b s))) (h0 : ps[0]? = some (some (Iv NoM (.ref Rg)))) : Ty B NoM ps (tOp (rIx K) (tVar 0) (tC (.int 3))) (Iv NoM (.int s)) := ty_rd 3 _ hB h0 rfl
end
/-- what stands while it is drawn -/
structure RJ (H0 : Hp) (Rg Ls : Addr) (xs : List Int) (i b s : Int) (H : Hp) : Prop where
  kp : ∀ a o, a ≠ Rg → H0 a = some o → H a = some o
  at_ : H Rg = some (.lst (rv Ls i b s))
  ls : H Ls = some (.lst (xs.map V.int))
  ne : Ls ≠ Rg
  rb : RB i b s
theorem RJ.up {H0 : Hp} {Rg Ls : Addr} {xs : List Int} {i b s : Int} {H H' : Hp} (j : RJ H0 Rg Ls xs i b s H) (e : Ex H H') : RJ H0 Rg Ls xs i b s H' := ⟨fun a o n h => e a o (j.kp a o n h), e _ _ j.at_, e _ _ j.ls, j.ne, j.rb⟩
theorem RJ.put {H0 : Hp} {Rg Ls : Addr} {xs : List Int} {i b s i2 b2 s2 : Int} {H : Hp} (j : RJ H0 Rg Ls xs i b s H) (rb : RB i2 b2 s2) : RJ H0 Rg Ls xs i2 b2 s2 (upd H Rg (.lst (rv Ls i2 b2 s2))) := ⟨fun a o n h => by rw [upd_ne n]; exact j.kp a o n h, upd_same, by rw [upd_ne j.ne]; exact j.ls, j.ne, rb⟩
section
variable {H0 H : Hp} {K : PySem.W.Frag} {ps : List (Option (SV NoM))} {te : TE} {Rg Ls : Addr} {i b s : Int} {xs : List Int} {σ : L2.St} {D : Ends} {tz : TS}
/-- rng[k] = n -/
theorem st_rset {n i2 b2 s2 : Int} (k : Nat) (j : RJ H0 Rg Ls xs i b s H) (ts : Tsl ps σ H) (h0 : ps[0]? = some (some (Iv NoM (.ref Rg)))) (hm : MoAll Rg ps) (h : Ty H NoM ps te (Iv NoM (.int n))) (e : (rv Ls i b s).set k (.int n) = rv Ls i2 b2 s2) (rb : RB i2 b2 s2) (hk : k < 4)
    (c : ∀ H', RJ H0 Rg Ls xs i2 b2 s2 H' → Tsl ps σ H' → D.nx σ H') : tAsg te (gSub (tVar 0) (tC (.int (k : Int))) rSetL) D σ H := by
  refine st_store k (.start H) ts h (ty_var h0) ty_c j.at_ rfl hk fun v H1 e1 h1 t1 r1 => ?_
  have r1 : v = .int n := r1
  subst r1
  have tm := Tsl.mut (ys := (rv Ls i b s).set k (.int n)) h1 t1 hm
  rw [e] at tm ⊢
  exact c _ ((j.up e1).put rb) tm
theorem q_rset {n i2 b2 s2 : Int} (k : Nat) (j : RJ H0 Rg Ls xs i b s H) (ts : Tsl ps σ H) (h0 : ps[0]? = some (some (Iv NoM (.ref Rg)))) (hm : MoAll Rg ps) (h : Ty H NoM ps te (Iv NoM (.int n))) (e : (rv Ls i b s).set k (.int n) = rv Ls i2 b2 s2) (rb : RB i2 b2 s2) (hk : k < 4)
    (c : ∀ H', RJ H0 Rg Ls xs i2 b2 s2 H' → Tsl ps σ H' → tz D σ H') : tSeq (tAsg te (gSub (tVar 0) (tC (.int (k : Int))) rSetL)) tz D σ H := st_rset (D := { D with nx := tz D }) k j ts h0 hm h e rb hk c
end
theorem cmul_l {i j : Int} (h : -(2 ^ 64) < i ∧ i < 2 ^ 64) : CMul i j := .inl h
theorem cmul_r {i j : Int} (h : -(2 ^ 64) < j ∧ j < 2 ^ 64) : CMul i j := .inr h
/-- exactly -/
abbrev spDrawE : Sp := fun vs H Q _ => ∃ (Rg Ls : Addr) (xs : List Int) (n : Nat) (i b s : Int), vs = [.ref Rg, .int (n : Int)] ∧ RJ H Rg Ls xs i b s H ∧ 0 < n ∧ n < 1000 ∧ ∀ (r : Nat) H' i2 b2 s2, r < n → RJ H Rg Ls xs i2 b2 s2 H' → Q (.int (r : Int)) H'
section
variable {P : Program} {w : World} {K : PySem.W.Frag} {mg : Str → Option Value} {base : Heap}
theorem has_drawE (T : Tx K mg) : Has P w K mg base 1 "_law_draw" ["_law_rng", "_law_amount"] spDrawE := by
  refine has_of T.d_law_draw sc_law_draw (fun vs H Q E h => by obtain ⟨_, _, _, _, _, _, _, rfl, _⟩ := h; rfl) (fun _ _ _ _ _ _ us hl => match us, hl with | [_, _], _ => rfl) fun f cdv A outer s H vs Q E hr h => ⟨_,
    (pss_cons (ps_if (PW.pt (pw_and (pt_cmpR op_eq (pe_ix (ix_seqK (K := K)) (pv 0) pe_int (fun _ _ => rfl)) pe_int (nomark _)) (pw_and1 (pt_cmpR op_lt (pe_ix (ix_seqK (K := K)) (pv 0) pe_int (fun _ _ => rfl)) (pe_callB (len_seqK (K := K)) (by rfl) T.b_len (by decide +kernel) (pa_cons (pe_ix (ix_seqK (K := K)) (pv 0) pe_int (fun _ _ => rfl)) pa_nil)) (nomark _))))) (pss_cons (ps_set (i := 2) sc_law_draw.nd rfl (Or.inl rfl) (pe_ix (ix_seqK (K := K)) (pe_ix (ix_seqK (K := K)) (pv 0) pe_int (fun _ _ => rfl)) (pe_ix (ix_seqK (K := K)) (pv 0) pe_int (fun _ _ => rfl)) (fun _ _ => rfl)))
      (pss_cons (ps_asg (pe_op op_add (pe_ix (ix_seqK (K := K)) (pv 0) pe_int (fun _ _ => rfl)) pe_int) (pg_sub (pv 0) pe_int set_list))
      (pss_one (ps_if (pt_cmpR op_ge (pv 2) (pe_op op_pow pe_int pe_int) (nomark _)) (pss_one (ps_asg (pv 2) (pg_sub (pv 0) pe_int set_list))) (pss_one (ps_asg (pe_op op_mod (pe_op op_add (pe_op op_add (pe_op op_mul (pe_ix (ix_seqK (K := K)) (pv 0) pe_int (fun _ _ => rfl)) pe_int) (pe_op op_mul (pe_op op_mod (pv 2) pe_int) pe_int)) pe_int) pe_int) (pg_sub (pv 0) pe_int set_list))))))) pss_nil)
      (pss_cons (ps_if (pt_cmpR op_gt (pe_ix (ix_seqK (K := K)) (pv 0) pe_int (fun _ _ => rfl)) pe_int (nomark _)) (pss_cons (ps_set (i := 3) sc_law_draw.nd rfl (Or.inl rfl) (pe_op op_mod (pe_ix (ix_seqK (K := K)) (pv 0) pe_int (fun _ _ => rfl)) (pv 1)))
      (pss_cons (ps_asg (pe_op op_fdiv (pe_ix (ix_seqK (K := K)) (pv 0) pe_int (fun _ _ => rfl)) (pv 1)) (pg_sub (pv 0) pe_int set_list))
      (pss_one (ps_ret (pv 3))))) pss_nil)
      (pss_cons (ps_set (i := 4) sc_law_draw.nd rfl (Or.inl rfl) (pe_ix (ix_seqK (K := K)) (pv 0) pe_int (fun _ _ => rfl)))
      (pss_cons (ps_asg (pe_op op_mod (pe_op op_add (pe_op op_add (pe_op op_mul (pv 4) pe_int) (pe_op op_mul (pe_op op_fdiv (pv 4) pe_int) pe_int)) pe_int) pe_int) (pg_sub (pv 0) pe_int set_list))
      (pss_one (ps_ret (pe_op op_mod (pe_op op_add (pe_op op_fdiv (pe_ix (ix_seqK (K := K)) (pv 0) pe_int (fun _ _ => rfl)) pe_int) (pe_op op_mul (pe_op op_mod (pe_ix (ix_seqK (K := K)) (pv 0) pe_int (fun _ _ => rfl)) pe_int) pe_int)) (pv 1)))))))), ?_⟩
  obtain ⟨Rg, Ls, xs, n, i, b, sd, rfl, j, hn0, hn, ret⟩ := h
  have ts : Tsl [some (Iv NoM (.ref Rg)), some (Iv NoM (.int (n : Int))), none, none, none] (start ["_law_rng", "_law_amount", "_law_cell", "_law_got", "_law_seed"] [.ref Rg, .int (n : Int)]) H := wip_cons rfl (wip_cons rfl (non_cons (non_cons (non_cons nil_ts))))
  refine st_whenJ (fun σ H' => ∃ i b s, RJ H Rg Ls xs i b s H' ∧ Tsl [some (Iv NoM (.ref Rg)), some (Iv NoM (.int (n : Int))), none, none, none] σ H') (.start H) ts (tt_and (tt_test (ty_eqI (ty_rd2 j.at_ rfl) ty_c rfl)) fun _ => tt_test (ty_i0 (ty_rd1 j.at_ rfl) (ty_lenL (Pb := II) (l := xs) (R := XI Ls xs) (ty_rd0 j.at_ j.ls rfl) fun _ _ h => xi_lo h trivial))) (fun σ2 H2 p => ?_) (fun hb H2 e2 g2 t2 kk => ?_) fun hb H2 e2 g2 t2 => ⟨i, b, sd, j.up e2, t2⟩
  · obtain ⟨i, b, s, j2, t2⟩ := p
    obtain ⟨r1, r2, r3, r4⟩ := j2.rb
    refine st_when (.start H2) t2 (tt_test (ty_i0 (ty_rd2 j2.at_ rfl) ty_c)) (fun hb H3 e3 g3 t3 => ?_) fun hb H3 e3 g3 t3 => ?_
    · have j3 := j2.up e3
      refine st_set (Iv NoM (.int (b % (n : Int)))) (.start H3) t3 (ty_i (ty_rd2 j3.at_ rfl) (ty_var rfl) (show (0 : Int) < n by omega)) fun σ4 H4 e4 g4 t4 => ?_
      have j4 := j3.up e4
      refine q_rset (i2 := i) (b2 := b / (n : Int)) (s2 := s) (n := b / (n : Int)) 2 j4 t4 rfl ⟨mo_iv, mo_iv, mo_iv, trivial⟩ (ty_i (ty_rd2 j4.at_ rfl) (ty_var rfl) ?_) rfl ⟨r1, Int.ediv_nonneg r2 (by omega), r3, r4⟩ (by decide) fun H5 j5 t5 => ?_
      · exact ⟨by omega, by omega⟩
      · refine st_ret (R := Iv NoM (.int (b % (n : Int)))) (.start H5) t5 (ty_var rfl) fun v H' e x => ?_
        have x : v = _ := x
        subst x
        have m0 := Int.emod_nonneg b (show (n : Int) ≠ 0 by omega)
        have m1 := Int.emod_lt_of_pos b (show (0 : Int) < n by omega)
        have q := ret (b % (n : Int)).toNat H' i (b / (n : Int)) s (by omega) (j5.up e)
        rw [show (((b % (n : Int)).toNat : Nat) : Int) = b % (n : Int) by omega] at q
        exact q
    · have j3 := j2.up e3
      refine st_set (Iv NoM (.int s)) (.start H3) t3 (ty_rd3 j3.at_ rfl) fun σ4 H4 e4 g4 t4 => ?_
      have j4 := j3.up e4
      refine q_rset (i2 := i) (b2 := b) (s2 := (s * 62089 + s / 65543 * 37 + 1013904223) % 2147483647) (n := (s * 62089 + s / 65543 * 37 + 1013904223) % 2147483647) 3 j4 t4 rfl ⟨mo_iv, mo_iv, mo_iv, trivial⟩ (ty_i (ty_i0 (ty_i0 (ty_i (ty_var rfl) ty_c ?_) (ty_i (ty_i (ty_var rfl) ty_c ?_) ty_c ?_)) ty_c) ty_c (show (0 : Int) < 2147483647 by decide)) rfl ⟨r1, r2, Int.emod_nonneg _ (by decide), Int.emod_lt_of_pos _ (by decide)⟩ (by decide) fun H5 j5 t5 => ?_
      · exact cmul_r (by decide)
      · exact ⟨by decide, by decide⟩
      · exact cmul_r (by decide)
      · obtain ⟨_, _, q3, q4⟩ := j5.rb
        generalize (s * 62089 + s / 65543 * 37 + 1013904223) % 2147483647 = s5 at j5 q3 q4
        refine st_ret (R := Iv NoM (.int ((s5 / 89 + s5 % 8191 * 71) % (n : Int)))) (.start H5) t5 (ty_i (ty_i0 (ty_i (ty_rd3 j5.at_ rfl) ty_c ?_) (ty_i (ty_i (ty_rd3 j5.at_ rfl) ty_c ?_) ty_c ?_)) (ty_var rfl) (show (0 : Int) < n by omega)) fun v H' e x => ?_
        · exact ⟨by decide, by decide⟩
        · show (0 : Int) < 8191; decide
        · exact cmul_r (by decide)
        have x : v = _ := x
        subst x
        generalize s5 / 89 + s5 % 8191 * 71 = z
        have m0 := Int.emod_nonneg z (show (n : Int) ≠ 0 by omega)
        have m1 := Int.emod_lt_of_pos z (show (0 : Int) < n by omega)
        have q := ret (z % (n : Int)).toNat H' i b s5 (by omega) (j5.up e)
        rw [show (((z % (n : Int)).toNat : Nat) : Int) = z % (n : Int) by omega] at q
        exact q
  · obtain ⟨r1, r2, r3, r4⟩ := j.rb
    obtain ⟨hb1, hb2⟩ := Bool.and_eq_true_iff.mp hb
    have hb2 := of_decide_eq_true hb2
    have j2 := j.up e2
    obtain ⟨k, ek⟩ : ∃ k : Nat, i = (k : Int) := ⟨i.toNat, by omega⟩
    have hk : k < xs.length := by omega
    refine st_set (Iv NoM (.int (xs.getD k 0))) (.start H2) t2 (ty_ixI k (R := XI Ls xs) (ty_rd0 j2.at_ j2.ls rfl) (ty_rd1 j2.at_ rfl) (fun _ _ h => xi_lo h fun m => m) ek hk) fun σ3 H3 e3 g3 t3 => ?_
    have j3 := j2.up e3
    refine q_rset (i2 := i + 1) (b2 := b) (s2 := sd) (n := i + 1) 1 j3 t3 rfl ⟨mo_iv, mo_iv, mo_iv, trivial⟩ (ty_i0 (ty_rd1 j3.at_ rfl) ty_c) rfl ⟨by omega, r2, r3, r4⟩ (by decide) fun H4 j4 t4 => ?_
    generalize xs.getD k 0 = x at t4
    refine st_if1 (.start H4) t4 (tt_test (ty_i0 (ty_var rfl) (ty_i ty_c ty_c ?_))) (fun hc H5 e5 g5 t5 => ?_) fun hc H5 e5 g5 t5 => ?_
    · exact ⟨by decide, by decide, by decide⟩
    · have hc := of_decide_eq_true hc
      have e18 : (10 : Int) ^ (18 : Int).toNat = 10 ^ 18 := rfl
      rw [e18] at hc
      have j5 := j4.up e5
      refine st_rset (i2 := i + 1) (b2 := x) (s2 := sd) (n := x) 2 j5 t5 rfl ⟨mo_iv, mo_iv, mo_iv, trivial⟩ (ty_var rfl) rfl ⟨by omega, by omega, r3, r4⟩ (by decide) fun H6 j6 t6 => kk _ H6 ⟨_, _, _, j6, Tsl.to t6 ⟨.inr rfl, .inr rfl, .inl rfl, .inr rfl, .inr rfl, trivial⟩⟩
    · have j5 := j4.up e5
      refine st_rset (i2 := i + 1) (b2 := b) (s2 := (sd * 48271 + x % 2147483579 * 69697 + 29) % 2147483647) (n := (sd * 48271 + x % 2147483579 * 69697 + 29) % 2147483647) 3 j5 t5 rfl ⟨mo_iv, mo_iv, mo_iv, trivial⟩ (ty_i (ty_i0 (ty_i0 (ty_i (ty_rd3 j5.at_ rfl) ty_c ?_) (ty_i (ty_i (ty_var rfl) ty_c ?_) ty_c ?_)) ty_c) ty_c (show (0 : Int) < 2147483647 by decide)) rfl ⟨by omega, r2, Int.emod_nonneg _ (by decide), Int.emod_lt_of_pos _ (by decide)⟩ (by decide) fun H6 j6 t6 => kk _ H6 ⟨_, _, _, j6, Tsl.to t6 ⟨.inr rfl, .inr rfl, .inl rfl, .inr rfl, .inr rfl, trivial⟩⟩
      · exact cmul_r (by decide)
      · show (0 : Int) < 2147483579; decide
      · exact cmul_r (by decide)
end
end My
end
section
set_option Elab.async false
set_option linter.all false
set_option maxRecDepth 100000
set_option maxHeartbeats 2000000
namespace My
open PySem PySem.Spec PyProof.Rows L2 Evl
local macro_rules | `(tactic| walk_at "ty") => `(tactic| repeat' (first | exact ty_c | exact ty_var rfl | apply ty_num0 | apply ty_den1 | apply ty_i0 | apply ty_i | apply ty_un | apply ty_pair))
open Mi (at0)
section
variable {P : Program} {w : World} {K : PySem.W.Frag} {mg : Str → Option Value} {base : Heap}
theorem has_law_gcd (T : Tx K mg) : Has P w K mg base 1 "_law_gcd" ["_law_one", "_law_other"] spGcd := by
  refine has2 T.d_law_gcd sc_law_gcd (fun _ _ _ _ _ _ us hl => match us, hl with | [_, _], _ => rfl) fun f cdv A outer s H E hr => ⟨_,
    (pss_cons (ps_par (i := 0) (j := 1) (by rfl) sc_law_gcd.nd rfl rfl (by decide) rfl rfl (pa_cons (pe_callB call_abs (by rfl) T.b_abs (by decide +kernel) (pa_cons (pv 0) pa_nil)) (pa_cons (pe_callB call_abs (by rfl) T.b_abs (by decide +kernel) (pa_cons (pv 1) pa_nil)) pa_nil)) (by rfl))
      (pss_cons (ps_while PassesOwn.never (pt_cmpR op_ne (pv 1) pe_int (nomark _)) (pss_one (ps_par (i := 0) (j := 1) (by rfl) sc_law_gcd.nd rfl rfl (by decide) rfl rfl (pa_cons (pv 1) (pa_cons (pe_op op_mod (pv 0) (pv 1)) pa_nil)) (by rfl))))
      (pss_one (ps_ret (pv 0))))), ?_⟩
  rintro ⟨i, j⟩ v1 v2 Q h1 h2 - ret
  have h1 : v1 = .int i := h1
  have h2 : v2 = .int j := h2
  subst h1 h2
  have g : Good H NoM H := .start H
  have ts : Tsl [some (Iv NoM (.int i)), some (Iv NoM (.int j))] (start ["_law_one", "_law_other"] [.int i, .int j]) H := wip_cons rfl (wip_cons rfl nil_ts)
  refine st_par g ts (ta_cons (ty_cb1 (ty_var rfl) fun H Q q => ⟨i, rfl, q⟩) (ta_cons (ty_cb1 (ty_var rfl) fun H Q q => ⟨j, rfl, q⟩) ta_nil)) fun σ1 H1 e1 g1 t1 => ?_
  rw [abs_nat, abs_nat] at t1
  refine q_while (fun m σ' H' => ∃ a b : Nat, Good H NoM H' ∧ Tsl [some (Iv NoM (.int a)), some (Iv NoM (.int b))] σ' H' ∧ Nat.gcd a b = Nat.gcd i.natAbs j.natAbs ∧ m = b) j.natAbs ⟨i.natAbs, j.natAbs, g1, t1, rfl, rfl⟩ ?_
  rintro m σ' H' ⟨a, b, g2, t2, hg, hm⟩
  subst hm
  refine ⟨decide (m ≠ 0), fun H2 e2 Q2 q2 => tt_is (tt_test (ty_neI (ty_var (i := 1) rfl) ty_c rfl)) ?_ σ' H2 (g2.up e2) (t2.up e2) Q2 q2, fun hb H2 e2 => ?_, fun hb H2 e2 => ?_⟩
  · rw [dec_int]; by_cases h : m = 0 <;> simp [h]
  · have hb : m ≠ 0 := of_decide_eq_true hb
    refine ⟨fun σ3 H3 => ∃ m', m' < m ∧ ∃ a b : Nat, Good H NoM H3 ∧ Tsl [some (Iv NoM (.int a)), some (Iv NoM (.int b))] σ3 H3 ∧ Nat.gcd a b = Nat.gcd i.natAbs j.natAbs ∧ m' = b, fun _ _ z => z, ?_⟩
    refine st_par1 (g2.up e2) (t2.up e2) (ta_cons (ty_var (i := 1) rfl) (ta_cons (ty_i (ty_var (i := 0) rfl) (ty_var (i := 1) rfl) (show (0:Int) < (m : Int) by omega)) ta_nil)) fun σ3 H3 e3 g3 t3 => ?_
    exact ⟨a % m, Nat.mod_lt _ (by omega), m, a % m, g3, t3, by rw [gcd_mod a m hb]; exact hg, rfl⟩
  · have hb : m = 0 := by simpa using hb
    subst hb
    refine st_ret (g2.up e2) (t2.up e2) (ty_var (i := 0) rfl) fun v H3 e3 r => ?_
    refine ret v H3 ((g2.up e2).up e3).ex0 ?_
    rw [show v = V.int (a : Int) from r]
    have : Nat.gcd a 0 = a := Nat.gcd_zero_right a
    show V.int (a : Int) = V.int ((Nat.gcd i.natAbs j.natAbs : Nat) : Int)
    rw [← hg, this]
theorem has_law_low (T : Tx K mg) : Has P w K mg base 2 "_law_low" ["_law_top", "_law_bottom"] (spLow K) := by
  have h_law_gcd := has_law_gcd (P := P) (w := w) (base := base) T
  refine has2 T.d_law_low sc_law_low (fun _ _ _ _ _ _ us hl => match us, hl with | [_, _], _ => rfl) fun f cdv A outer s H E hr => ⟨_,
    (pss_cons (ps_set (i := 2) sc_law_low.nd rfl (Or.inl rfl) (pe_has h_law_gcd (hr.mono (by decide)) (pa_cons (pv 0) (pa_cons (pv 1) pa_nil))))
      (pss_cons (ps_if (pt_cmpR op_lt (pv 1) pe_int (nomark _)) (pss_one (ps_set (i := 2) sc_law_low.nd rfl (Or.inl rfl) (pe_un un_neg (pv 2)))) pss_nil)
      (pss_one (ps_ret (pe_tup (pa_cons (pe_op op_fdivW (pv 0) (pv 2)) (pa_cons (pe_op op_fdivW (pv 1) (pv 2)) pa_nil))))))), ?_⟩
  rintro ⟨n, d⟩ v1 v2 Q h1 h2 ⟨h0, hd⟩ ret
  have g : Good H NoM H := .start H
  have ts : Tsl [some (Iv NoM (.int n)), some (Iv NoM (.int (d : Int))), none] (start ["_law_top", "_law_bottom", "_law_shared"] [v1, v2]) H := wip_cons h1 (wip_cons h2 (non_cons nil_ts))
  have t1 := ts
  have g1 := g
  have e1 := Ex.refl H
  refine st_set (Iv NoM (.int ((Nat.gcd n.natAbs d : Nat) : Int))) g1 t1 (ty_int (ty_gcd (ty_var (i := 0) rfl) (ty_var (i := 1) rfl)) rfl) fun σ2 H2 e2 g2 t2 => ?_
  refine st_when g2 t2 (tt_test (ty_i0 (ty_var (i := 1) rfl) ty_c)) (fun hb => ?_) fun _ H3 e3 g3 t3 => ?_
  · exact absurd (of_decide_eq_true hb) (by show ¬ (d : Int) < 0; omega)
  have hg0 : 0 < Nat.gcd n.natAbs d := Nat.gcd_pos_of_pos_right _ (by omega)
  have hg1 : Nat.gcd n.natAbs d ≤ d := Nat.le_of_dvd (by omega) (Nat.gcd_dvd_right _ _)
  have hw : CDivW n ((Nat.gcd n.natAbs d : Nat) : Int) := wide_div (b := 8900) (by omega) (by rw [Int.natAbs_natCast]; exact Nat.lt_of_le_of_lt hg1 hd) (by decide) (by decide)
  have hw2 : CDivW (d : Int) ((Nat.gcd n.natAbs d : Nat) : Int) := hw
  refine st_ret (R := Qs NoM K (mkRat n d)) g3 t3 ?_ fun v H' e r => ?_
  · show Ty _ _ _ _ _
    walk_at "ty"
    · exact hw
    · exact hw2
    · rw [Rat.num_mkRat, if_neg h0, Nat.gcd_comm]
    · rw [Rat.den_mkRat, if_neg h0, Nat.gcd_comm]; rfl
  · exact ret v H' ((e1.trans e2).trans (e3.trans e)) r
theorem has_law_plus (T : Tx K mg) : Has P w K mg base 3 "_law_plus" ["_law_one", "_law_other"] (spPlus K) := by
  have h_law_low := has_law_low (P := P) (w := w) (base := base) T
  refine has2 T.d_law_plus sc_law_plus (fun _ _ _ _ _ _ us hl => match us, hl with | [_, _], _ => rfl) fun f cdv A outer s H E hr => ⟨_,
    (pss_one (ps_ret (pe_has h_law_low (hr.mono (by decide)) (pa_cons (pe_op op_add (pe_op op_mulW (pe_ix (ix_seqK (K := K)) (pv 0) pe_int (fun _ _ => rfl)) (pe_ix (ix_seqK (K := K)) (pv 1) pe_int (fun _ _ => rfl))) (pe_op op_mulW (pe_ix (ix_seqK (K := K)) (pv 1) pe_int (fun _ _ => rfl)) (pe_ix (ix_seqK (K := K)) (pv 0) pe_int (fun _ _ => rfl)))) (pa_cons (pe_op op_mulW (pe_ix (ix_seqK (K := K)) (pv 0) pe_int (fun _ _ => rfl)) (pe_ix (ix_seqK (K := K)) (pv 1) pe_int (fun _ _ => rfl))) pa_nil))))), ?_⟩
  rintro ⟨q, r⟩ v1 v2 Q h1 h2 ⟨hq, hr'⟩ ret
  have g : Good H NoM H := .start H
  have ts : Tsl [some (Qs NoM K q), some (Qs NoM K r)] (start ["_law_one", "_law_other"] [v1, v2]) H := wip_cons h1 (wip_cons h2 nil_ts)
  have hm := sm_mul hq hr'
  have hm' := sm_mul hr' hq
  refine st_ret (R := Qs NoM K (q + r)) g ts ?_ fun v H' e x => ?_
  · refine ty_q (ty_low ?_ ?_ (d := q.den * r.den) hm.2.2.2.2.1 hm.2.2.2.2.2) (Rat.add_def' q r).symm
    · walk_at "ty"
      · exact hm.2.1
      · exact hm'.2.1
    · apply ty_int
      · walk_at "ty"
        exact hm.2.2.2.1
      · rfl
  · exact ret v H' e x
theorem has_law_times (T : Tx K mg) : Has P w K mg base 3 "_law_times" ["_law_one", "_law_other"] (spTimes K) := by
  have h_law_low := has_law_low (P := P) (w := w) (base := base) T
  refine has2 T.d_law_times sc_law_times (fun _ _ _ _ _ _ us hl => match us, hl with | [_, _], _ => rfl) fun f cdv A outer s H E hr => ⟨_,
    (pss_one (ps_ret (pe_has h_law_low (hr.mono (by decide)) (pa_cons (pe_op op_mulW (pe_ix (ix_seqK (K := K)) (pv 0) pe_int (fun _ _ => rfl)) (pe_ix (ix_seqK (K := K)) (pv 1) pe_int (fun _ _ => rfl))) (pa_cons (pe_op op_mulW (pe_ix (ix_seqK (K := K)) (pv 0) pe_int (fun _ _ => rfl)) (pe_ix (ix_seqK (K := K)) (pv 1) pe_int (fun _ _ => rfl))) pa_nil))))), ?_⟩
  rintro ⟨q, r⟩ v1 v2 Q h1 h2 ⟨hq, hr'⟩ ret
  have g : Good H NoM H := .start H
  have ts : Tsl [some (Qs NoM K q), some (Qs NoM K r)] (start ["_law_one", "_law_other"] [v1, v2]) H := wip_cons h1 (wip_cons h2 nil_ts)
  have hm := sm_mul hq hr'
  refine st_ret (R := Qs NoM K (q * r)) g ts ?_ fun v H' e x => ?_
  · refine ty_q (ty_low ?_ ?_ (d := q.den * r.den) hm.2.2.2.2.1 hm.2.2.2.2.2) (Rat.mul_def' q r).symm
    · walk_at "ty"
      exact hm.1
    · apply ty_int
      · walk_at "ty"
        exact hm.2.2.2.1
      · rfl
  · exact ret v H' e x
end
end My
end
section
set_option Elab.async false
set_option linter.all false
set_option maxRecDepth 100000
set_option maxHeartbeats 2000000
namespace My
open PySem PySem.Spec PyProof.Rows L2 Evl
open Mi (at0)
/-! products of polynomials -/
def pmRow (one other f : List Rat) (i : Nat) : Nat → List Rat
  | 0 => f
  | j + 1 => (pmRow one other f i j).set (i + j) (at0 (pmRow one other f i j) (i + j) + at0 one i * at0 other j)
def pmTo (one other : List Rat) : Nat → List Rat
  | 0 => List.replicate (one.length + other.length - 1) 0
  | i + 1 => pmRow one other (pmTo one other i) i other.length
def polyMul (one other : List Rat) : List Rat := pmTo one other one.length
theorem pmRow_len (one other f : List Rat) (i : Nat) : ∀ j, (pmRow one other f i j).length = f.length
  | 0 => rfl
  | j + 1 => by unfold pmRow; rw [List.length_set, pmRow_len one other f i j]
theorem pmTo_len (one other : List Rat) : ∀ i, (pmTo one other i).length = one.length + other.length - 1
  | 0 => List.length_replicate
  | i + 1 => by unfold pmTo; rw [pmRow_len, pmTo_len one other i]
structure PmOk (one other : List Rat) : Prop where
  l1 : 1 ≤ one.length
  l2 : 1 ≤ other.length
  le : one.length + other.length ≤ 10
  s1 : ∀ x ∈ one, Sm x
  s2 : ∀ x ∈ other, Sm x
  s : ∀ i, i < one.length → ∀ j, j < other.length → Sm (at0 (pmRow one other (pmTo one other i) i j) (i + j)) ∧ Sm (at0 one i * at0 other j)
  last : at0 (polyMul one other) (one.length + other.length - 2) ≠ 0
abbrev spLtrim (K : PySem.W.Frag) : Sp := Sp1 (ι := List Rat) (fun i => LO (IQ K) i) (fun i => 0 < i.length ∧ i.length ≤ 9 ∧ at0 i (i.length - 1) ≠ 0) (fun i => LO (IQ K) i)
abbrev spProd (K : PySem.W.Frag) : Sp := Sp2 (ι := List Rat × List Rat) (fun i => LO (IQ K) i.1) (fun i => LO (IQ K) i.2) (fun i => PmOk i.1 i.2) (fun i => LO (IQ K) (polyMul i.1 i.2))
section
variable {M : Addr → Prop} {H0 : Hp} {K : PySem.W.Frag} {ps : List (Option (SV M))} {ta tb te : TE} {E : XK} {q r : Rat} {R R1 R' : SV M}
theorem shaped_lq {cs : List Rat} (h : cs.length ≤ 9) : SeqAt.shaped (.list (cs.map qD)) = true := by
  match cs, h with
  | [], _ => rfl
  | [_], _ => rfl
  | [_, _], _ => rfl
  | [_, _, _], _ => rfl
  | [_, _, _, _], _ => rfl
  | [_, _, _, _, _], _ => rfl
  | [_, _, _, _, _, _], _ => rfl
  | [_, _, _, _, _, _, _], _ => rfl
  | [_, _, _, _, _, _, _, _], _ => rfl
  | [_, _, _, _, _, _, _, _, _], _ => rfl
  | _ :: _ :: _ :: _ :: _ :: _ :: _ :: _ :: _ :: _ :: _, h => simp at h
theorem eqv_lq0 (cs : List Rat) : PyData.eqv (.list (cs.map qD)) (.list []) = decide (cs = []) := by
  cases cs <;> rfl
/-- xs == [], xs != [] -/
theorem ty_eqLQ0 {cs : List Rat} (ha : Ty H0 M ps ta R) (hR : ∀ H v, R.R H v → LO (IQ K) cs (fun a => ¬ M a) H v) (hl : cs.length ≤ 9) : Ty H0 M ps (tOp (rEqD K) ta (tLst tNil)) (Iv M (.bl (decide (cs = [])))) := fun σ H g t Q k =>
  ha σ H g t _ fun v H2 e2 h2 => ⟨by show 0 ≤ sizeLine; decide, fun p hp => by
    obtain ⟨a, vs, rfl, _, hA, pA⟩ := hR _ _ (R.st (.ofEx (Ex.new (o := .lst []) hp)) h2)
    refine ⟨_, .list [], .lst (SqL.of hA) (dpall_q pA), .lst (SqL.of upd_same) .nil, shaped_lq hl, rfl, ?_⟩
    rw [eqv_lq0]
    exact k _ _ (e2.trans (Ex.new hp)) rfl⟩
theorem ty_neLQ0 {cs : List Rat} (ha : Ty H0 M ps ta R) (hR : ∀ H v, R.R H v → LO (IQ K) cs (fun a => ¬ M a) H v) (hl : cs.length ≤ 9) : Ty H0 M ps (tOp (rNeD K) ta (tLst tNil)) (Iv M (.bl (!decide (cs = [])))) := fun σ H g t Q k =>
  ha σ H g t _ fun v H2 e2 h2 => ⟨by show 0 ≤ sizeLine; decide, fun p hp => by
    obtain ⟨a, vs, rfl, _, hA, pA⟩ := hR _ _ (R.st (.ofEx (Ex.new (o := .lst []) hp)) h2)
    refine ⟨_, .list [], .lst (SqL.of hA) (dpall_q pA), .lst (SqL.of upd_same) .nil, shaped_lq hl, rfl, ?_⟩
    rw [eqv_lq0]
    exact k _ _ (e2.trans (Ex.new hp)) rfl⟩
theorem ty_prod {one other : List Rat} (h1 : Ty H0 M ps ta R) (hR : ∀ H v, R.R H v → LO (IQ K) one Tr H v) (h2 : Ty H0 M ps tb R1) (hR1 : ∀ H v, R1.R H v → LO (IQ K) other Tr H v) (ok : PmOk one other) : Ty H0 M ps (tCall (spProd K) [] E (tCons ta (tCons tb tNil))) (Fr M H0 (LO (IQ K) (polyMul one other))) :=
  ty_call2 (ι := List Rat × List Rat) (one, other) h1 h2 hR hR1 ok
end
section
variable {P : Program} {w : World} {K : PySem.W.Frag} {mg : Str → Option Value} {base : Heap}
theorem has_law_trim (T : Tx K mg) : Has P w K mg base 1 "_law_trim" ["_law_parts"] (spLtrim K) := by
  refine has1 T.d_law_trim sc_law_trim (fun _ _ _ _ _ _ us hl => match us, hl with | [_], _ => rfl) fun f cdv A outer s H E hr => ⟨_,
    (pss_cons (ps_set (i := 1) sc_law_trim.nd rfl (Or.inl rfl) (pe_callTy (list_ofK (K := K)) (by rfl) T.b_list (by decide +kernel) (pa_cons (pv 0) pa_nil)))
      (pss_cons (ps_while PassesOwn.never (PW.pt (pw_and (pt_cmpR (neDK (K := K) hr.units) (pv 1) (pe_lst pa_nil) (nomark _)) (pw_and1 (pt_cmpR (eqDK (K := K) hr.units) (pe_ix (ix_seqK (K := K)) (pv 1) (pe_un un_neg pe_int) (fun _ _ => rfl)) (pe_tup (pa_cons pe_int (pa_cons pe_int pa_nil))) (nomark _))))) (pss_one (ps_expr (pe_bm0 PySem.F.plainAttrs_list PySem.F.slot_list_pop PySem.F.type_list_pop mt_pop (pv 1)))))
      (pss_one (ps_ret (pv 1))))), ?_⟩
  intro cs v1 Q h1 ⟨h0, hl, hz⟩ ret
  have hne : cs ≠ [] := fun z => by rw [z] at h0; simp at h0
  have g : Good H NoM H := .start H
  have ts : Tsl [some (An NoM (LO (IQ K) cs)), none] (start ["_law_parts", "_law_found"] [v1]) H := wip_cons (Mn.mono (P := LO (IQ K) cs) (fun _ _ z => z) h1) (non_cons nil_ts)
  refine st_set (Fr NoM H (LO (IQ K) cs)) g ts (ty_listQ (R := An NoM (LO (IQ K) cs)) (ty_var rfl) fun _ _ h => an_tr h) fun σ2 H2 e2 g2 t2 => ?_
  refine q_while (fun m σ' H' => Good H NoM H' ∧ Tsl [some (An NoM (LO (IQ K) cs)), some (Fr NoM H (LO (IQ K) cs))] σ' H') 0 ⟨g2, t2⟩ ?_
  rintro m σ' H' ⟨g3, t3⟩
  refine ⟨false, fun H4 e4 Q4 q4 => ?_, (fun hb => by cases hb), fun _ H4 e4 => ?_⟩
  · refine (tt_is (tt_and (tt_test (ty_neLQ0 (R := Fr NoM H (LO (IQ K) cs)) (ty_var rfl) (fun _ _ h => fr_an h) hl)) fun _ => tt_test (ty_eqQ (q := at0 cs (cs.length - 1)) (r := 0) ?_ (ty_pair ty_c ty_c rfl rfl))) ?_) σ' H4 (g3.up e4) (t3.up e4) Q4 q4
    · exact ty_ixLn (R := Fr NoM H (LO (IQ K) cs)) (i := -1) (at0 cs (cs.length - 1)) (Qs NoM K (at0 cs (cs.length - 1))) (ty_var rfl) (fun _ _ h => fr_an h) (ty_un ty_c) (at_last (0 : Rat) h0) fun _ _ h => h
    · rw [decide_eq_false hz, Bool.and_false]
  · exact st_ret (R := Fr NoM H (LO (IQ K) cs)) (g3.up e4) (t3.up e4) (ty_var rfl) fun v H' e x => ret v H' ((g3.up e4).up e).ex0 (Mn.mono (fun _ z => z.2) x)
theorem has_law_product (T : Tx K mg) : Has P w K mg base 4 "_law_product" ["_law_one", "_law_other"] (spProd K) := by
  have h_law_plus := has_law_plus (P := P) (w := w) (base := base) T
  have h_law_times := has_law_times (P := P) (w := w) (base := base) T
  have h_law_trim := has_law_trim (P := P) (w := w) (base := base) T
  refine has2 T.d_law_product sc_law_product (fun _ _ _ _ _ _ us hl => match us, hl with | [_, _], _ => rfl) fun f cdv A outer s H E hr => ⟨_,
    (pss_cons (ps_if (PW.pt (pw_or (pt_cmpR (eqDK (K := K) hr.units) (pv 0) (pe_lst pa_nil) (nomark _)) (pw_or1 (pt_cmpR (eqDK (K := K) hr.units) (pv 1) (pe_lst pa_nil) (nomark _))))) (pss_one (ps_ret (pe_lst pa_nil))) pss_nil)
      (pss_cons (ps_set (i := 2) sc_law_product.nd rfl (Or.inl rfl) (pe_op op_rep (pe_lst (pa_cons (pe_tup (pa_cons pe_int (pa_cons pe_int pa_nil))) pa_nil)) (pe_op op_sub (pe_op op_add (pe_callB (len_seqK (K := K)) (by rfl) T.b_len (by decide +kernel) (pa_cons (pv 0) pa_nil)) (pe_callB (len_seqK (K := K)) (by rfl) T.b_len (by decide +kernel) (pa_cons (pv 1) pa_nil))) pe_int)))
      (pss_cons (ps_for PassesOwn.never rfl (pi_range1 (by rfl) T.b_range (pa_cons (pe_callB (len_seqK (K := K)) (by rfl) T.b_len (by decide +kernel) (pa_cons (pv 0) pa_nil)) pa_nil)) (pg_name (i := 3) sc_law_product.nd rfl (Or.inl rfl)) (pss_one (ps_for PassesOwn.never rfl (pi_range1 (by rfl) T.b_range (pa_cons (pe_callB (len_seqK (K := K)) (by rfl) T.b_len (by decide +kernel) (pa_cons (pv 1) pa_nil)) pa_nil)) (pg_name (i := 4) sc_law_product.nd rfl (Or.inl rfl)) (pss_one (ps_asg (pe_has h_law_plus (hr.mono (by decide)) (pa_cons (pe_ix (ix_seqK (K := K)) (pv 2) (pe_op op_add (pv 3) (pv 4)) (fun _ _ => rfl)) (pa_cons (pe_has h_law_times (hr.mono (by decide)) (pa_cons (pe_ix (ix_seqK (K := K)) (pv 0) (pv 3) (fun _ _ => rfl)) (pa_cons (pe_ix (ix_seqK (K := K)) (pv 1) (pv 4) (fun _ _ => rfl)) pa_nil))) pa_nil))) (pg_sub (pv 2) (pe_op op_add (pv 3) (pv 4)) set_list))))))
      (pss_one (ps_ret (pe_has h_law_trim (hr.mono (by decide)) (pa_cons (pv 2) pa_nil))))))), ?_⟩
  rintro ⟨one, other⟩ v1 v2 Q h1 h2 ok ret
  dsimp only at ok
  have hl1 := ok.l1
  have hl2 := ok.l2
  have hle := ok.le
  have n1 : one ≠ [] := fun z => by rw [z] at hl1; simp at hl1
  have n2 : other ≠ [] := fun z => by rw [z] at hl2; simp at hl2
  have g : Good H NoM H := .start H
  have ts : Tsl [some (At NoM (fun a => H a ≠ none) (fun _ _ m => m) (LO (IQ K) one)), some (At NoM (fun a => H a ≠ none) (fun _ _ m => m) (LO (IQ K) other)), none, none, none] (start ["_law_one", "_law_other", "_law_found", "_law_i", "_law_j"] [v1, v2]) H :=
    wip_cons (Mn.mono (P := LO (IQ K) one) (fun _ z => z.2) (Mn.tr h1)) (wip_cons (Mn.mono (P := LO (IQ K) other) (fun _ z => z.2) (Mn.tr h2)) (non_cons (non_cons (non_cons nil_ts))))
  refine st_when g ts (tt_or (tt_test (ty_eqLQ0 (R := At NoM (fun a => H a ≠ none) (fun _ _ m => m) (LO (IQ K) one)) (ty_var rfl) (fun _ _ h => Mn.mono (P := LO (IQ K) one) (fun _ _ m => m) h) (by omega))) fun _ => tt_test (ty_eqLQ0 (R := At NoM (fun a => H a ≠ none) (fun _ _ m => m) (LO (IQ K) other)) (ty_var rfl) (fun _ _ h => Mn.mono (P := LO (IQ K) other) (fun _ _ m => m) h) (by omega))) (fun hb => ?_) fun _ H2 e2 g2 t2 => ?_
  · rw [decide_eq_false n1, decide_eq_false n2] at hb
    cases hb
  have lenO : ∀ (B : Hp) (ps : List (Option (SV NoM))), ps[0]? = some (some (At NoM (fun a => H a ≠ none) (fun _ _ m => m) (LO (IQ K) one))) → Ty B NoM ps (tCB (rLenA K) (tCons (tVar 0) tNil)) (Iv NoM (.int (one.length : Int))) := fun B ps h => ty_lenL (R := At NoM (fun a => H a ≠ none) (fun _ _ m => m) (LO (IQ K) one)) (ty_var h) fun _ _ h => Mn.any h
  have lenR : ∀ (B : Hp) (ps : List (Option (SV NoM))), ps[1]? = some (some (At NoM (fun a => H a ≠ none) (fun _ _ m => m) (LO (IQ K) other))) → Ty B NoM ps (tCB (rLenA K) (tCons (tVar 1) tNil)) (Iv NoM (.int (other.length : Int))) := fun B ps h => ty_lenL (R := At NoM (fun a => H a ≠ none) (fun _ _ m => m) (LO (IQ K) other)) (ty_var h) fun _ _ h => Mn.any h
  refine st_setV (Fr NoM H2 (LO (IQ K) (pmTo one other 0))) g2.base t2 ?_ fun v H3 e3 r3 => ?_
  · refine ty_rep (Pb := IQ K) (c := (0 : Rat)) (n := (one.length : Int) + other.length - 1) (m := one.length + other.length - 1) ?_ (ty_i0 (ty_i0 (lenO _ _ rfl) (lenR _ _ rfl)) ty_c) (by omega) (by omega)
    exact ty_lst1 (R := Qs NoM K 0) (ty_pair ty_c ty_c rfl rfl) fun _ _ h => h
  obtain ⟨F, vs, rfl, ⟨_, hF2⟩, hF, hp⟩ := r3
  have g3 := g2.up e3
  have hFH : H F = none := fresh_back g2.ex0 hF2
  let Sl : List Rat → Option (SV NoM) → List (Option (SV NoM)) := fun l x => [some (At NoM (fun a => H a ≠ none) (fun _ _ m => m) (LO (IQ K) one)), some (At NoM (fun a => H a ≠ none) (fun _ _ m => m) (LO (IQ K) other)), some (Ow F (fun a => a ≠ F) (IQ K) l), x, none]
  have t3 : Tsl (Sl (pmTo one other 0) none) _ H3 := (t2.up e3).set (i := 2) (R := Ow F (fun a => a ≠ F) (IQ K) (pmTo one other 0)) (v := .ref F) ⟨rfl, vs, hF, hp⟩
  refine st_for1 one.length g3 t3 (ta_cons (lenO _ _ rfl) ta_nil) (by omega) (by omega) (fun i => Sl (pmTo one other i) none) (fun _ _ t => t) (fun i σ4 H4 hi g4 t4 D' hD cont => ?_) fun σ4 H4 g4 t4 => ?_
  · refine st_for1e other.length g4 t4 (ta_cons (lenR _ _ rfl) ta_nil) (by omega) (by omega) (fun j => Sl (pmRow one other (pmTo one other i) i j) (some (Iv NoM (.int (i : Int))))) (fun _ _ t => t) (fun j σ5 H5 hj g5 t5 D2 hD2 cont2 => ?_) fun σ5 H5 g5 t5 => cont _ H5 g5 (Tsl.to t5 ⟨.inr rfl, .inr rfl, .inr rfl, .inl rfl, .inr rfl, trivial⟩)
    obtain ⟨s3, s4⟩ := ok.s i hi j hj
    have hlen : (pmRow one other (pmTo one other i) i j).length = one.length + other.length - 1 := by rw [pmRow_len, pmTo_len]
    refine st_storeO (H0 := H) (F := F) (i := 2) (S := fun a => a ≠ F) (l := pmRow one other (pmTo one other i) i j) (R := Qs NoM K (at0 (pmRow one other (pmTo one other i) i j) (i + j) + at0 one i * at0 other j)) (x := (i : Int) + j) (i + j) (at0 (pmRow one other (pmTo one other i) i j) (i + j) + at0 one i * at0 other j) g5.base g5 hFH t5 rfl ?_ (ty_i0 (ty_var rfl) (ty_var rfl)) (by omega) (by omega) (fun _ _ h => h) (fun _ z => z) ?_ fun H6 g6 t6 => ?_
    · refine ty_plus (ty_ixQL (R := Ow F (fun a => a ≠ F) (IQ K) (pmRow one other (pmTo one other i) i j)) (i := (i : Int) + j) (i + j) (ty_var rfl) ?_ (fun _ _ h => ow_an h) (by omega) (by omega)) (ty_times (ty_ixQL (R := At NoM (fun a => H a ≠ none) (fun _ _ m => m) (LO (IQ K) one)) i (ty_var rfl) (ty_var rfl) (fun _ _ h => Mn.mono (P := LO (IQ K) one) (fun _ _ m => m) h) rfl hi) (ty_ixQL (R := At NoM (fun a => H a ≠ none) (fun _ _ m => m) (LO (IQ K) other)) j (ty_var rfl) (ty_var rfl) (fun _ _ h => Mn.mono (P := LO (IQ K) other) (fun _ _ m => m) h) rfl hj) (ok.s1 _ (at0_mem hi)) (ok.s2 _ (at0_mem hj))) s3 s4
      exact ty_i0 (ty_var rfl) (ty_var rfl)
    · exact ⟨mo_at fun a ha z => ha (z ▸ hFH), mo_at fun a ha z => ha (z ▸ hFH), mo_iv, mo_iv, trivial⟩
    · exact cont2 _ H6 g6 (Tsl.to t6 ⟨.inr rfl, .inr rfl, .inr rfl, .inr rfl, .inl rfl, trivial⟩)
  · have hpl : (polyMul one other).length = one.length + other.length - 1 := pmTo_len one other _
    refine st_ret (R := Fr NoM H4 (LO (IQ K) (polyMul one other))) g4.base.base t4 (ty_call1 (H0 := H4) (ι := List Rat) (R1 := Ow F (fun a => a ≠ F) (IQ K) (polyMul one other)) (polyMul one other) (ty_var rfl) (fun _ _ h => ow_tr h) ⟨by omega, by omega, by rw [hpl, show one.length + other.length - 1 - 1 = one.length + other.length - 2 by omega]; exact ok.last⟩) fun v H' e x => ret v H' (g4.up e).ex0 (Mn.mono (fun _ z => fresh_back g4.ex0 z.2) x)
end
end My
end
section
set_option Elab.async false
set_option linter.all false
set_option maxRecDepth 100000
set_option maxHeartbeats 2000000
set_option exponentiation.threshold 100000
namespace My
open PySem PySem.Spec PyProof.Rows L2 Evl
open Mi (at0)
/-- q is a whole number of 2^e ths, at most B -/
def W (e B : Nat) (q : Rat) : Prop := ∃ a : Int, q * ((2 ^ e : Nat) : Rat) = (a : Rat) ∧ a.natAbs ≤ B * 2 ^ e
theorem W.add {e B B' : Nat} {q r : Rat} (h : W e B q) (h' : W e B' r) : W e (B + B') (q + r) := by
  obtain ⟨a, e1, l1⟩ := h
  obtain ⟨b, e2, l2⟩ := h'
  refine ⟨a + b, by rw [Rat.add_mul, e1, e2, Rat.intCast_add], ?_⟩
  have := Int.natAbs_add_le a b
  rw [Nat.add_mul]
  omega
theorem W.mul {e e' B B' : Nat} {q r : Rat} (h : W e B q) (h' : W e' B' r) : W (e + e') (B * B') (q * r) := by
  obtain ⟨a, e1, l1⟩ := h
  obtain ⟨b, e2, l2⟩ := h'
  refine ⟨a * b, ?_, ?_⟩
  · rw [Rat.intCast_mul, ← e1, ← e2, Nat.pow_add, Rat.natCast_mul]
    grind
  · rw [Int.natAbs_mul, Nat.pow_add]
    calc a.natAbs * b.natAbs ≤ (B * 2 ^ e) * (B' * 2 ^ e') := Nat.mul_le_mul l1 l2
      _ = B * B' * (2 ^ e * 2 ^ e') := by grind
theorem W.zero (e B : Nat) : W e B 0 := ⟨0, by rw [Rat.zero_mul]; rfl, Nat.zero_le _⟩
theorem W.mono {e B B' : Nat} {q : Rat} (h : W e B q) (l : B ≤ B') : W e B' q := by
  obtain ⟨a, e1, l1⟩ := h
  exact ⟨a, e1, Nat.le_trans l1 (Nat.mul_le_mul_right _ l)⟩
theorem W.int (n : Int) (B : Nat) (h : n.natAbs ≤ B) : W 0 B (n : Rat) := ⟨n, by rw [Nat.pow_zero]; exact Rat.mul_one _, by rw [Nat.pow_zero]; omega⟩
theorem W.up {e B : Nat} {q : Rat} (k : Nat) (h : W e B q) : W (e + k) B q := by
  have h1 : W k 1 1 := ⟨((2 ^ k : Nat) : Int), by rw [Rat.one_mul]; rfl, by rw [Int.natAbs_natCast]; omega⟩
  have h2 := h.mul h1
  rw [Rat.mul_one, Nat.mul_one] at h2
  exact h2
theorem W.eq {e B : Nat} {q : Rat} (h : W e B q) : ∃ a : Int, q = mkRat a (2 ^ e) ∧ a.natAbs ≤ B * 2 ^ e := by
  obtain ⟨a, e1, l1⟩ := h
  refine ⟨a, ?_, l1⟩
  have hc : ((2 ^ e : Nat) : Rat) ≠ 0 := fun z => by
    have := Rat.natCast_eq_zero_iff.mp z
    have hp : 0 < 2 ^ e := Nat.two_pow_pos e
    omega
  rw [Rat.mkRat_eq_div, ← e1, Rat.div_def, Rat.mul_assoc, Rat.mul_inv_cancel _ hc, Rat.mul_one]
theorem mk_num (a : Int) (d : Nat) (h : d ≠ 0) : (mkRat a d).num.natAbs ≤ a.natAbs ∧ (mkRat a d).den ≤ d := by
  rw [Rat.num_mkRat, Rat.den_mkRat, if_neg h, if_neg h]
  exact ⟨Int.natAbs_ediv_le_natAbs _ _, Nat.div_le_self _ _⟩
theorem W.sm {e B : Nat} {q : Rat} (h : W e B q) (he : e ≤ 4000) (hB : B * 2 ^ e < 2 ^ 20000) : Sm q := by
  obtain ⟨a, rfl, l⟩ := h.eq
  have hp : 0 < 2 ^ e := Nat.two_pow_pos e
  obtain ⟨h1, h2⟩ := mk_num a (2 ^ e) (by omega)
  exact ⟨Nat.lt_of_le_of_lt (Nat.le_trans h1 l) hB, Nat.lt_of_le_of_lt h2 (Nat.pow_lt_pow_right (by decide) (by omega))⟩
theorem at0_set (l : List Rat) (i k : Nat) (v : Rat) (h : i < l.length) : at0 (l.set i v) k = if k = i then v else at0 l k := by
  unfold at0
  rw [List.getD_eq_getElem?_getD, List.getElem?_set]
  by_cases e : i = k
  · rw [if_pos e, if_pos h, if_pos e.symm]
    rfl
  · rw [if_neg e, if_neg fun z => e z.symm, List.getD_eq_getElem?_getD]
structure PInv (E BB lb i j : Nat) (f : List Rat) : Prop where
  w : ∀ k, W E (if i ≤ k ∧ k < i + j then (i + 1) * BB else i * BB) (at0 f k)
  z : ∀ k, i + j ≤ k → (i = 0 ∨ i - 1 + lb ≤ k) → at0 f k = 0
theorem PInv.row {e e' B B' : Nat} {one other : List Rat} (h1 : ∀ k, k < one.length → W e B (at0 one k)) (h2 : ∀ k, k < other.length → W e' B' (at0 other k)) {i : Nat} (hi : i < one.length) {f : List Rat} (hf : f.length = one.length + other.length - 1) (p : PInv (e + e') (B * B') other.length i 0 f) :
    ∀ j, j ≤ other.length → PInv (e + e') (B * B') other.length i j (pmRow one other f i j)
  | 0, _ => p
  | j + 1, hj => by
    have q := PInv.row h1 h2 hi hf p j (by omega)
    have hl : i + j < (pmRow one other f i j).length := by rw [pmRow_len, hf]; omega
    unfold pmRow
    refine ⟨fun k => ?_, fun k hk hz => ?_⟩
    · rw [at0_set _ _ _ _ hl]
      by_cases e1 : k = i + j
      · rw [if_pos e1, if_pos ⟨by omega, by omega⟩]
        have w1 := q.w (i + j)
        rw [if_neg (by omega)] at w1
        have w2 := w1.add ((h1 i hi).mul (h2 j (by omega)))
        rw [show (i + 1) * (B * B') = i * (B * B') + B * B' by rw [Nat.add_mul, Nat.one_mul]]
        exact w2
      · rw [if_neg e1]
        have w1 := q.w k
        by_cases e2 : i ≤ k ∧ k < i + j
        · rw [if_pos e2] at w1
          rw [if_pos ⟨e2.1, by omega⟩]
          exact w1
        · rw [if_neg e2] at w1
          rw [if_neg (by omega)]
          exact w1
    · rw [at0_set _ _ _ _ hl, if_neg (by omega)]
      exact q.z k (by omega) hz
theorem PInv.to {e e' B B' : Nat} {one other : List Rat} (h1 : ∀ k, k < one.length → W e B (at0 one k)) (h2 : ∀ k, k < other.length → W e' B' (at0 other k)) (l2 : 1 ≤ other.length) : ∀ i, i ≤ one.length → PInv (e + e') (B * B') other.length i 0 (pmTo one other i)
  | 0, _ => by
    have z : ∀ k, at0 (pmTo one other 0) k = 0 := fun k => by
      unfold pmTo at0
      rw [List.getD_eq_getElem?_getD, List.getElem?_replicate]
      split <;> rfl
    exact ⟨fun k => by rw [z]; exact W.zero _ _, fun k _ _ => z k⟩
  | i + 1, hi => by
    have q := PInv.row h1 h2 (i := i) (by omega) (pmTo_len one other i) (PInv.to h1 h2 l2 i (by omega)) other.length (Nat.le_refl _)
    unfold pmTo
    refine ⟨fun k => ?_, fun k hk hz => ?_⟩
    · rw [if_neg (by omega)]
      have w1 := q.w k
      refine w1.mono ?_
      split
      · exact Nat.le_refl _
      · exact Nat.mul_le_mul_right _ (by omega)
    · exact q.z k (by omega) (by omega)
theorem pmW {e e' B B' : Nat} {one other : List Rat} (h1 : ∀ k, k < one.length → W e B (at0 one k)) (h2 : ∀ k, k < other.length → W e' B' (at0 other k)) (l1 : 1 ≤ one.length) (l2 : 1 ≤ other.length) (le : one.length + other.length ≤ 10) (z1 : at0 one (one.length - 1) = 1) (z2 : at0 other (other.length - 1) = 1)
    (he : e + e' ≤ 1000) (hB : 10 * (B * B') * 2 ^ (e + e') < 2 ^ 20000) (hB1 : B * 2 ^ e < 2 ^ 20000) (hB2 : B' * 2 ^ e' < 2 ^ 20000) :
    PmOk one other ∧ at0 (polyMul one other) (one.length + other.length - 2) = 1 ∧ (polyMul one other).length = one.length + other.length - 1 ∧ ∀ k, W (e + e') (one.length * (B * B')) (at0 (polyMul one other) k) := by
  have row := fun i (hi : i < one.length) j (hj : j ≤ other.length) => PInv.row h1 h2 hi (pmTo_len one other i) (PInv.to h1 h2 l2 i (by omega)) j hj
  have hlast : at0 (polyMul one other) (one.length + other.length - 2) = 1 := by
    obtain ⟨a, ea⟩ : ∃ a, one.length = a + 1 := ⟨one.length - 1, by omega⟩
    obtain ⟨b, eb⟩ : ∃ b, other.length = b + 1 := ⟨other.length - 1, by omega⟩
    have e1 : polyMul one other = pmRow one other (pmTo one other a) a (b + 1) := by
      unfold polyMul
      rw [ea]
      show pmRow one other (pmTo one other a) a other.length = _
      rw [eb]
    have hl : a + b < (pmRow one other (pmTo one other a) a b).length := by rw [pmRow_len, pmTo_len]; omega
    have r := row a (by omega) b (by omega)
    rw [e1]
    show at0 ((pmRow one other (pmTo one other a) a b).set (a + b) _) _ = 1
    rw [at0_set _ _ _ _ hl, if_pos (by omega), r.z (a + b) (Nat.le_refl _) (by omega)]
    rw [ea, Nat.add_sub_cancel] at z1
    rw [eb, Nat.add_sub_cancel] at z2
    rw [z1, z2, Rat.one_mul, Rat.zero_add]
  have sB : ∀ {n : Nat} {q : Rat}, n ≤ 10 → W (e + e') (n * (B * B')) q → Sm q := fun {n q} hn w => w.sm (by omega) (Nat.lt_of_le_of_lt (Nat.mul_le_mul_right _ (Nat.mul_le_mul_right _ hn)) hB)
  refine ⟨⟨l1, l2, le, fun x hx => ?_, fun x hx => ?_, fun i hi j hj => ⟨?_, ?_⟩, ?_⟩, hlast, pmTo_len one other _, fun k => ?_⟩
  · obtain ⟨k, hk, rfl⟩ := List.getElem_of_mem hx
    have w := h1 k hk
    have e1 : at0 one k = one[k] := Option.some.inj ((getD_some hk).symm.trans (List.getElem?_eq_getElem hk))
    rw [e1] at w
    exact w.sm (by omega) hB1
  · obtain ⟨k, hk, rfl⟩ := List.getElem_of_mem hx
    have w := h2 k hk
    have e1 : at0 other k = other[k] := Option.some.inj ((getD_some hk).symm.trans (List.getElem?_eq_getElem hk))
    rw [e1] at w
    exact w.sm (by omega) hB2
  · have w := (row i hi j (by omega)).w (i + j)
    rw [if_neg (by omega)] at w
    exact sB (by omega) w
  · have w := (h1 i hi).mul (h2 j hj)
    rw [← Nat.one_mul (B * B')] at w
    exact sB (by omega) w
  · rw [hlast]
    decide
  · have w := (PInv.to h1 h2 l2 one.length (Nat.le_refl _)).w k
    rw [if_neg (by omega)] at w
    exact w
/-! the product of x - n -/
def exTo (ns : List Rat) : Nat → List Rat
  | 0 => [1]
  | i + 1 => polyMul (exTo ns i) [-(at0 ns i), 1]
/-- their bounds -/
def bE : Nat → Nat
  | 0 => 1
  | i + 1 => (i + 1) * (bE i * 3)
theorem W.neg {e B : Nat} {q : Rat} (h : W e B q) : W e B (-q) := by
  obtain ⟨a, e1, l⟩ := h
  exact ⟨-a, by rw [Rat.neg_mul, e1]; rfl, by rw [Int.natAbs_neg]; exact l⟩
theorem bE_small : ∀ i ∈ List.range 5, bE i ≤ 1944 := by decide +kernel
theorem exW {ns : List Rat} (hn : ∀ k, k < ns.length → W 1 3 (at0 ns k)) (hl : ns.length ≤ 4) : ∀ i, i ≤ ns.length → (exTo ns i).length = i + 1 ∧ at0 (exTo ns i) i = 1 ∧ (∀ k, W i (bE i) (at0 (exTo ns i) k)) ∧ (i < ns.length → PmOk (exTo ns i) [-(at0 ns i), 1])
  | 0, _ => by
    have w0 : ∀ k, W 0 1 (at0 [1] k) := fun k => by
      match k with
      | 0 => exact W.int 1 1 (by decide)
      | k + 1 => exact W.zero 0 1
    refine ⟨rfl, rfl, w0, fun h => ?_⟩
    refine (pmW (e := 0) (B := 1) (e' := 1) (B' := 3) (fun k _ => w0 k) (fun k hk => ?_) (by decide) (by show 1 ≤ 2; decide) (by show 1 + 2 ≤ 10; decide) rfl rfl (by decide) (by decide +kernel) (by decide +kernel) (by decide +kernel)).1
    have hk : k < 2 := hk
    match k, hk with
    | 0, _ => exact (hn 0 h).neg
    | 1, _ => exact ((W.int 1 3 (by decide)).up 1 : W 1 3 1)
  | i + 1, hi => by
    obtain ⟨l, z, w, p⟩ := exW hn hl i (by omega)
    have h2 : ∀ j, j < ns.length → ∀ k, k < [-(at0 ns j), 1].length → W 1 3 (at0 [-(at0 ns j), 1] k) := fun j hj k hk => by
      have hk : k < 2 := hk
      match k, hk with
      | 0, _ => exact (hn j hj).neg
      | 1, _ => exact ((W.int 1 3 (by decide)).up 1 : W 1 3 1)
    have big : ∀ {e B : Nat}, e ≤ 10 → B ≤ 10 ^ 9 → B * 2 ^ e < 2 ^ 20000 := fun {e B} he hB => by
      calc B * 2 ^ e ≤ 10 ^ 9 * 2 ^ 10 := Nat.mul_le_mul hB (Nat.pow_le_pow_right (by decide) he)
        _ < 2 ^ 20000 := by decide +kernel
    have bi := bE_small i (List.mem_range.mpr (by omega))
    have main := pmW (one := exTo ns i) (other := [-(at0 ns i), 1]) (fun k _ => w k) (h2 i (by omega)) (by omega) (by show 1 ≤ 2; decide) (by rw [l]; show i + 1 + 2 ≤ 10; omega) (by rw [l]; exact z) rfl (by omega) (big (by omega) (by omega)) (big (by omega) (by omega)) (by decide +kernel)
    obtain ⟨_, z', l', w'⟩ := main
    rw [l] at z' l' w'
    have l2 : (exTo ns (i + 1)).length = i + 2 := l'
    have z2 : at0 (exTo ns (i + 1)) (i + 1) = 1 := z'
    have w2 : ∀ k, W (i + 1) (bE (i + 1)) (at0 (exTo ns (i + 1)) k) := w'
    refine ⟨l2, z2, w2, fun h => ?_⟩
    have bi2 := bE_small (i + 1) (List.mem_range.mpr (by omega))
    exact (pmW (one := exTo ns (i + 1)) (other := [-(at0 ns (i + 1)), 1]) (fun k _ => w2 k) (h2 (i + 1) h) (by omega) (by show 1 ≤ 2; decide) (by rw [l2]; show i + 2 + 2 ≤ 10; omega) (by rw [l2]; exact z2) rfl (by omega) (big (by omega) (by omega)) (big (by omega) (by omega)) (by decide +kernel)).1
end My
end
section
set_option Elab.async false
set_option linter.all false
set_option maxRecDepth 100000
set_option maxHeartbeats 2000000
set_option exponentiation.threshold 100000
namespace My
open PySem PySem.Spec PyProof.Rows L2 Evl
open Mi (at0)
/-! the generator, drawn from -/
def RGP : VP := fun S H v => ∃ (Rg Ls : Addr) (xs : List Int), v = .ref Rg ∧ H Rg = some (RX Rg Ls) ∧ S Ls ∧ H Ls = some (.lst (xs.map V.int))
instance : Mn RGP := ⟨fun s k ⟨Rg, Ls, xs, e, h, hs, hl⟩ => ⟨Rg, Ls, xs, e, k Rg _ h (fun ⟨_, z⟩ => nomatch z), s _ hs, k Ls _ hl fun _ => hs⟩, fun ⟨Rg, Ls, xs, e, h, hs, hl⟩ => ⟨Rg, Ls, xs, e, h, ⟨hs, by rw [hl]; exact fun z => nomatch z⟩, hl⟩⟩
/-- an int, a rational, a list of rationals, of which something is known -/
def XE (P : Int → Prop) : SV NoM := ⟨fun _ v => ∃ i, P i ∧ v = .int i, fun _ h => h⟩
def XQ (K : PySem.W.Frag) (P : Rat → Prop) : SV NoM := ⟨fun H v => ∃ q, P q ∧ (Qs NoM K q).R H v, fun k ⟨q, p, h⟩ => ⟨q, p, (Qs NoM K q).st k h⟩⟩
def XL (K : PySem.W.Frag) (H0 : Hp) (P : List Rat → Prop) : SV NoM := ⟨fun H v => ∃ l, P l ∧ (Fr NoM H0 (LO (IQ K) l)).R H v, fun k ⟨l, p, h⟩ => ⟨l, p, (Fr NoM H0 (LO (IQ K) l)).st k h⟩⟩
abbrev spDraw : Sp := fun vs H Q _ => ∃ (v1 : V) (n : Nat), vs = [v1, .int (n : Int)] ∧ RGP Tr H v1 ∧ 0 < n ∧ n < 1000 ∧ ∀ (r : Nat) H', r < n → Ex H H' → Q (.int (r : Int)) H'
abbrev spPick (K : PySem.W.Frag) : Sp := fun vs H Q _ => ∃ (v1 v2 : V) (ns : List Rat), vs = [v1, v2] ∧ RGP Tr H v1 ∧ LO (IQ K) ns Tr H v2 ∧ 0 < ns.length ∧ ns.length < 1000 ∧ ∀ q ∈ ns, Ret (IQ K q) H Q
/-- small numbers: at most so many -/
def NsOk (m : Nat) (ns : List Rat) : Prop := ns.length ≤ m ∧ ∀ x ∈ ns, W 1 3 x
abbrev spSmall (K : PySem.W.Frag) : Sp := fun vs H Q _ => ∃ (v1 : V) (m : Nat), vs = [v1, .int (m : Int)] ∧ RGP Tr H v1 ∧ m ≤ 4 ∧ ∀ ns, NsOk m ns → Ret (LO (IQ K) ns) H Q
abbrev spExp (K : PySem.W.Frag) : Sp := Sp1 (ι := List Rat) (fun i => LO (IQ K) i) (fun i => NsOk 4 i) (fun i => LO (IQ K) (exTo i i.length))
theorem NsOk.at {m : Nat} {ns : List Rat} (h : NsOk m ns) (k : Nat) (hk : k < ns.length) : W 1 3 (at0 ns k) := h.2 _ (at0_mem hk)
section
variable {H0 H B : Hp} {K : PySem.W.Frag} {ps : List (Option (SV NoM))} {ta tb te : TE} {tt u : TT} {E : XK} {R R1 R' : SV NoM} {σ : L2.St} {D : Ends} {tz tu tw : TS} {P P' P'' : Int → Prop}
theorem ty_cX {n : Int} (h : P n) : Ty H0 NoM ps (tC (.int n)) (XE P) := ty_conv ty_c fun _ v r => ⟨n, h, r⟩
theorem ty_i0X {g : Int → Int → Int} (ha : Ty H0 NoM ps ta (XE P)) (hb : Ty H0 NoM ps tb (XE P')) (hg : ∀ i j, P i → P' j → P'' (g i j)) : Ty H0 NoM ps (tOp (rI0 fun i j => .int (g i j)) ta tb) (XE P'') := fun σ H gd t Q q =>
  ha σ H gd t _ fun v H2 e2 ⟨i, hi, e⟩ => hb σ H2 (gd.up e2) (t.up e2) _ fun w H3 e3 ⟨j, hj, e'⟩ => ⟨i, j, e, e', q _ H3 (e2.trans e3) ⟨_, hg i j hi hj, rfl⟩⟩
theorem ty_iX {C : Int → Int → Prop} {g : Int → Int → Int} (ha : Ty H0 NoM ps ta (XE P)) (hb : Ty H0 NoM ps tb (XE P')) (hc : ∀ i j, P i → P' j → C i j) (hg : ∀ i j, P i → P' j → P'' (g i j)) : Ty H0 NoM ps (tOp (rI C fun i j => .int (g i j)) ta tb) (XE P'') := fun σ H gd t Q q =>
  ha σ H gd t _ fun v H2 e2 ⟨i, hi, e⟩ => hb σ H2 (gd.up e2) (t.up e2) _ fun w H3 e3 ⟨j, hj, e'⟩ => ⟨i, j, e, e', hc i j hi hj, q _ H3 (e2.trans e3) ⟨_, hg i j hi hj, rfl⟩⟩
theorem ty_draw {n : Nat} (h1 : Ty H0 NoM ps ta R) (hR : ∀ H v, R.R H v → RGP Tr H v) (h2 : Ty H0 NoM ps tb (Iv NoM (.int (n : Int)))) (h0 : 0 < n) (hn : n < 1000) : Ty H0 NoM ps (tCall spDraw [] E (tCons ta (tCons tb tNil))) (XE fun i => 0 ≤ i ∧ i < n) :=
  ty_call (ta_cons h1 (ta_cons h2 ta_nil)) fun H vs Q g p q => by
    cases p with
    | cons r t => cases t with
      | cons r' t' =>
        cases t'
        have r' : _ = V.int (n : Int) := r'
        subst r'
        exact ⟨_, n, rfl, hR _ _ r, h0, hn, fun k H' hk e => q _ H' e ⟨(k : Int), ⟨by omega, by omega⟩, rfl⟩⟩
theorem ty_lowX {Pq : Rat → Prop} (ha : Ty H0 NoM ps ta (XE P)) (hb : Ty H0 NoM ps tb (XE P')) (h : ∀ n d, P n → P' d → ∃ k : Nat, d = (k : Int) ∧ k ≠ 0 ∧ k < 2 ^ 8900 ∧ Pq (mkRat n k)) : Ty H0 NoM ps (tCall (spLow K) [] E (tCons ta (tCons tb tNil))) (XQ K Pq) :=
  ty_call (ta_cons ha (ta_cons hb ta_nil)) fun H vs Q g p q => by
    cases p with
    | cons r t => cases t with
      | cons r' t' =>
        cases t'
        obtain ⟨n, hn, rfl⟩ := r
        obtain ⟨d, hd, rfl⟩ := r'
        obtain ⟨k, rfl, k0, kl, pq⟩ := h n d hn hd
        exact ⟨(n, k), .int n, .int (k : Int), rfl, rfl, rfl, ⟨k0, kl⟩, fun v H' e w => q v H' e ⟨_, pq, w⟩⟩
theorem ty_pairX {Pq : Rat → Prop} (ha : Ty H0 NoM ps ta (XE P)) (h : ∀ n, P n → Pq (n : Rat)) : Ty H0 NoM ps (tTup (tCons ta (tCons (tC (.int 1)) tNil))) (XQ K Pq) := fun σ H g t Q q =>
  (ta_cons ha (ta_cons (ty_c (v := .int 1)) ta_nil)) σ H g t _ fun vs H2 e p => by
    cases p with
    | cons r t => cases t with
      | cons r' t' =>
        cases t'
        obtain ⟨n, hn, rfl⟩ := r
        have r' : _ = V.int 1 := r'
        subst r'
        exact ⟨by show 2 ≤ sizeLine; decide, fun p hp => q _ _ (e.trans (Ex.new hp)) ⟨(n : Rat), h n hn, p, rfl, SqT.of upd_same⟩⟩
theorem ty_numX {Pq : Rat → Prop} (h : Ty H0 NoM ps ta (XQ K Pq)) (hp : ∀ q, Pq q → P q.num) : Ty H0 NoM ps (tOp (rIx K) ta (tC (.int 0))) (XE P) := fun σ H g t Q q =>
  h σ H g t _ fun v H2 e2 ⟨x, px, a, e, hs⟩ => by
    subst e
    exact .inr (.inl ⟨a, _, 0, _, rfl, rfl, hs, ix_at (j := 0) rfl rfl, q _ H2 e2 ⟨_, hp x px, rfl⟩⟩)
/-- a test of which only this is known -/
def TyX (H0 : Hp) (ps : List (Option (SV NoM))) (t : TT) (P : Bool → Prop) : Prop := ∀ σ H, Good H0 NoM H → Tsl ps σ H → ∀ Q : Bool → Hp → Prop, (∀ b H2, Ex H H2 → P b → Q b H2) → t σ H Q
theorem tx_and {b : Bool} (h1 : TyT H0 NoM ps tt b) (h2 : b = true → TyX H0 ps u fun _ => True) : TyX H0 ps (tAnd tt u) fun c => c = true → b = true := fun σ H g ts Q q => h1 σ H g ts _ fun H2 e => by
  cases b with
  | true =>
    show u σ H2 Q
    exact h2 rfl σ H2 (g.up e) (ts.up e) Q fun c H3 e3 _ => q c H3 (e.trans e3) fun _ => rfl
  | false => exact q false H2 e fun z => z
theorem tx_eq0 (h : Ty H0 NoM ps ta (XE P)) : TyX H0 ps (tTest (tOp rEq ta (tC (.int 0)))) fun _ => True := fun σ H g ts Q q =>
  h σ H g ts _ fun v H2 e2 ⟨i, _, e⟩ => by
    subst e
    exact ⟨rfl, _, rfl, q _ H2 e2 trivial⟩
theorem st_ifX {Pb : Bool → Prop} (J : L2.St → Hp → Prop) (g : Good B NoM H) (ts : Tsl ps σ H) (h : TyX B ps tt Pb) (k : ∀ σ H, J σ H → tz D σ H) (h1 : Pb true → ∀ H', Ex H H' → Good B NoM H' → Tsl ps σ H' → (∀ σ H, J σ H → tz D σ H) → tu { D with nx := tz D } σ H') (h2 : ∀ H', Ex H H' → Good B NoM H' → Tsl ps σ H' → J σ H') : tSeq (tIfS tt tu tNext) tz D σ H :=
  h σ H g ts _ fun b H2 e p => by
    cases b with
    | true => exact h1 p H2 e (g.up e) (ts.up e) k
    | false => exact k _ _ (h2 H2 e (g.up e) (ts.up e))
/-- a loop over range of a number below N -/
theorem st_forXE {t : TE} {j : Nat} (N : Nat) (hN : N ≤ 1000) (g : Good B NoM H) (ts : Tsl ps σ H) (h : Ty B NoM ps t (XE fun i => 0 ≤ i ∧ i < N)) (I : Nat → L2.St → Hp → Prop)
    (h0 : ∀ H', Ex H H' → I 0 σ H')
    (hs : ∀ (i : Nat) σ' H', i + 1 < N → I i σ' H' → ∀ D' : Ends, D'.rt = D.rt → (∀ σ2 H2, I (i + 1) σ2 H2 → D'.nx σ2 H2) → tu D' (σ'.set j (some (.int (i : Int)))) H')
    (hd : ∀ n σ' H', n < N → I n σ' H' → tz D σ' H') : tSeq (tFor (iRng1 (tCons t tNil)) (gName j) tu) tz D σ H := by
  unfold tSeq tFor iRng1
  refine (ta_cons h ta_nil) σ H g ts _ fun vs H1 e p => ?_
  cases p with
  | cons r t' =>
    cases t'
    obtain ⟨i, ⟨i0, iN⟩, rfl⟩ := r
    refine ⟨i, rfl, by omega, by omega, for_range (lo := 0) (n := i.toNat) I (h0 _ e) (fun k σ' H' hk p => ?_) fun σ' H' p => hd _ σ' H' (by omega) p⟩
    have e0 : (0 : Int) + (k : Int) = (k : Int) := Int.zero_add _
    rw [e0]
    exact hs k _ H' (by omega) p _ rfl fun σ2 H2 g => g
/-- a comprehension over range of a number below N -/
theorem ty_lcX {Pq : Rat → Prop} {t : TE} {j : Nat} {vs : List Nat} (N : Nat) (hN : N ≤ 1000) (h : Ty H0 NoM ps t (XE fun i => 0 ≤ i ∧ i < N)) (he : ∀ (B : Hp) (i : Nat), Good H0 NoM B → Ty B NoM ((wipeP ps vs).set j (some (Iv NoM (.int (i : Int))))) te (XQ K Pq)) (hj : j ∈ vs) :
    Ty H0 NoM ps (tLc (iRng1 (tCons t tNil)) (gName j) tYes te vs) (XL K H0 fun l => l.length < N ∧ ∀ x ∈ l, Pq x) := fun σ H gd ts Q q => by
  unfold tLc iRng1
  refine (ta_cons h ta_nil) σ H gd ts _ fun us H2 e2 p => ?_
  cases p with
  | cons r t' =>
    cases t'
    obtain ⟨n, ⟨n0, nN⟩, rfl⟩ := r
    refine ⟨n, rfl, by omega, by omega, fun D hD => ?_⟩
    have gd2 := gd.up e2
    have ts2 := ts.up e2
    refine lc_it (walk_range (lo := 0) (n := n.toNat)) (fun i H' => Ex H2 H' ∧ ∃ l xs, H' D = some (.lst xs) ∧ l.length = i ∧ (∀ x ∈ l, Pq x) ∧ Paired (fun b x => IQ K b Tr H' x) l xs) ⟨Ex.new hD, [], [], upd_same, rfl, (fun x hx => by cases hx), .nil⟩ (fun _ _ _ _ => trivial) (fun i x H' H4 hi p y => ?_) fun H' p => ?_
    · obtain ⟨rfl, rfl⟩ := y
      obtain ⟨eH, l, xs, hx, hl, hP, hp⟩ := p
      have e0 : (0 : Int) + (i : Int) = (i : Int) := Int.zero_add _
      have gd4 := gd2.up eH
      show wipe ((wipe σ vs).set j (some (.int ((0 : Int) + (i : Int))))) vs = wipe σ vs ∧ _
      rw [e0]
      refine ⟨wipe_set _ hj, ?_⟩
      show te _ H4 _
      refine he H4 i gd4 _ H4 gd4.base (Tsl.set (R := Iv NoM (.int (i : Int))) (show V.int ((0 : Int) + (i : Int)) = V.int (i : Int) by rw [e0]) ((ts2.up eH).wipe vs)) _ fun v H7 e7 r => ?_
      obtain ⟨qq, pq, r⟩ := r
      have hx7 := e7 D _ hx
      have hlen := pr_len hp
      refine ⟨xs, hx7, sz_lt (by omega), Ex.mut (eH.trans e7) hD, l ++ [qq], xs ++ [v], upd_same, by rw [List.length_append, hl]; rfl, fun x hx => ?_, pr_app (Paired.mapR hp fun b x k => iq_mut hx7 (Mn.ex (P := IQ K b) e7 k)) (.cons (iq_mut hx7 r) .nil)⟩
      rcases List.mem_append.mp hx with hx | hx
      · exact hP x hx
      · rw [List.mem_singleton.mp hx]; exact pq
    · obtain ⟨eH, l, xs, hx, hl, hP, hp⟩ := p
      exact q _ H' (e2.trans eH) ⟨l, ⟨by omega, hP⟩, D, xs, rfl, gd2.fresh hD, hx, hp⟩
end
section
variable {P : Program} {w : World} {K : PySem.W.Frag} {mg : Str → Option Value} {base : Heap}
theorem has_draw (T : Tx K mg) : Has P w K mg base 1 "_law_draw" ["_law_rng", "_law_amount"] spDraw := by
  have h := has_drawE (P := P) (w := w) (base := base) T
  obtain ⟨fd, F, bd⟩ := h.ex
  refine ⟨⟨fd, (fn_rng F).imp fun vs H Q E h => ?_, bd⟩, h.gl, h.kp⟩
  obtain ⟨v1, n, rfl, ⟨Rg, Ls, xs, rfl, hR, _, hL⟩, h0, hn, ret⟩ := h
  have ne : Ls ≠ Rg := fun z => by rw [z, hR] at hL; cases hL
  refine ⟨Rg, Ls, rfl, hR, fun i b s rb => ⟨Rg, Ls, xs, n, i, b, s, rfl, ⟨fun _ _ _ h => h, upd_same, by rw [upd_ne ne]; exact hL, ne, rb⟩, h0, hn, fun r H' i2 b2 s2 hr j => ⟨i2, b2, s2, j.rb, j.at_, ret r _ hr fun a o q => ?_⟩⟩⟩
  by_cases z : a = Rg
  · subst z
    rw [upd_same]
    exact hR.symm.trans q
  · rw [upd_ne z]
    exact j.kp a o z (by rw [upd_ne z]; exact q)
theorem has_pick (T : Tx K mg) : Has P w K mg base 2 "_law_pick" ["_law_rng", "_law_things"] (spPick K) := by
  have h_law_draw := has_draw (P := P) (w := w) (base := base) T
  refine has_of T.d_law_pick sc_law_pick (fun vs H Q E h => by obtain ⟨_, _, _, rfl, _⟩ := h; rfl) (fun _ _ _ _ _ _ us hl => match us, hl with | [_, _], _ => rfl) fun f cdv A outer s H vs Q E hr h => ⟨_,
    (pss_one (ps_ret (pe_ix (ix_seqK (K := K)) (pv 1) (pe_has h_law_draw (hr.mono (by decide)) (pa_cons (pv 0) (pa_cons (pe_callB (len_seqK (K := K)) (by rfl) T.b_len (by decide +kernel) (pa_cons (pv 1) pa_nil)) pa_nil))) (fun _ _ => rfl)))), ?_⟩
  obtain ⟨v1, v2, ns, rfl, h1, h2, h0, hl, ret⟩ := h
  have g : Good H NoM H := .start H
  have ts : Tsl [some (An NoM RGP), some (An NoM (LO (IQ K) ns))] (start ["_law_rng", "_law_things"] [v1, v2]) H := wip_cons (Mn.mono (P := RGP) (fun _ _ z => z) h1) (wip_cons (Mn.mono (P := LO (IQ K) ns) (fun _ _ z => z) h2) nil_ts)
  refine st_ret (R := XQ K fun q => q ∈ ns) g ts (fun σ' H' g' t' Q' q' => ?_) fun v H' e x => ?_
  · refine (ty_var (i := 1) (R := An NoM (LO (IQ K) ns)) rfl) σ' H' g' t' _ fun v H2 e2 r2 => ?_
    refine ty_draw (n := ns.length) (R := An NoM RGP) (ty_var rfl) (fun _ _ h => Mn.any h) (ty_lenL (R := An NoM (LO (IQ K) ns)) (ty_var rfl) fun _ _ h => an_tr h) h0 hl σ' H2 (g'.up e2) (t'.up e2) _ fun y H3 e3 r3 => ?_
    obtain ⟨i, ⟨i0, iN⟩, rfl⟩ := r3
    obtain ⟨a, vs, rfl, _, hs, p⟩ := (An NoM (LO (IQ K) ns)).st (.ofEx e3) r2
    have hi : i.toNat < ns.length := by omega
    obtain ⟨x, hx, px⟩ := pr_get p (getD_some hi)
    exact .inl ⟨a, vs, i, x, rfl, rfl, SqL.of hs, ix_at (j := i.toNat) (by omega) hx, q' x H3 (e2.trans e3) ⟨_, at0_mem hi, px⟩⟩
  · obtain ⟨q, hq, r⟩ := x
    exact ret q hq v H' e r
theorem has_expand (T : Tx K mg) : Has P w K mg base 5 "_law_expand" ["_law_numbers"] (spExp K) := by
  have h_law_product := has_law_product (P := P) (w := w) (base := base) T
  refine has1 T.d_law_expand sc_law_expand (fun _ _ _ _ _ _ us hl => match us, hl with | [_], _ => rfl) fun f cdv A outer s H E hr => ⟨_,
    (pss_cons (ps_set (i := 1) sc_law_expand.nd rfl (Or.inl rfl) (pe_lst (pa_cons (pe_tup (pa_cons pe_int (pa_cons pe_int pa_nil))) pa_nil)))
      (pss_cons (ps_for PassesOwn.never rfl (pi_listK (K := K) (pv 0)) (pg_name (i := 2) sc_law_expand.nd rfl (Or.inl rfl)) (pss_one (ps_set (i := 1) sc_law_expand.nd rfl (Or.inl rfl) (pe_has h_law_product (hr.mono (by decide)) (pa_cons (pv 1) (pa_cons (pe_lst (pa_cons (pe_tup (pa_cons (pe_un un_neg (pe_ix (ix_seqK (K := K)) (pv 2) pe_int (fun _ _ => rfl))) (pa_cons (pe_ix (ix_seqK (K := K)) (pv 2) pe_int (fun _ _ => rfl)) pa_nil))) (pa_cons (pe_tup (pa_cons pe_int (pa_cons pe_int pa_nil))) pa_nil))) pa_nil))))))
      (pss_one (ps_ret (pv 1))))), ?_⟩
  intro ns v1 Q h1 ok ret
  have g : Good H NoM H := .start H
  have ts : Tsl [some (An NoM (LO (IQ K) ns)), none, none] (start ["_law_numbers", "_law_found", "_law_part"] [v1]) H := wip_cons (Mn.mono (P := LO (IQ K) ns) (fun _ _ z => z) h1) (non_cons (non_cons nil_ts))
  have hex := exW (ns := ns) ok.at ok.1
  refine st_set (Fr NoM H (LO (IQ K) (exTo ns 0))) g ts (ty_lst1 (R := Qs NoM K 1) (ty_pair ty_c ty_c rfl rfl) fun _ _ h => h) fun σ2 H2 e2 g2 t2 => ?_
  refine st_forL (Pb := IQ K) (l := ns) g2 t2 (ty_var rfl) (fun _ _ h => h) (fun i => [some (An NoM (LO (IQ K) ns)), some (Fr NoM H (LO (IQ K) (exTo ns i))), none]) (fun _ _ t => t) (fun B i c σ3 H3 hc gB g3 t3 D' hD cont => ?_) fun σ3 H3 g3 t3 => ?_
  · have hi : i < ns.length := (List.getElem?_eq_some_iff.mp hc).1
    have ec : at0 ns i = c := by
      rw [getD_some hi] at hc
      exact Option.some.inj hc
    obtain ⟨_, _, _, pm⟩ := hex i (by omega)
    refine st_set1 (Fr NoM H (LO (IQ K) (exTo ns (i + 1)))) (gB.trans g3) t3 ?_ fun σ4 H4 e4 g4 t4 => cont σ4 H4 (g3.up e4) (Tsl.to t4 ⟨.inr rfl, .inr rfl, .inl rfl, trivial⟩)
    refine ty_prod (R := Fr NoM H (LO (IQ K) (exTo ns i))) (R1 := Fr NoM H (LO (IQ K) [-(at0 ns i), 1])) (ty_var rfl) (fun _ _ h => fr_tr h) ?_ (fun _ _ h => fr_tr h) (pm hi)
    have tc : ∀ B', Ty B' NoM [some (An NoM (LO (IQ K) ns)), some (Fr NoM H (LO (IQ K) (exTo ns i))), some (An NoM (IQ K c))] (tVar 2) (Qs NoM K c) := fun B' => ty_conv (ty_var (i := 2) rfl) fun _ _ h => h
    rw [ec]
    refine ty_lst (ta_cons (R := Qs NoM K (-c)) (ty_pair (n := -c.num) (ty_un (g := fun i => V.int (-i)) (ty_num0 (tc _))) (ty_den1 (tc _)) (Rat.neg_num c).symm rfl) (ta_cons (R := Qs NoM K 1) (ty_pair ty_c ty_c rfl rfl) ta_nil)) (by show 2 ≤ 100000; decide) fun H vs p => ?_
    cases p with
    | cons r1 t => cases t with
      | cons r2 t => cases t; exact .cons r1 (.cons r2 .nil)
  · exact st_ret (R := Fr NoM H (LO (IQ K) (exTo ns ns.length))) g3 t3 (ty_var rfl) fun v H' e x => ret v H' (g3.up e).ex0 (Mn.mono (fun _ z => z.2) x)
end
end My
end
section
set_option Elab.async false
set_option linter.all false
set_option maxRecDepth 100000
set_option maxHeartbeats 2000000
set_option exponentiation.threshold 100000
namespace My
open PySem PySem.Spec PyProof.Rows L2 Evl
open Mi (at0)
theorem w_half (n : Int) (B : Nat) (h : n.natAbs ≤ B * 2) : W 1 B (mkRat n 2) := by
  refine ⟨n, ?_, by rw [Nat.pow_one]; exact h⟩
  have h2 : ((2 ^ 1 : Nat) : Rat) = 2 := rfl
  rw [h2, Rat.mkRat_eq_div]
  exact Rat.div_mul_cancel (by decide)
theorem w_whole (n : Int) (B : Nat) (h : n.natAbs ≤ B) : W 1 B (mkRat n 1) := by
  have e : mkRat n 1 = (n : Rat) := by rw [Rat.mkRat_eq_div]; have h1 : ((1 : Nat) : Rat) = 1 := rfl; rw [h1]; grind
  rw [e]
  exact (W.int n B h).up 1
theorem w_num {e B : Nat} {q : Rat} (h : W e B q) : q.num.natAbs ≤ B * 2 ^ e := by
  obtain ⟨a, rfl, l⟩ := h.eq
  exact Nat.le_trans (mk_num a _ (by have := Nat.two_pow_pos e; omega)).1 l
/-- the law's polynomials -/
structure PolyOk (B : Nat) (d : List Rat) : Prop where
  ne : 1 ≤ d.length
  le : d.length ≤ 5
  last : at0 d (d.length - 1) = 1
  w : ∀ k, W 4 B (at0 d k)
theorem at0_app (l : List Rat) (k : Nat) : at0 (l ++ [1]) k = if k < l.length then at0 l k else if k = l.length then 1 else 0 := by
  unfold at0
  rw [List.getD_eq_getElem?_getD, List.getD_eq_getElem?_getD, List.getElem?_append]
  by_cases h : k < l.length
  · rw [if_pos h, if_pos h]
  · rw [if_neg h, if_neg h]
    by_cases e : k = l.length
    · rw [if_pos e, e, Nat.sub_self]
      rfl
    · rw [if_neg e, List.getElem?_eq_none (by show 1 ≤ _; omega)]
      rfl
theorem app_w {e B : Nat} {l : List Rat} (h : ∀ x ∈ l, W e B x) (h1 : W e B 1) (k : Nat) : W e B (at0 (l ++ [1]) k) := by
  rw [at0_app]
  split
  · next q => exact h _ (at0_mem q)
  · split
    · exact h1
    · exact W.zero _ _
theorem app_last (l : List Rat) : at0 (l ++ [1]) ((l ++ [1]).length - 1) = 1 := by
  have e : (l ++ [1]).length - 1 = l.length := by rw [List.length_append, List.length_singleton, Nat.add_sub_cancel]
  rw [e, at0_app, if_neg (by omega), if_pos rfl]
theorem w_one (e B : Nat) (h : 1 ≤ B) : W e B 1 := by
  have := (W.int 1 B h).up e
  rw [Nat.zero_add] at this
  exact this
theorem first_ok {l : List Rat} (hl : l.length < 5) (h : ∀ x ∈ l, W 0 3 x) : PolyOk 5832 (l ++ [1]) := ⟨by rw [List.length_append]; exact Nat.le_add_left _ _, by rw [List.length_append]; exact hl, app_last l, fun k => ((app_w h (w_one 0 3 (by decide)) k).up 4).mono (by decide)⟩
theorem mid_small : ∀ m ∈ List.range 5, ∀ k ∈ List.range 5, m + k ≤ 4 → (m + 1) * (3 * bE k) ≤ 5832 := by decide +kernel
theorem mid_ok {l ns : List Rat} (hl : l.length < 5) (h : ∀ x ∈ l, W 0 3 x) (hn : NsOk (4 - l.length) ns) : PmOk (l ++ [1]) (exTo ns ns.length) ∧ PolyOk 5832 (polyMul (l ++ [1]) (exTo ns ns.length)) := by
  obtain ⟨nl, nw⟩ := hn
  obtain ⟨xl, xz, xw, _⟩ := exW (ns := ns) (fun k hk => nw _ (at0_mem hk)) (by omega) ns.length (Nat.le_refl _)
  have e1 : (l ++ [1]).length = l.length + 1 := List.length_append
  have hb := mid_small l.length (List.mem_range.mpr hl) ns.length (List.mem_range.mpr (by omega)) (by omega)
  have hb1 := bE_small ns.length (List.mem_range.mpr (by omega))
  have big : ∀ {e B : Nat}, e ≤ 10 → B ≤ 10 ^ 9 → B * 2 ^ e < 2 ^ 20000 := fun {e B} he hB => by
    calc B * 2 ^ e ≤ 10 ^ 9 * 2 ^ 10 := Nat.mul_le_mul hB (Nat.pow_le_pow_right (by decide) he)
      _ < 2 ^ 20000 := by decide +kernel
  obtain ⟨p1, p2, p3, p4⟩ := pmW (e := 0) (B := 3) (e' := ns.length) (B' := bE ns.length) (one := l ++ [1]) (other := exTo ns ns.length) (fun k _ => app_w h (w_one 0 3 (by decide)) k) (fun k _ => xw k) (by omega) (by omega) (by omega) (app_last l) (by rw [xl]; exact xz) (by omega) (big (by omega) (by omega)) (by decide +kernel) (big (by omega) (by omega))
  rw [e1, xl] at p2 p3
  rw [e1] at p4
  refine ⟨p1, ⟨by omega, by omega, by rw [p3]; exact p2, fun k => ?_⟩⟩
  have w := p4 k
  rw [Nat.zero_add] at w
  obtain ⟨j, ej⟩ : ∃ j, 4 = ns.length + j := ⟨4 - ns.length, by omega⟩
  have w2 := (w.mono hb).up j
  rw [← ej] at w2
  exact w2
def halved (d : List Rat) : List Rat := (d.take (d.length - 1)).map (fun q => mkRat q.num 2) ++ [1]
theorem half_ok {d : List Rat} (h : PolyOk 5832 d) : PolyOk 46656 (halved d) := by
  obtain ⟨h1, h2, h3, h4⟩ := h
  have e1 : (halved d).length = d.length := by unfold halved; rw [List.length_append, List.length_map, List.length_take]; show min _ _ + 1 = _; omega
  refine ⟨by omega, by omega, app_last _, fun k => ?_⟩
  refine app_w (fun x hx => ?_) (w_one 4 46656 (by decide)) k
  obtain ⟨q, hq, rfl⟩ := List.mem_map.mp hx
  obtain ⟨i, hi, rfl⟩ := List.getElem_of_mem (List.mem_of_mem_take hq)
  have w := h4 i
  have e2 : at0 d i = d[i] := Option.some.inj ((getD_some hi).symm.trans (List.getElem?_eq_getElem hi))
  rw [e2] at w
  exact (w_half _ 46656 (Nat.le_trans (w_num w) (by decide))).up 3
theorem PolyOk.mono {B B' : Nat} {d : List Rat} (h : PolyOk B d) (l : B ≤ B') : PolyOk B' d := ⟨h.ne, h.le, h.last, fun k => (h.w k).mono l⟩
theorem cut_but {α : Type} (l : List α) : cutL l none (some (-1)) = l.take (l.length - 1) := by
  unfold cutL
  rw [HT.sIx_none, List.drop_zero, Nat.sub_zero]
  congr 1
  have e : HT.sIx l.length l.length (some (-1)) = ((-1 : Int) + (l.length : Int)).toNat := rfl
  rw [e]
  omega
abbrev spPolyX (K : PySem.W.Frag) : Sp := fun vs H Q _ => ∃ v1 : V, vs = [v1, .int 4] ∧ RGP Tr H v1 ∧ ∀ d, PolyOk 46656 d → Ret (LO (IQ K) d) H Q
section
variable {H0 H B : Hp} {K : PySem.W.Frag} {ps : List (Option (SV NoM))} {ta tb te : TE} {tt u : TT} {E : XK} {R R1 R' : SV NoM}
theorem ty_pick {ns : List Rat} {Pq : Rat → Prop} (h1 : Ty H0 NoM ps ta R) (hR : ∀ H v, R.R H v → RGP Tr H v) (h2 : Ty H0 NoM ps tb R1) (hR1 : ∀ H v, R1.R H v → LO (IQ K) ns Tr H v) (h0 : 0 < ns.length) (hn : ns.length < 1000) (hp : ∀ q ∈ ns, Pq q) : Ty H0 NoM ps (tCall (spPick K) [] E (tCons ta (tCons tb tNil))) (XQ K Pq) :=
  ty_call (ta_cons h1 (ta_cons h2 ta_nil)) fun H vs Q g p q => by
    cases p with
    | cons r t => cases t with
      | cons r' t' =>
        cases t'
        exact ⟨_, _, ns, rfl, hR _ _ r, hR1 _ _ r', h0, hn, fun x hx v H' e w => q v H' e ⟨x, hp x hx, w⟩⟩
theorem ty_small {m : Nat} (h1 : Ty H0 NoM ps ta R) (hR : ∀ H v, R.R H v → RGP Tr H v) (h2 : Ty H0 NoM ps tb (Iv NoM (.int (m : Int)))) (hm : m ≤ 4) : Ty H0 NoM ps (tCall (spSmall K) [] E (tCons ta (tCons tb tNil))) (XL K H0 (NsOk m)) :=
  ty_call (ta_cons h1 (ta_cons h2 ta_nil)) fun H vs Q g p q => by
    cases p with
    | cons r t => cases t with
      | cons r' t' =>
        cases t'
        have r' : _ = V.int (m : Int) := r'
        subst r'
        exact ⟨_, m, rfl, hR _ _ r, hm, fun ns hns v H' e w => q v H' e ⟨ns, hns, Mn.mono (P := LO (IQ K) ns) (fun _ z => g.fresh z) w⟩⟩
theorem ty_expX {m : Nat} (h1 : Ty H0 NoM ps ta (XL K H0 (NsOk m))) (hm : m ≤ 4) : Ty H0 NoM ps (tCall (spExp K) [] E (tCons ta tNil)) (XL K H0 fun l => ∃ ns, NsOk m ns ∧ l = exTo ns ns.length) :=
  ty_call (ta_cons h1 ta_nil) fun H vs Q g p q => by
    cases p with
    | cons r t =>
      cases t
      obtain ⟨ns, hns, r⟩ := r
      exact ⟨ns, _, rfl, fr_tr r, ⟨Nat.le_trans hns.1 hm, hns.2⟩, fun v H' e w => q v H' e ⟨_, ⟨ns, hns, rfl⟩, Mn.mono (P := LO (IQ K) (exTo ns ns.length)) (fun _ z => g.fresh z) w⟩⟩
theorem ty_prodX {one : List Rat} {Pl Pr : List Rat → Prop} (h1 : Ty H0 NoM ps ta R) (hR : ∀ H v, R.R H v → LO (IQ K) one Tr H v) (h2 : Ty H0 NoM ps tb (XL K H0 Pl)) (hp : ∀ l, Pl l → PmOk one l ∧ Pr (polyMul one l)) : Ty H0 NoM ps (tCall (spProd K) [] E (tCons ta (tCons tb tNil))) (XL K H0 Pr) :=
  ty_call (ta_cons h1 (ta_cons h2 ta_nil)) fun H vs Q g p q => by
    cases p with
    | cons r t => cases t with
      | cons r' t' =>
        cases t'
        obtain ⟨l, hl, r'⟩ := r'
        obtain ⟨pm, pr⟩ := hp l hl
        exact ⟨(one, l), _, _, rfl, hR _ _ r, fr_tr r', pm, fun v H' e w => q v H' e ⟨_, pr, Mn.mono (P := LO (IQ K) (polyMul one l)) (fun _ z => g.fresh z) w⟩⟩
theorem ty_catXL {l' : List Rat} {Pl Pr : List Rat → Prop} (h1 : Ty H0 NoM ps ta (XL K H0 Pl)) (h2 : Ty H0 NoM ps tb (Fr NoM H0 (LO (IQ K) l'))) (hp : ∀ l, Pl l → Pr (l ++ l') ∧ l.length + l'.length ≤ 100000) : Ty H0 NoM ps (tOp rCat ta tb) (XL K H0 Pr) := fun σ H g t Q q =>
  h1 σ H g t _ fun v H2 e2 r2 => h2 σ H2 (g.up e2) (t.up e2) _ fun y H3 e3 r3 => by
    obtain ⟨l, hl, r2⟩ := r2
    obtain ⟨a, vs, rfl, sa, h1, p1⟩ := (Fr NoM H0 (LO (IQ K) l)).st (.ofEx e3) r2
    obtain ⟨b, ws, rfl, sb, h2, p2⟩ := r3
    obtain ⟨pr, hz⟩ := hp l hl
    refine ⟨a, b, vs, ws, rfl, rfl, h1, h2, ?_, fun p hp => q _ _ ((e2.trans e3).trans (Ex.new hp)) ⟨_, pr, p, vs ++ ws, rfl, ((g.up e2).up e3).fresh hp, upd_same, ?_⟩⟩
    · rw [← pr_len p1, ← pr_len p2]; exact sz5 hz
    · exact Paired.mapR (pr_app p1 p2) fun b x k => Mn.ex (P := IQ K b) (Ex.new hp) k
end
section
variable {P : Program} {w : World} {K : PySem.W.Frag} {mg : Str → Option Value} {base : Heap}
theorem has_small (T : Tx K mg) : Has P w K mg base 3 "_law_small_numbers" ["_law_rng", "_law_most"] (spSmall K) := by
  have h_law_draw := has_draw (P := P) (w := w) (base := base) T
  have h_law_low := has_law_low (P := P) (w := w) (base := base) T
  have h_law_pick := has_pick (P := P) (w := w) (base := base) T
  refine has_of T.d_law_small_numbers sc_law_small_numbers (fun vs H Q E h => by obtain ⟨_, _, rfl, _⟩ := h; rfl) (fun _ _ _ _ _ _ us hl => match us, hl with | [_, _], _ => rfl) fun f cdv A outer s H vs Q E hr h => ⟨_,
    (pss_cons (ps_set (i := 2) sc_law_small_numbers.nd rfl (Or.inl rfl) (pe_lst pa_nil))
      (pss_cons (ps_for PassesOwn.never rfl (pi_range1 (by rfl) T.b_range (pa_cons (pe_has h_law_draw (hr.mono (by decide)) (pa_cons (pv 0) (pa_cons (pe_op op_add (pv 1) pe_int) pa_nil))) pa_nil)) (pg_name (i := 3) sc_law_small_numbers.nd rfl (Or.inl rfl)) (pss_cons (ps_set (i := 4) sc_law_small_numbers.nd rfl (Or.inl rfl) (pe_has h_law_low (hr.mono (by decide)) (pa_cons (pe_op op_sub (pe_has h_law_draw (hr.mono (by decide)) (pa_cons (pv 0) (pa_cons pe_int pa_nil))) pe_int) (pa_cons (pe_op op_add pe_int (pe_op op_fdiv (pe_has h_law_draw (hr.mono (by decide)) (pa_cons (pv 0) (pa_cons pe_int pa_nil))) pe_int)) pa_nil))))
      (pss_cons (ps_if (PW.pt (pw_and (pt_cmpR (neDK (K := K) hr.units) (pv 2) (pe_lst pa_nil) (nomark _)) (pw_and1 (pt_cmpR op_eq (pe_has h_law_draw (hr.mono (by decide)) (pa_cons (pv 0) (pa_cons pe_int pa_nil))) pe_int (nomark _))))) (pss_one (ps_set (i := 4) sc_law_small_numbers.nd rfl (Or.inl rfl) (pe_has h_law_pick (hr.mono (by decide)) (pa_cons (pv 0) (pa_cons (pv 2) pa_nil))))) pss_nil)
      (pss_one (ps_expr (pe_bm PySem.F.plainAttrs_list PySem.F.slot_list_append PySem.F.type_list_append mt_append (pv 2) (pa_cons (pv 4) pa_nil)))))))
      (pss_one (ps_ret (pv 2))))), ?_⟩
  obtain ⟨v1, m, rfl, h1, hm, ret⟩ := h
  have g : Good H NoM H := .start H
  have ts : Tsl [some (At NoM (fun a => H a ≠ none) (fun _ _ m => m) RGP), some (Iv NoM (.int (m : Int))), none, none, none] (start ["_law_rng", "_law_most", "_law_found", "_law_step", "_law_part"] [v1, .int (m : Int)]) H := wip_cons (Mn.mono (P := RGP) (fun _ z => z.2) (Mn.tr h1)) (wip_cons rfl (non_cons (non_cons (non_cons nil_ts))))
  refine st_setV (Fr NoM H (LO (IQ K) [])) g ts ty_nil fun v H2 e2 r2 => ?_
  obtain ⟨F, vs, rfl, ⟨_, hF0⟩, hF, hp⟩ := r2
  have g2 := g.up e2
  let Sl : List Rat → Option (SV NoM) → List (Option (SV NoM)) := fun ns x => [some (At NoM (fun a => H a ≠ none) (fun _ _ m => m) RGP), some (Iv NoM (.int (m : Int))), some (Ow F (fun a => a ≠ F) (IQ K) ns), none, x]
  have t2 : Tsl (Sl [] none) _ H2 := (ts.up e2).set (i := 2) (R := Ow F (fun a => a ≠ F) (IQ K) []) (v := .ref F) ⟨rfl, vs, hF, hp⟩
  have dr : ∀ (B : Hp) (ps : List (Option (SV NoM))) (tb : TE) (n : Nat), ps[0]? = some (some (At NoM (fun a => H a ≠ none) (fun _ _ m => m) RGP)) → Ty B NoM ps tb (Iv NoM (.int (n : Int))) → 0 < n → n < 1000 → Ty B NoM ps (tCall spDraw [] E0 (tCons (tVar 0) (tCons tb tNil))) (XE fun i => 0 ≤ i ∧ i < n) := fun B ps tb n h0 hb n0 n1 => ty_draw (R := At NoM (fun a => H a ≠ none) (fun _ _ m => m) RGP) (ty_var h0) (fun _ _ h => Mn.any (P := RGP) h) hb n0 n1
  refine st_forXE (m + 1) (by omega) g2 t2 (dr _ _ _ (m + 1) rfl (ty_int (i := (m : Int) + 1) (ty_i0 (ty_var rfl) ty_c) (by omega)) (by omega) (by omega)) (fun i σ' H' => ∃ ns, Good H NoM H' ∧ Tsl (Sl ns none) σ' H' ∧ ns.length = i ∧ ∀ x ∈ ns, W 1 3 x) (fun H' e => ⟨[], g2.up e, t2.up e, rfl, fun x hx => by cases hx⟩) (fun i σ3 H3 hi p D' hD cont => ?_) fun n σ3 H3 hn p => ?_
  · obtain ⟨ns, g3, t3, hl, hw⟩ := p
    have t3' := t3.set (i := 3) (R := Iv NoM (.int (i : Int))) (v := .int (i : Int)) rfl
    refine st_set (XQ K (W 1 3)) g3.base t3' ?_ fun σ4 H4 e4 g4 t4 => ?_
    · refine ty_lowX (P := fun n => -3 ≤ n ∧ n ≤ 3) (P' := fun d => d = 1 ∨ d = 2) (ty_i0X (P' := fun j => j = 3) (dr _ _ _ 7 rfl ty_c (by decide) (by decide)) (ty_cX rfl) fun i j hi hj => by omega) (ty_i0X (P := fun j => j = 1) (P' := fun j => j = 0 ∨ j = 1) (ty_cX rfl) (ty_iX (P' := fun j => j = 3) (dr _ _ _ 4 rfl ty_c (by decide) (by decide)) (ty_cX rfl) (fun i j hi hj => by subst hj; exact ⟨by decide, by decide⟩) fun i j hi hj => by subst hj; omega) fun i j hi hj => by omega) fun n d hn hd => ?_
      rcases hd with rfl | rfl
      · exact ⟨1, rfl, by decide, Nat.one_lt_two_pow (by decide), w_whole n 3 (by omega)⟩
      · exact ⟨2, rfl, by decide, Nat.lt_of_lt_of_le (show 2 < 2 ^ 2 by decide) (Nat.pow_le_pow_right (by decide) (by decide)), w_half n 3 (by omega)⟩
    have g4' := g3.trans g4
    refine st_ifX (Pb := fun c => c = true → (!decide (ns = [])) = true) (fun σ H' => Good H NoM H' ∧ Tsl (Sl ns (some (XQ K (W 1 3)))) σ H') g4 t4 (tx_and (tt_test (ty_neLQ0 (R := Ow F (fun a => a ≠ F) (IQ K) ns) (ty_var rfl) (fun _ _ h => ow_an h) (by omega))) fun _ => tx_eq0 (dr _ _ _ 3 rfl ty_c (by decide) (by decide))) (fun σ5 H5 p5 => ?_) (fun hne H5 e5 g5 t5 kk => ?_) fun H5 e5 g5 t5 => ⟨g4'.up e5, Tsl.to t5 ⟨.inr rfl, .inr rfl, .inr rfl, .inl rfl, .inr rfl, trivial⟩⟩
    · obtain ⟨g5, t5⟩ := p5
      obtain ⟨v, ev, q, hq, rq⟩ := t5.get (i := 4) (R := XQ K (W 1 3)) rfl
      have t6 : Tsl (Sl ns (some (Qs NoM K q))) σ5 H5 := Tsl.put (i := 4) (R := Qs NoM K q) rq ev t5
      refine st_appO (H0 := H) (B := H5) (F := F) (i := 2) (S := fun a => a ≠ F) (l := ns) q (R := Qs NoM K q) (.start H5) g5 hF0 t6 rfl (by omega) (ty_var rfl) (fun _ _ h => h) (fun _ z => z) ⟨mo_at fun a ha z => ha (z ▸ hF0), mo_iv, mo_qs, trivial⟩ fun H6 g6 t6 => cont _ H6 ⟨ns ++ [q], g6, Tsl.to t6 ⟨.inr rfl, .inr rfl, .inr rfl, .inr rfl, .inl rfl, trivial⟩, by rw [List.length_append, hl]; rfl, fun x hx => ?_⟩
      rcases List.mem_append.mp hx with hx | hx
      · exact hw x hx
      · rw [List.mem_singleton.mp hx]; exact hq
    · have hne := hne rfl
      have hn0 : ns ≠ [] := by simpa using hne
      have hpos : 0 < ns.length := by
        cases ns with
        | nil => exact absurd rfl hn0
        | cons _ _ => exact Nat.succ_pos _
      refine st_set1 (XQ K (W 1 3)) g5 t5 (ty_pick (ns := ns) (R := At NoM (fun a => H a ≠ none) (fun _ _ m => m) RGP) (R1 := Ow F (fun a => a ≠ F) (IQ K) ns) (ty_var rfl) (fun _ _ h => Mn.any (P := RGP) h) (ty_var rfl) (fun _ _ h => ow_tr h) hpos (by omega) hw) fun σ6 H6 e6 g6 t6 => kk _ H6 ⟨(g4'.up e5).up e6, Tsl.to t6 ⟨.inr rfl, .inr rfl, .inr rfl, .inl rfl, .inr rfl, trivial⟩⟩
  · obtain ⟨ns, g3, t3, hl, hw⟩ := p
    refine st_ret (R := Ow F (fun a => a ≠ F) (IQ K) ns) g3 t3 (ty_var rfl) fun v H' e x => ?_
    obtain ⟨e1, vs, h, p⟩ := x
    exact ret ns ⟨by omega, hw⟩ v H' (g3.up e).ex0 ⟨F, vs, e1, hF0, h, p⟩
end
end My
end
section
set_option Elab.async false
set_option linter.all false
set_option maxRecDepth 100000
set_option maxHeartbeats 2000000
set_option exponentiation.threshold 100000
namespace My
open PySem PySem.Spec PyProof.Rows L2 Evl
open Mi (at0)
/-- a bag of the law's own -/
abbrev spLbag (K : PySem.W.Frag) : Sp := Sp1 (ι := List Rat) (fun i => LO (IQ K) i) BagOk (fun i => BG K i)
section
variable {P : Program} {w : World} {K : PySem.W.Frag} {mg : Str → Option Value} {base : Heap}
theorem has_poly (T : Tx K mg) : Has P w K mg base 6 "_law_poly" ["_law_rng", "_law_most"] (spPolyX K) := by
  have h_law_draw := has_draw (P := P) (w := w) (base := base) T
  have h_law_low := has_law_low (P := P) (w := w) (base := base) T
  have h_law_product := has_law_product (P := P) (w := w) (base := base) T
  have h_law_expand := has_expand (P := P) (w := w) (base := base) T
  have h_law_small_numbers := has_small (P := P) (w := w) (base := base) T
  refine has_of T.d_law_poly sc_law_poly (fun vs H Q E h => by obtain ⟨_, rfl, _⟩ := h; rfl) (fun _ _ _ _ _ _ us hl => match us, hl with | [_, _], _ => rfl) fun f cdv A outer s H vs Q E hr h => ⟨_,
    (pss_cons (ps_set (i := 2) sc_law_poly.nd rfl (Or.inl rfl) (pe_op op_cat (pe_lc (own := [("_law_k", 3)]) rfl sc_law_poly.nd (pi_range1 (by rfl) T.b_range (pa_cons (pe_has h_law_draw (hr.mono (by decide)) (pa_cons (pv 0) (pa_cons (pe_op op_add (pv 1) pe_int) pa_nil))) pa_nil)) (blkOk_by (by kernel_rfl)) (fun _ _ _ _ _ => (pg_name (i := 3) sc_law_poly.nd rfl (Or.inl rfl))) (fun _ _ _ _ _ => pts_nil) (fun _ _ _ _ _ => (pe_tup (pa_cons (pe_op op_sub (pe_has h_law_draw (hr.mono (by decide)) (pa_cons (pv 0) (pa_cons pe_int pa_nil))) pe_int) (pa_cons pe_int pa_nil))))) (pe_lst (pa_cons (pe_tup (pa_cons pe_int (pa_cons pe_int pa_nil))) pa_nil))))
      (pss_cons (ps_if (pt_cmpR op_eq (pe_has h_law_draw (hr.mono (by decide)) (pa_cons (pv 0) (pa_cons pe_int pa_nil))) pe_int (nomark _)) (pss_one (ps_set (i := 2) sc_law_poly.nd rfl (Or.inl rfl) (pe_has h_law_product (hr.mono (by decide)) (pa_cons (pv 2) (pa_cons (pe_has h_law_expand (hr.mono (by decide)) (pa_cons (pe_has h_law_small_numbers (hr.mono (by decide)) (pa_cons (pv 0) (pa_cons (pe_op op_sub (pe_op op_add (pv 1) pe_int) (pe_callB (len_seqK (K := K)) (by rfl) T.b_len (by decide +kernel) (pa_cons (pv 2) pa_nil))) pa_nil))) pa_nil)) pa_nil))))) pss_nil)
      (pss_cons (ps_if (pt_cmpR op_eq (pe_has h_law_draw (hr.mono (by decide)) (pa_cons (pv 0) (pa_cons pe_int pa_nil))) pe_int (nomark _)) (pss_one (ps_set (i := 2) sc_law_poly.nd rfl (Or.inl rfl) (pe_op op_cat (pe_lc (own := [("_law_part", 4)]) rfl sc_law_poly.nd (pi_listK (K := K) (pe_slice (sl_listK (K := K)) (pv 2) po_none (po_some (pe_un un_neg pe_int)))) (blkOk_by (by kernel_rfl)) (fun _ _ _ _ _ => (pg_name (i := 4) sc_law_poly.nd rfl (Or.inl rfl))) (fun _ _ _ _ _ => pts_nil) (fun _ _ _ _ _ => (pe_has h_law_low (hr.mono (by decide)) (pa_cons (pe_ix (ix_seqK (K := K)) (pv 4) pe_int (fun _ _ => rfl)) (pa_cons pe_int pa_nil))))) (pe_lst (pa_cons (pe_tup (pa_cons pe_int (pa_cons pe_int pa_nil))) pa_nil))))) pss_nil)
      (pss_one (ps_ret (pv 2)))))), ?_⟩
  obtain ⟨v1, rfl, h1, ret⟩ := h
  have g : Good H NoM H := .start H
  have ts : Tsl [some (An NoM RGP), some (Iv NoM (.int 4)), none, none, none] (start ["_law_rng", "_law_most", "_law_drawn", "_law_k", "_law_part"] [v1, .int 4]) H := wip_cons (Mn.mono (P := RGP) (fun _ _ z => z) h1) (wip_cons rfl (non_cons (non_cons (non_cons nil_ts))))
  have dr : ∀ (B : Hp) (ps : List (Option (SV NoM))) (tb : TE) (n : Nat), ps[0]? = some (some (An NoM RGP)) → Ty B NoM ps tb (Iv NoM (.int (n : Int))) → 0 < n → n < 1000 → Ty B NoM ps (tCall spDraw [] E0 (tCons (tVar 0) (tCons tb tNil))) (XE fun i => 0 ≤ i ∧ i < n) := fun B ps tb n h0 hb n0 n1 => ty_draw (R := An NoM RGP) (ty_var h0) (fun _ _ h => Mn.any (P := RGP) h) hb n0 n1
  have one : ∀ (B : Hp) (ps : List (Option (SV NoM))), Ty B NoM ps (tLst (tCons (tTup (tCons (tC (.int 1)) (tCons (tC (.int 1)) tNil))) tNil)) (Fr NoM B (LO (IQ K) [1])) := fun B ps => ty_lst1 (R := Qs NoM K 1) (ty_pair ty_c ty_c rfl rfl) fun _ _ h => h
  refine st_set (XL K H fun d => ∃ l, (l.length < 5 ∧ ∀ x ∈ l, W 0 3 x) ∧ d = l ++ [1]) g ts ?_ fun σ2 H2 e2 g2 t2 => ?_
  · refine ty_catXL (Pl := fun l => l.length < 5 ∧ ∀ x ∈ l, W 0 3 x) (l' := [1]) (ty_lcX 5 (by decide) (dr _ _ _ 5 rfl (ty_int (i := (4 : Int) + 1) (ty_i0 (ty_var rfl) ty_c) rfl) (by decide) (by decide)) (fun B i gB => ?_) (by decide)) (one _ _) fun l hl => ⟨⟨l, hl, rfl⟩, by have := hl.1; show l.length + 1 ≤ 100000; omega⟩
    exact ty_pairX (P := fun n => -3 ≤ n ∧ n ≤ 3) (ty_i0X (P' := fun j => j = 3) (dr _ _ _ 7 rfl ty_c (by decide) (by decide)) (ty_cX rfl) fun i j hi hj => by omega) fun n hn => W.int n 3 (by omega)
  obtain ⟨v, ev, d0, ⟨l, ⟨hl, hw⟩, rfl⟩, rd⟩ := t2.get (i := 2) (R := XL K H fun d => ∃ l, (l.length < 5 ∧ ∀ x ∈ l, W 0 3 x) ∧ d = l ++ [1]) rfl
  have t2' : Tsl [some (An NoM RGP), some (Iv NoM (.int 4)), some (Fr NoM H (LO (IQ K) (l ++ [1]))), none, none] σ2 H2 := Tsl.put (i := 2) (R := Fr NoM H (LO (IQ K) (l ++ [1]))) rd ev t2
  have ok0 := first_ok hl hw
  refine st_ifX (Pb := fun _ => True) (fun σ H' => ∃ d, PolyOk 5832 d ∧ Good H NoM H' ∧ Tsl [some (An NoM RGP), some (Iv NoM (.int 4)), some (Fr NoM H (LO (IQ K) d)), none, none] σ H') g2 t2' (tx_eq0 (dr _ _ _ 3 rfl ty_c (by decide) (by decide))) (fun σ3 H3 p3 => ?_) (fun _ H3 e3 g3 t3 kk => ?_) fun H3 e3 g3 t3 => ⟨_, ok0, g3, t3⟩
  · obtain ⟨d, ok, g3, t3⟩ := p3
    refine st_ifX (Pb := fun _ => True) (fun σ H' => ∃ d, PolyOk 46656 d ∧ Good H NoM H' ∧ Tsl [some (An NoM RGP), some (Iv NoM (.int 4)), some (Fr NoM H (LO (IQ K) d)), none, none] σ H') g3 t3 (tx_eq0 (dr _ _ _ 4 rfl ty_c (by decide) (by decide))) (fun σ4 H4 p4 => ?_) (fun _ H4 e4 g4 t4 kk => ?_) fun H4 e4 g4 t4 => ⟨_, ok.mono (by decide), g4, t4⟩
    · obtain ⟨d, ok, g4, t4⟩ := p4
      exact st_ret (R := Fr NoM H (LO (IQ K) d)) g4 t4 (ty_var rfl) fun v H' e x => ret d ok v H' (g4.up e).ex0 (Mn.mono (P := LO (IQ K) d) (fun _ z => z.2) x)
    · have hle := ok.le
      refine st_set1 (Fr NoM H (LO (IQ K) (halved d))) g4 t4 ?_ fun σ5 H5 e5 g5 t5 => kk _ H5 ⟨_, half_ok ok, g5, Tsl.to t5 ⟨.inr rfl, .inr rfl, .inr rfl, .inr rfl, .inr rfl, trivial⟩⟩
      refine ty_cat (Pb := IQ K) (l := (d.take (d.length - 1)).map fun q => mkRat q.num 2) (l' := [1]) ?_ (one _ _) (by rw [List.length_map, List.length_take]; show min _ _ + 1 ≤ 100000; omega)
      have z := cut_but d
      refine ty_lc _ (ti_list (0 : Rat) (Pc := IQ K) (xs := d.take (d.length - 1)) (R := Fr NoM H (LO (IQ K) (cutL d none (some (-1))))) ?_ (fun _ _ h => by rw [z] at h; exact fr_an h) (by decide)) (by rw [List.length_map]) (by rw [List.length_take]; omega) fun B i c hc gB => ?_
      · exact ty_slL (R := Fr NoM H (LO (IQ K) d)) (fun a => ¬ NoM a ∧ H a = none) (fun _ h => h.1) (fun _ h => h) (ty_var rfl) (fun _ _ h => h) to_none (to_some (ty_un ty_c))
      · obtain ⟨hi, rfl⟩ := map_at (0 : Rat) hc
        have tv : ∀ B', Ty B' NoM [some (An NoM RGP), some (Iv NoM (.int 4)), some (Fr NoM H (LO (IQ K) d)), none, some (An NoM (IQ K ((d.take (d.length - 1)).getD i 0)))] (tVar 4) (Qs NoM K ((d.take (d.length - 1)).getD i 0)) := fun B' => ty_conv (ty_var (i := 4) rfl) fun _ _ h => h
        exact ty_fr (ty_low (d := 2) (ty_num0 (tv _)) ty_c (by decide) (Nat.lt_of_lt_of_le (show 2 < 2 ^ 2 by decide) (Nat.pow_le_pow_right (by decide) (by decide))))
  · refine st_set1 (XL K H (PolyOk 5832)) g3 t3 ?_ fun σ4 H4 e4 g4 t4 => ?_
    · refine ty_prodX (one := l ++ [1]) (R := Fr NoM H (LO (IQ K) (l ++ [1]))) (Pl := fun x => ∃ ns, NsOk (4 - l.length) ns ∧ x = exTo ns ns.length) (ty_var rfl) (fun _ _ h => fr_tr h) (ty_expX (m := 4 - l.length) (ty_small (R := An NoM RGP) (ty_var rfl) (fun _ _ h => Mn.any (P := RGP) h) (ty_int (ty_i0 (ty_i0 (ty_var rfl) ty_c) (ty_lenL (R := Fr NoM H (LO (IQ K) (l ++ [1]))) (ty_var rfl) fun _ _ h => fr_tr h)) (by rw [List.length_append]; show (4 : Int) + 1 - ((l.length + 1 : Nat) : Int) = _; omega)) (by omega)) (by omega)) fun x hx => ?_
      obtain ⟨ns, hns, rfl⟩ := hx
      exact mid_ok hl hw hns
    · obtain ⟨v, ev, d, ok, rd⟩ := t4.get (i := 2) (R := XL K H (PolyOk 5832)) rfl
      exact kk _ H4 ⟨d, ok, g4, Tsl.put (i := 2) (R := Fr NoM H (LO (IQ K) d)) rd ev t4⟩
theorem has_lbag (T : Tx K mg) (B : Bx K mg) : Has P w K mg base 9 "_law_bag" ["_law_poly_here"] (spLbag K) := by
  have h_init := has_init (P := P) (w := w) (base := base) T B
  refine has1 T.d_law_bag sc_law_bag (fun _ _ _ _ _ _ us hl => match us, hl with | [_], _ => rfl) fun f cdv A outer s H E hr => ⟨_,
    (pss_one (ps_ret (pe_bag (K := K) B h_init (hr.mono (by decide)) (pa_cons (pe_callTy (tuple_ofK (K := K)) (by rfl) T.b_tuple (by decide +kernel) (pa_cons (pv 0) pa_nil)) pa_nil)))), ?_⟩
  intro cs v1 Q h1 ok ret
  have g : Good H NoM H := .start H
  have ts : Tsl [some (An NoM (LO (IQ K) cs))] (start ["_law_poly_here"] [v1]) H := wip_cons (Mn.mono (P := LO (IQ K) cs) (fun _ _ z => z) h1) nil_ts
  exact st_ret (R := An NoM (BG K cs)) g ts (ty_bag (R := An NoM (TO' K (IQ K) cs)) (ty_tuple (R := An NoM (LO (IQ K) cs)) (ty_var rfl) fun _ _ h => an_tr h) (fun _ _ h => an_tr h) ok) fun v H' e x => ret v H' e x
end
end My
end
section
set_option Elab.async false
set_option linter.all false
set_option maxRecDepth 100000
set_option maxHeartbeats 2000000
namespace My
open PySem PySem.Spec PyProof.Rows L2 Evl
theorem sql_ex {K : PySem.W.Frag} {H H' : Hp} {a : Addr} {xs : List V} (e : Ex H H') (h : SqL K H a xs) : SqL K H' a xs := by
  rcases h with (h | ⟨o, h⟩) | h
  · exact .inl (.inl (e a _ h))
  · exact .inl (.inr ⟨o, e a _ h⟩)
  · exact .inr h
/-- the script -/
def SQ (K : PySem.W.Frag) (a : Addr) (xs : List Int) : SV NoM := ⟨fun H v => v = .ref a ∧ SqL K H a (xs.map V.int), fun k ⟨e, h⟩ => ⟨e, sql_ex (fun a o q => k a o q fun _ m => m) h⟩⟩
abbrev spDrawsE (K : PySem.W.Frag) : Sp := fun vs H Q _ => ∃ (a : Addr) (ns : List Int), vs = [.ref a] ∧ SqL K H a (ns.map V.int) ∧ ∀ (Rg Ls : Addr) (xs : List Int) (s : Int) H', H Rg = none → H Ls = none → Ls ≠ Rg → RB 0 0 s → Ex H H' → H' Rg = some (.lst (rv Ls 0 0 s)) → H' Ls = some (.lst (xs.map V.int)) → Q (.ref Rg) H'
abbrev spDraws (K : PySem.W.Frag) : Sp := fun vs H Q _ => ∃ (a : Addr) (ns : List Int), vs = [.ref a] ∧ SqL K H a (ns.map V.int) ∧ Ret RGP H Q
theorem ty_slI {H0 : Hp} {K : PySem.W.Frag} {ps : List (Option (SV NoM))} {te : TE} {tl th : TO} {lo hi : Option Int} {a : Addr} {xs : List Int} (h : Ty H0 NoM ps te (SQ K a xs)) (h1 : TyO H0 NoM ps tl lo) (h2 : TyO H0 NoM ps th hi) : Ty H0 NoM ps (tSl (rSlL K) te tl th) (Fr NoM H0 (LO II (cutL xs lo hi))) := fun σ H g t Q q =>
  h σ H g t _ fun v H2 e2 r => h1 σ H2 (g.up e2) (t.up e2) _ fun H3 e3 => h2 σ H3 ((g.up e2).up e3) ((t.up e2).up e3) _ fun H4 e4 => by
    obtain ⟨rfl, hs⟩ := (SQ K a xs).st (.ofEx (e3.trans e4)) r
    refine ⟨a, _, rfl, hs, fun b hb => q _ _ ((e2.trans (e3.trans e4)).trans (Ex.new hb)) ⟨b, _, rfl, (((g.up e2).up e3).up e4).fresh hb, upd_same, ?_⟩⟩
    have e : cutV (xs.map V.int) lo hi = (cutL xs lo hi).map V.int := by
      unfold cutV cutL
      rw [List.length_map, List.map_take, List.map_drop]
    rw [e]
    exact pr_map (F := fun b x => II b _ _ x) (fun _ => rfl) _
section
variable {P : Program} {w : World} {K : PySem.W.Frag} {mg : Str → Option Value} {base : Heap}
theorem has_drawsE (T : Tx K mg) : Has P w K mg base 1 "_law_draws" ["_law_script"] (spDrawsE K) := by
  refine has_of T.d_law_draws sc_law_draws (fun vs H Q E h => by obtain ⟨_, _, rfl, _⟩ := h; rfl) (fun _ _ _ _ _ _ us hl => match us, hl with | [_], _ => rfl) fun f cdv A outer s H vs Q E hr h => ⟨_,
    (pss_cons (ps_set (i := 1) sc_law_draws.nd rfl (Or.inl rfl) pe_int)
      (pss_cons (ps_for PassesOwn.never rfl (pi_listK (K := K) (pe_slice (sl_listK (K := K)) (pv 0) po_none (po_some pe_int))) (pg_name (i := 2) sc_law_draws.nd rfl (Or.inl rfl)) (pss_one (ps_set (i := 1) sc_law_draws.nd rfl (Or.inl rfl) (pe_op op_mod (pe_op op_add (pe_op op_add (pe_op op_mul (pv 1) pe_int) (pe_op op_mod (pv 2) pe_int)) pe_int) pe_int))))
      (pss_one (ps_ret (pe_lst (pa_cons (pe_callTy (list_ofK (K := K)) (by rfl) T.b_list (by decide +kernel) (pa_cons (pe_slice (sl_listK (K := K)) (pv 0) po_none (po_some pe_int)) pa_nil)) (pa_cons pe_int (pa_cons pe_int (pa_cons (pv 1) pa_nil))))))))), ?_⟩
  obtain ⟨a, ns, rfl, ha, ret⟩ := h
  have g : Good H NoM H := .start H
  have ts : Tsl [some (SQ K a ns), none, none] (start ["_law_script", "_law_salt", "_law_cell"] [.ref a]) H := wip_cons ⟨rfl, ha⟩ (non_cons (non_cons nil_ts))
  refine st_set (XE fun s => 0 ≤ s ∧ s < 2147483647) g ts (ty_cX (by omega)) fun σ2 H2 e2 g2 t2 => ?_
  refine st_forL (Pb := II) (l := cutL ns none (some 63)) g2 t2 (ty_slI (ty_var rfl) to_none (to_some ty_c)) (fun _ _ h => fr_an h) (fun _ => [some (SQ K a ns), some (XE fun s => 0 ≤ s ∧ s < 2147483647), none]) (fun _ _ t => t) (fun B i c σ3 H3 hc gB g3 t3 D' hD cont => ?_) fun σ3 H3 g3 t3 => ?_
  · refine st_set1 (XE fun s => 0 ≤ s ∧ s < 2147483647) g3 t3 ?_ fun σ4 H4 e4 g4 t4 => cont σ4 H4 g4 (Tsl.to t4 ⟨.inr rfl, .inr rfl, .inl rfl, trivial⟩)
    refine ty_iX (P := fun _ => True) (P' := fun j => j = 2147483647) (ty_i0X (P := fun _ => True) (P' := fun _ => True) (ty_i0X (P := fun _ => True) (P' := fun _ => True) (ty_iX (P := fun s => 0 ≤ s ∧ s < 2147483647) (P' := fun _ => True) (ty_var rfl) (ty_cX trivial) (fun i j hi _ => cmul_l (by omega)) fun _ _ _ _ => trivial) (ty_iX (P := fun _ => True) (P' := fun j => j = 2147483579) (ty_conv (R := Iv NoM (.int c)) (ty_conv (ty_var (i := 2) rfl) fun _ _ h => h) fun _ v h => ⟨c, trivial, h⟩) (ty_cX rfl) (fun i j _ hj => by subst hj; decide) fun _ _ _ _ => trivial) fun _ _ _ _ => trivial) (ty_cX trivial) fun _ _ _ _ => trivial) (ty_cX rfl) (fun i j _ hj => by subst hj; decide) fun i j _ hj => by subst hj; exact ⟨Int.emod_nonneg _ (by decide), Int.emod_lt_of_pos _ (by decide)⟩
  · unfold tRet tLst
    refine (ta_cons (R := Fr NoM H (LO II (cutL ns none (some 63)))) (ty_listL (K := K) (Pb := II) (R := Fr NoM H (LO II (cutL ns none (some 63)))) (ty_slI (a := a) (ty_var (i := 0) rfl) to_none (to_some ty_c)) fun _ _ h => h) (ta_cons (R := Iv NoM (.int 0)) ty_c (ta_cons (R := Iv NoM (.int 0)) ty_c (ta_cons (R := XE fun s => 0 ≤ s ∧ s < 2147483647) (ty_var (i := 1) rfl) ta_nil)))) σ3 H3 g3 t3 _ fun vs H4 e4 p => ?_
    cases p with
    | cons r1 p => cases p with
      | cons r2 p => cases p with
        | cons r3 p => cases p with
          | cons r4 p =>
            cases p
            obtain ⟨Ls, us, rfl, ⟨_, hL0⟩, hL, pL⟩ := r1
            have r2 : _ = V.int 0 := r2
            have r3 : _ = V.int 0 := r3
            subst r2 r3
            obtain ⟨s, ⟨s0, s1⟩, rfl⟩ := r4
            have eU : us = (cutL ns none (some 63)).map V.int := by
              clear hL
              generalize cutL ns none (some 63) = l at pL
              induction pL with
              | nil => rfl
              | cons r _ ih =>
                have r : _ = V.int _ := r
                rw [r, ih]
                rfl
            refine ⟨by show 4 ≤ sizeLine; decide, fun Rg hR => ?_⟩
            have ne : Ls ≠ Rg := fun z => by rw [z, hR] at hL; cases hL
            refine ret Rg Ls (cutL ns none (some 63)) s _ (fresh_back (g3.up e4).ex0 hR) hL0 ne ⟨by decide, by decide, s0, s1⟩ ((g3.up e4).ex0.trans (Ex.new hR)) upd_same ?_
            rw [upd_ne ne, hL, eU]
theorem has_draws (T : Tx K mg) : Has P w K mg base 1 "_law_draws" ["_law_script"] (spDraws K) := by
  have h := has_drawsE (P := P) (w := w) (base := base) T
  obtain ⟨fd, F, bd⟩ := h.ex
  refine ⟨⟨fd, (fn_rng0 F).imp fun vs H Q E h => ?_, bd⟩, h.gl, h.kp⟩
  obtain ⟨a, ns, rfl, ha, ret⟩ := h
  refine ⟨a, ns, rfl, ha, fun Rg Ls xs s H' hR hL ne rb e h1 h2 => ⟨Rg, Ls, 0, 0, s, hR, rb, h1, ret _ _ (fun b o q => ?_) ⟨Rg, Ls, xs, rfl, upd_same, hL, by rw [upd_ne ne]; exact h2⟩⟩⟩
  rw [upd_ne fun z => by rw [z, hR] at q; cases q]
  exact e b o q
end
end My
end
section
set_option Elab.async false
set_option linter.all false
set_option maxRecDepth 100000
set_option maxHeartbeats 2000000
namespace My
open PySem PySem.Spec PyProof.Rows L2 Evl
/-! values that stand for the same -/
def Seqs (K : PySem.W.Frag) (Rel : Hp → V → V → Prop) (H : Hp) (x y : V) : Prop := ∃ a b xs ys, x = .ref a ∧ y = .ref b ∧ ((SqL K H a xs ∧ SqL K H b ys) ∨ (SqT K H a xs ∧ SqT K H b ys)) ∧ xs.length ≤ 1000 ∧ Paired (Rel H) xs ys
def Leaf (x y : V) : Prop := (∃ i : Int, x = .int i ∧ y = .int i) ∨ ∃ s : Str, x = .str s ∧ y = .str s
def RelN (K : PySem.W.Frag) : Nat → Hp → V → V → Prop
  | 0 => fun _ x y => Leaf x y
  | n + 1 => fun H x y => Leaf x y ∨ Seqs K (RelN K n) H x y
theorem sqt_ex {K : PySem.W.Frag} {H H' : Hp} {a : Addr} {xs : List V} (e : Ex H H') (h : SqT K H a xs) : SqT K H' a xs := sqt_up (S := Tr) (fun a o q _ => e a o q) h
theorem RelN.ex {K : PySem.W.Frag} {H H' : Hp} (e : Ex H H') : ∀ {n : Nat} {x y : V}, RelN K n H x y → RelN K n H' x y
  | 0, _, _, h => h
  | n + 1, _, _, .inl h => .inl h
  | n + 1, _, _, .inr ⟨a, b, xs, ys, e1, e2, h, l, p⟩ => .inr ⟨a, b, xs, ys, e1, e2, h.imp (fun z => ⟨sql_ex e z.1, sql_ex e z.2⟩) (fun z => ⟨sqt_ex e z.1, sqt_ex e z.2⟩), l, Paired.mapR p fun _ _ q => RelN.ex e q⟩
abbrev spSame (K : PySem.W.Frag) (n : Nat) : Sp := fun vs H Q _ => ∃ x y, vs = [x, y] ∧ RelN K n H x y ∧ ∀ H', Ex H H' → Q (.bl true) H'
theorem pi_zipAK {X : Cx} {K : PySem.W.Frag} {e e2 : Expr} {ta : TA} {p pos tpos : Pos} {elts : List Expr} {kk : Nat} (hm : X.mg "zip" = none) (ha : PA X [e, e2] ta) (hg : Gl X "zip" := by rfl) (h : X.K = K := by rfl)
    (hs : starEach [e, e2] X.env = (false, eval e X.env) :: starEach [e2] X.env := by rfl) (hpl : (backTo pos (starEach [e2] X.env)).any (·.1) = false := by rfl) : PI X (.Tuple elts kk tpos) (.Call (.Name "zip" p) [e, e2] [] pos) (RZ.iZipA K ta) := h ▸ RZ.pi_zipA hg hm ha hs hpl
theorem walk_zipT {K : PySem.W.Frag} {a b : Addr} {xs ys : List V} {n : Nat} (hn : n = min xs.length ys.length) : Walk (RZ.ItzT K a b) n (fun H => SqT K H a xs ∧ SqT K H b ys) (YPair (fun i => xs[i]?) (fun i => ys[i]?)) := by
  subst hn
  refine ⟨fun i _ hi q => ?_, fun _ q => ⟨xs, ys, q.1, q.2, by omega⟩, fun i H v H' _ q y => ?_⟩
  · have h1 : i < xs.length := by omega
    have h2 : i < ys.length := by omega
    exact ⟨xs, ys, xs[i], ys[i], q.1, q.2, by simp [h1], by simp [h2]⟩
  · obtain ⟨t, x, z, h1, h2, h3, h4, h5⟩ := y
    exact ⟨t, x, z, h1, h2, h3, h4 xs q.1, h5 ys q.2⟩
section
variable {H0 H B : Hp} {K : PySem.W.Frag} {ps : List (Option (SV NoM))} {ta tb te : TE} {tt u : TT} {E : XK} {R R1 R' : SV NoM}
theorem ty_isi {x : V} {c : String} {t : Value} {b : Bool} (h : Ty H0 NoM ps ta (Iv NoM x)) (hx : ∀ H', Ex H0 H' → L2.TyX K H' x t) (hk : PySem.W.kitOne K t (.type c) = some b) : Ty H0 NoM ps (tCB (rIsi K) (tCons ta (tCons (tC (.ty c)) tNil))) (Iv NoM (.bl b)) :=
  ty_cb (ta_cons h (ta_cons (ty_c (v := .ty c)) ta_nil)) fun H vs Q g p q => by
    cases p with
    | cons r1 t1 => cases t1 with
      | cons r2 t2 =>
        cases t2
        have r1 : _ = x := r1
        have r2 : _ = V.ty c := r2
        subst r1 r2
        exact ⟨_, _, t, .type c, b, rfl, .ty c, hx _ g.ex0, hk, q _ H (Ex.refl H) rfl⟩
theorem ty_andV {b c : Bool} (h1 : Ty H0 NoM ps ta (Iv NoM (.bl b))) (h2 : b = true → Ty H0 NoM ps tb (Iv NoM (.bl c))) : Ty H0 NoM ps (tAndV ta tb) (Iv NoM (.bl (b && c))) := fun σ H g t Q q =>
  h1 σ H g t _ fun v H2 e2 r => ⟨b, r, by
    cases b with
    | true =>
      show tb σ H2 Q
      exact h2 rfl σ H2 (g.up e2) (t.up e2) Q fun v H3 e3 => q v H3 (e2.trans e3)
    | false =>
      show Q (.bl false) H2
      exact q _ H2 e2 rfl⟩
abbrev rIsNn : R2 := fun x y H Q => y = .non ∧ Q (.bl (decide (x = .non))) H
theorem ty_isN {x : V} (h : Ty H0 NoM ps ta (Iv NoM x)) : Ty H0 NoM ps (tOp rIsNn ta (tC .non)) (Iv NoM (.bl (decide (x = .non)))) := fun σ H g t Q q =>
  h σ H g t _ fun v H2 e2 r => ⟨rfl, by
    have r : v = x := r
    rw [r]
    exact q _ H2 e2 rfl⟩
/-- two lists, or two tuples, in step -/
theorem ti_zipA {t : TA} {j1 j2 : Nat} {vs : List Nat} {a b : Addr} {xs ys : List V} (h : TyA H0 NoM ps t [Iv NoM (.ref a), Iv NoM (.ref b)]) (hab : (SqL K H0 a xs ∧ SqL K H0 b ys) ∨ (SqT K H0 a xs ∧ SqT K H0 b ys)) (hl : xs.length = ys.length) (hj1 : j1 ∈ vs) (hj2 : j2 ∈ vs) :
    TyI H0 NoM ps (RZ.iZipA K t) (gTup K 2 (gCons (gName j1) (gCons (gName j2) gNil))) vs xs.length (fun i => ((wipeP ps vs).set j1 (some (Iv NoM (xs.getD i .non)))).set j2 (some (Iv NoM (ys.getD i .non)))) := fun σ H g ts R k => by
  unfold RZ.iZipA
  refine h σ H g ts _ fun us H1 e p => ?_
  cases p with
  | cons r1 t1 => cases t1 with
    | cons r2 t2 =>
      cases t2
      have r1 : _ = V.ref a := r1
      have r2 : _ = V.ref b := r2
      subst r1 r2
      have e01 := (g.up e).ex0
      have go : ∀ (J : It) (G : Hp → Prop), Walk J xs.length G (YPair (fun i => xs[i]?) (fun i => ys[i]?)) → (∀ H3, Ex H1 H3 → G H3) → R J H1 := fun J G hW hG => by
        refine k J H1 G _ e hW hG fun i x H3 H4 k' hi e3 y hk => ?_
        obtain ⟨T, x1, x2, rfl, hT, rfl, hx1, hx2⟩ := y
        have hx1 : xs[i]? = some x1 := hx1
        have hx2 : ys[i]? = some x2 := hx2
        have eN := Ex.new (o := .tup [x1, x2]) hT
        refine ⟨T, [x1, x2], rfl, SqT.of upd_same, rfl, x1, [x2], rfl, x2, [], rfl, rfl, ?_⟩
        refine hk _ _ eN (Tsl.set (R := Iv NoM (ys.getD i .non)) ?_ (Tsl.set (R := Iv NoM (xs.getD i .non)) ?_ ((ts.up ((e.trans e3).trans eN)).wipe vs))) ?_
        · show x2 = ys.getD i .non
          rw [List.getD_eq_getElem?_getD, hx2]; rfl
        · show x1 = xs.getD i .non
          rw [List.getD_eq_getElem?_getD, hx1]; rfl
        · apply List.ext_getElem?
          intro i
          rw [wipe_get, wipe_get, List.getElem?_set, List.getElem?_set, wipe_get, List.length_set, wipe_length]
          by_cases hm : i ∈ vs
          · simp only [hm, if_true]
            by_cases q2 : j2 = i
            · subst q2
              by_cases hl : j2 < σ.length <;> simp [hl]
            · simp only [q2, if_false]
              by_cases q1 : j1 = i
              · subst q1
                by_cases hl : j1 < σ.length <;> simp [hl]
              · simp only [q1, if_false]
                cases σ[i]? <;> rfl
          · have q2 : j2 ≠ i := fun z => hm (z ▸ hj2)
            have q1 : j1 ≠ i := fun z => hm (z ▸ hj1)
            simp only [hm, if_false, q1, q2]
      refine ⟨a, b, xs, ys, rfl, ?_⟩
      rcases hab with ⟨h1, h2⟩ | ⟨h1, h2⟩
      · exact .inl ⟨sql_ex e01 h1, sql_ex e01 h2, go _ _ (walk_zip (by omega)) fun H3 e3 => ⟨sql_ex (e01.trans e3) h1, sql_ex (e01.trans e3) h2⟩⟩
      · exact .inr ⟨sqt_ex e01 h1, sqt_ex e01 h2, go _ _ (walk_zipT (by omega)) fun H3 e3 => ⟨sqt_ex (e01.trans e3) h1, sqt_ex (e01.trans e3) h2⟩⟩
end
section
variable {P : Program} {w : World} {K : PySem.W.Frag} {mg : Str → Option Value} {base : Heap}
theorem same_leaf {x y : V} (h : Leaf x y) : ∃ c : String, (∀ H, L2.TyX K H x (.type c)) ∧ (∀ H, L2.TyX K H y (.type c)) ∧ (c = "int" ∨ c = "str") ∧ x = y ∧ x ≠ .non ∧ scal x y = true := by
  rcases h with ⟨i, rfl, rfl⟩ | ⟨s, rfl, rfl⟩
  · exact ⟨"int", fun _ => .base (.int i), fun _ => .base (.int i), .inl rfl, rfl, (fun z => nomatch z), rfl⟩
  · exact ⟨"str", fun _ => .base (.str s), fun _ => .base (.str s), .inr rfl, rfl, (fun z => nomatch z), rfl⟩
theorem tyx_lst {H : Hp} {a : Addr} {xs : List V} (h : SqL K H a xs) : L2.TyX K H (.ref a) (.type "list") := by
  rcases h with (h | ⟨o, h⟩) | ⟨o, its, n, h, hc, _⟩
  · exact .base (.lst h)
  · exact .base (.frz h)
  · exact .kList h hc
theorem same_body0 (T : Tx K mg) (k : Nat) (f : Addr) (cdv : Value) (A : Around) (outer : List Env) (s : Shared) (H : Hp) (E : XK) (Q : VK) (hr : Room k (A.deeper (envOfC "_law_same" (defScope s_law_same) s.heap.objs.size f cdv))) {x y : V} (h : Leaf x y) (ret : ∀ H', Ex H H' → Q (.bl true) H') :
    ∃ t, PSs (cxOf CX0 P w K mg base ["_law_result", "_law_expected", "_law_a", "_law_b"] "_law_same" (defScope s_law_same) f cdv A outer s H E).nox (defBody s_law_same) t ∧ t { nx := fun _ H' => Q .non H', rt := Q } (start ["_law_result", "_law_expected", "_law_a", "_law_b"] [x, y]) H := by
  refine ⟨_, (pss_cons (ps_if (PW.pt (pw_or (pt_val (pe_callB (isiK (K := K)) (by rfl) T.b_isinstance (by decide +kernel) (pa_cons (pv 1) (pa_cons (pe_bltn (v := .ty "list") (by rfl) T.b_list (by decide +kernel) rfl) pa_nil)))) (pw_or1 (pt_val (pe_callB (isiK (K := K)) (by rfl) T.b_isinstance (by decide +kernel) (pa_cons (pv 1) (pa_cons (pe_bltn (v := .ty "tuple") (by rfl) T.b_tuple (by decide +kernel) rfl) pa_nil))))))) (pss_cons (ps_if (PW.pt (pw_or (pt_cmpR op_ne (pe_callB (isiK (K := K)) (by rfl) T.b_isinstance (by decide +kernel) (pa_cons (pv 0) (pa_cons (pe_bltn (v := .ty "list") (by rfl) T.b_list (by decide +kernel) rfl) pa_nil))) (pe_callB (isiK (K := K)) (by rfl) T.b_isinstance (by decide +kernel) (pa_cons (pv 1) (pa_cons (pe_bltn (v := .ty "list") (by rfl) T.b_list (by decide +kernel) rfl) pa_nil))) (nomark _)) (pw_or1 (pt_cmpR op_ne (pe_callB (isiK (K := K)) (by rfl) T.b_isinstance (by decide +kernel) (pa_cons (pv 0) (pa_cons (pe_bltn (v := .ty "tuple") (by rfl) T.b_tuple (by decide +kernel) rfl) pa_nil))) (pe_callB (isiK (K := K)) (by rfl) T.b_isinstance (by decide +kernel) (pa_cons (pv 1) (pa_cons (pe_bltn (v := .ty "tuple") (by rfl) T.b_tuple (by decide +kernel) rfl) pa_nil))) (nomark _))))) (pss_one (ps_ret pe_bl)) pss_nil)
      (pss_one (ps_ret (pe_and (pe_cmpR op_eq (pe_callB (len_seqK (K := K)) (by rfl) T.b_len (by decide +kernel) (pa_cons (pv 0) pa_nil)) (pe_callB (len_seqK (K := K)) (by rfl) T.b_len (by decide +kernel) (pa_cons (pv 1) pa_nil)) (nomark _)) (pe_one (pe_callB (allK (K := K) rfl) (by rfl) T.b_all (by decide +kernel) (pa_cons (pe_lc (own := [("_law_a", 2), ("_law_b", 3)]) rfl sc_law_same.nd (pi_zipAK (K := K) T.b_zip (pa_cons (pv 0) (pa_cons (pv 1) pa_nil))) (blkOk_by (by kernel_rfl)) (fun _ _ _ _ _ => (pg_tupK (K := K) (n := 2) rfl (pgs_cons (pg_name (i := 2) sc_law_same.nd rfl (Or.inl rfl)) (pgs_cons (pg_name (i := 3) sc_law_same.nd rfl (Or.inl rfl)) pgs_nil)))) (fun _ _ _ _ _ => pts_nil) (fun _ _ _ _ _ => pe_never)) pa_nil))))))) pss_nil)
      (pss_cons (ps_if (PW.pt (pw_or (pt_cmpR op_isN (pv 0) pe_non (nomark _)) (pw_or1 (pt_cmpR op_isN (pv 1) pe_non (nomark _))))) (pss_one (ps_ret (pe_and (pe_cmpR op_isN (pv 0) pe_non (nomark _)) (pe_one (pe_cmpR op_isN (pv 1) pe_non (nomark _)))))) pss_nil)
      (pss_cons (ps_if (PW.pt (pw_or (pt_cmpR op_ne (pe_callB (isiK (K := K)) (by rfl) T.b_isinstance (by decide +kernel) (pa_cons (pv 0) (pa_cons (pe_bltn (v := .ty "bool") (by rfl) T.b_bool (by decide +kernel) rfl) pa_nil))) (pe_callB (isiK (K := K)) (by rfl) T.b_isinstance (by decide +kernel) (pa_cons (pv 1) (pa_cons (pe_bltn (v := .ty "bool") (by rfl) T.b_bool (by decide +kernel) rfl) pa_nil))) (nomark _)) (pw_or1 (pt_cmpR op_ne (pe_callB (isiK (K := K)) (by rfl) T.b_isinstance (by decide +kernel) (pa_cons (pv 0) (pa_cons (pe_bltn (v := .ty "int") (by rfl) T.b_int (by decide +kernel) rfl) pa_nil))) (pe_callB (isiK (K := K)) (by rfl) T.b_isinstance (by decide +kernel) (pa_cons (pv 1) (pa_cons (pe_bltn (v := .ty "int") (by rfl) T.b_int (by decide +kernel) rfl) pa_nil))) (nomark _))))) (pss_one (ps_ret pe_bl)) pss_nil)
      (pss_one (ps_ret (pe_and (pe_cmpR op_eq (pe_callB (isiK (K := K)) (by rfl) T.b_isinstance (by decide +kernel) (pa_cons (pv 0) (pa_cons (pe_bltn (v := .ty "str") (by rfl) T.b_str (by decide +kernel) rfl) pa_nil))) (pe_callB (isiK (K := K)) (by rfl) T.b_isinstance (by decide +kernel) (pa_cons (pv 1) (pa_cons (pe_bltn (v := .ty "str") (by rfl) T.b_str (by decide +kernel) rfl) pa_nil))) (nomark _)) (pe_one (pe_cmpR op_eq (pv 0) (pv 1) (nomark _))))))))), ?_⟩
  obtain ⟨c, hx, hy, hc, rfl, hn, hs⟩ := same_leaf (K := K) h
  have g : Good H NoM H := .start H
  have ts : Tsl [some (Iv NoM x), some (Iv NoM x), none, none] (start ["_law_result", "_law_expected", "_law_a", "_law_b"] [x, x]) H := wip_cons rfl (wip_cons rfl (non_cons (non_cons nil_ts)))
  have isi : ∀ (B : Hp) (ps : List (Option (SV NoM))) (i : Nat) (d : String), ps[i]? = some (some (Iv NoM x)) → ∀ b, kitB c d = some b → Ty B NoM ps (tCB (rIsi K) (tCons (tVar i) (tCons (tC (.ty d)) tNil))) (Iv NoM (.bl b)) := fun B ps i d h0 b hk => ty_isi (ty_var h0) (fun H' _ => hx H') (kit_ty hk)
  have k1 : kitB c "list" = some false := by rcases hc with rfl | rfl <;> decide +kernel
  have k2 : kitB c "tuple" = some false := by rcases hc with rfl | rfl <;> decide +kernel
  have k3 : kitB c "bool" = some false := by rcases hc with rfl | rfl <;> decide +kernel
  obtain ⟨b4, k4⟩ : ∃ b, kitB c "int" = some b := by rcases hc with rfl | rfl; exact ⟨true, by decide +kernel⟩; exact ⟨false, by decide +kernel⟩
  obtain ⟨b5, k5⟩ : ∃ b, kitB c "str" = some b := by rcases hc with rfl | rfl; exact ⟨false, by decide +kernel⟩; exact ⟨true, by decide +kernel⟩
  refine st_when g ts (tt_or (tt_B (isi _ _ 1 "list" rfl _ k1)) fun _ => tt_B (isi _ _ 1 "tuple" rfl _ k2)) (fun hb => by cases hb) fun _ H2 e2 g2 t2 => ?_
  refine st_when g2 t2 (tt_or (tt_test (ty_isN (x := x) (ty_var (i := 0) rfl))) fun _ => tt_test (ty_isN (x := x) (ty_var (i := 1) rfl))) (fun hb => ?_) fun _ H3 e3 g3 t3 => ?_
  · rw [decide_eq_false hn] at hb
    cases hb
  refine st_when g3 t3 (tt_or (tt_test (ty_neI (isi _ _ 0 "bool" rfl _ k3) (isi _ _ 1 "bool" rfl _ k3) rfl)) fun _ => tt_test (ty_neI (isi _ _ 0 "int" rfl _ k4) (isi _ _ 1 "int" rfl _ k4) rfl)) (fun hb => ?_) fun _ H4 e4 g4 t4 => ?_
  · simp at hb
  refine st_ret (R := Iv NoM (.bl true)) g4 t4 (ty_eq (ty_andV (ty_eqI (isi _ _ 0 "str" rfl _ k5) (isi _ _ 1 "str" rfl _ k5) rfl) fun _ => ty_eqI (ty_var (i := 0) rfl) (ty_var (i := 1) rfl) hs) (by simp)) fun v H' e x => ?_
  have x : v = .bl true := x
  subst x
  exact ret H' (g4.up e).ex0
theorem has_same (T : Tx K mg) : ∀ n, Has P w K mg base (n + 1) "_law_same" ["_law_result", "_law_expected"] (spSame K n)
  | 0 => has_of T.d_law_same sc_law_same (fun vs H Q E h => by obtain ⟨_, _, rfl, _⟩ := h; rfl) (fun _ _ _ _ _ _ us hl => match us, hl with | [_, _], _ => rfl) fun f cdv A outer s H vs Q E hr h => by
      obtain ⟨x, y, rfl, h, ret⟩ := h
      exact same_body0 T 0 f cdv A outer s H E Q hr h ret
  | n + 1 => has_of T.d_law_same sc_law_same (fun vs H Q E h => by obtain ⟨_, _, rfl, _⟩ := h; rfl) (fun _ _ _ _ _ _ us hl => match us, hl with | [_, _], _ => rfl) fun f cdv A outer s H vs Q E hr h => by
      have h_law_same := has_same T n
      obtain ⟨x, y, rfl, h, ret⟩ := h
      rcases h with h | ⟨a, b, xs, ys, rfl, rfl, hab, hl, hp⟩
      · exact same_body0 T (n + 1) f cdv A outer s H E Q hr h ret
      refine ⟨_, (pss_cons (ps_if (PW.pt (pw_or (pt_val (pe_callB (isiK (K := K)) (by rfl) T.b_isinstance (by decide +kernel) (pa_cons (pv 1) (pa_cons (pe_bltn (v := .ty "list") (by rfl) T.b_list (by decide +kernel) rfl) pa_nil)))) (pw_or1 (pt_val (pe_callB (isiK (K := K)) (by rfl) T.b_isinstance (by decide +kernel) (pa_cons (pv 1) (pa_cons (pe_bltn (v := .ty "tuple") (by rfl) T.b_tuple (by decide +kernel) rfl) pa_nil))))))) (pss_cons (ps_if (PW.pt (pw_or (pt_cmpR op_ne (pe_callB (isiK (K := K)) (by rfl) T.b_isinstance (by decide +kernel) (pa_cons (pv 0) (pa_cons (pe_bltn (v := .ty "list") (by rfl) T.b_list (by decide +kernel) rfl) pa_nil))) (pe_callB (isiK (K := K)) (by rfl) T.b_isinstance (by decide +kernel) (pa_cons (pv 1) (pa_cons (pe_bltn (v := .ty "list") (by rfl) T.b_list (by decide +kernel) rfl) pa_nil))) (nomark _)) (pw_or1 (pt_cmpR op_ne (pe_callB (isiK (K := K)) (by rfl) T.b_isinstance (by decide +kernel) (pa_cons (pv 0) (pa_cons (pe_bltn (v := .ty "tuple") (by rfl) T.b_tuple (by decide +kernel) rfl) pa_nil))) (pe_callB (isiK (K := K)) (by rfl) T.b_isinstance (by decide +kernel) (pa_cons (pv 1) (pa_cons (pe_bltn (v := .ty "tuple") (by rfl) T.b_tuple (by decide +kernel) rfl) pa_nil))) (nomark _))))) (pss_one (ps_ret pe_bl)) pss_nil)
      (pss_one (ps_ret (pe_and (pe_cmpR op_eq (pe_callB (len_seqK (K := K)) (by rfl) T.b_len (by decide +kernel) (pa_cons (pv 0) pa_nil)) (pe_callB (len_seqK (K := K)) (by rfl) T.b_len (by decide +kernel) (pa_cons (pv 1) pa_nil)) (nomark _)) (pe_one (pe_callB (allK (K := K) rfl) (by rfl) T.b_all (by decide +kernel) (pa_cons (pe_lc (own := [("_law_a", 2), ("_law_b", 3)]) rfl sc_law_same.nd (pi_zipAK (K := K) T.b_zip (pa_cons (pv 0) (pa_cons (pv 1) pa_nil))) (blkOk_by (by kernel_rfl)) (fun _ _ _ _ _ => (pg_tupK (K := K) (n := 2) rfl (pgs_cons (pg_name (i := 2) sc_law_same.nd rfl (Or.inl rfl)) (pgs_cons (pg_name (i := 3) sc_law_same.nd rfl (Or.inl rfl)) pgs_nil)))) (fun _ _ _ _ _ => pts_nil) (fun _ _ _ _ _ => (pe_has h_law_same (hr.mono (Nat.le_refl _)) (pa_cons (pv 2) (pa_cons (pv 3) pa_nil))))) pa_nil))))))) pss_nil)
      (pss_cons (ps_if (PW.pt (pw_or (pt_cmpR op_isN (pv 0) pe_non (nomark _)) (pw_or1 (pt_cmpR op_isN (pv 1) pe_non (nomark _))))) (pss_one (ps_ret (pe_and (pe_cmpR op_isN (pv 0) pe_non (nomark _)) (pe_one (pe_cmpR op_isN (pv 1) pe_non (nomark _)))))) pss_nil)
      (pss_cons (ps_if (PW.pt (pw_or (pt_cmpR op_ne (pe_callB (isiK (K := K)) (by rfl) T.b_isinstance (by decide +kernel) (pa_cons (pv 0) (pa_cons (pe_bltn (v := .ty "bool") (by rfl) T.b_bool (by decide +kernel) rfl) pa_nil))) (pe_callB (isiK (K := K)) (by rfl) T.b_isinstance (by decide +kernel) (pa_cons (pv 1) (pa_cons (pe_bltn (v := .ty "bool") (by rfl) T.b_bool (by decide +kernel) rfl) pa_nil))) (nomark _)) (pw_or1 (pt_cmpR op_ne (pe_callB (isiK (K := K)) (by rfl) T.b_isinstance (by decide +kernel) (pa_cons (pv 0) (pa_cons (pe_bltn (v := .ty "int") (by rfl) T.b_int (by decide +kernel) rfl) pa_nil))) (pe_callB (isiK (K := K)) (by rfl) T.b_isinstance (by decide +kernel) (pa_cons (pv 1) (pa_cons (pe_bltn (v := .ty "int") (by rfl) T.b_int (by decide +kernel) rfl) pa_nil))) (nomark _))))) (pss_one (ps_ret pe_bl)) pss_nil)
      (pss_one (ps_ret (pe_and (pe_cmpR op_eq (pe_callB (isiK (K := K)) (by rfl) T.b_isinstance (by decide +kernel) (pa_cons (pv 0) (pa_cons (pe_bltn (v := .ty "str") (by rfl) T.b_str (by decide +kernel) rfl) pa_nil))) (pe_callB (isiK (K := K)) (by rfl) T.b_isinstance (by decide +kernel) (pa_cons (pv 1) (pa_cons (pe_bltn (v := .ty "str") (by rfl) T.b_str (by decide +kernel) rfl) pa_nil))) (nomark _)) (pe_one (pe_cmpR op_eq (pv 0) (pv 1) (nomark _))))))))), ?_⟩
      have g : Good H NoM H := .start H
      have ts : Tsl [some (Iv NoM (.ref a)), some (Iv NoM (.ref b)), none, none] (start ["_law_result", "_law_expected", "_law_a", "_law_b"] [.ref a, .ref b]) H := wip_cons rfl (wip_cons rfl (non_cons (non_cons nil_ts)))
      have hlen := pr_len hp
      have ty2 : ∃ c : String, (c = "list" ∨ c = "tuple") ∧ ∀ H', Ex H H' → L2.TyX K H' (.ref a) (.type c) ∧ L2.TyX K H' (.ref b) (.type c) := by
        rcases hab with ⟨h1, h2⟩ | ⟨h1, h2⟩
        · exact ⟨"list", .inl rfl, fun H' e => ⟨tyx_lst (sql_ex e h1), tyx_lst (sql_ex e h2)⟩⟩
        · exact ⟨"tuple", .inr rfl, fun H' e => ⟨tyx_tup (sqt_ex e h1), tyx_tup (sqt_ex e h2)⟩⟩
      obtain ⟨c, hc, hty⟩ := ty2
      have isi0 : ∀ (B : Hp) (ps : List (Option (SV NoM))) (d : String), Ex H B → ps[0]? = some (some (Iv NoM (.ref a))) → ∀ b, kitB c d = some b → Ty B NoM ps (tCB (rIsi K) (tCons (tVar 0) (tCons (tC (.ty d)) tNil))) (Iv NoM (.bl b)) := fun B ps d eB h0 b hk => ty_isi (ty_var h0) (fun H' e => (hty H' (eB.trans e)).1) (kit_ty hk)
      have isi1 : ∀ (B : Hp) (ps : List (Option (SV NoM))) (d : String), Ex H B → ps[1]? = some (some (Iv NoM (.ref b))) → ∀ b, kitB c d = some b → Ty B NoM ps (tCB (rIsi K) (tCons (tVar 1) (tCons (tC (.ty d)) tNil))) (Iv NoM (.bl b)) := fun B ps d eB h0 b hk => ty_isi (ty_var h0) (fun H' e => (hty H' (eB.trans e)).2) (kit_ty hk)
      obtain ⟨b1, b2, k1, k2, hb12⟩ : ∃ b1 b2, kitB c "list" = some b1 ∧ kitB c "tuple" = some b2 ∧ (b1 || b2) = true := by
        rcases hc with rfl | rfl
        · exact ⟨true, false, by decide +kernel, by decide +kernel, rfl⟩
        · exact ⟨false, true, by decide +kernel, by decide +kernel, rfl⟩
      have er : Ex H H := Ex.refl H
      refine st_when g ts (tt_or (tt_B (isi1 _ _ "list" er rfl _ k1)) fun _ => tt_B (isi1 _ _ "tuple" er rfl _ k2)) (fun _ H2 e2 g2 t2 => ?_) fun hb => by rw [hb12] at hb; cases hb
      refine st_when g2 t2 (tt_or (tt_test (ty_neI (isi0 _ _ "list" er rfl _ k1) (isi1 _ _ "list" er rfl _ k1) rfl)) fun _ => tt_test (ty_neI (isi0 _ _ "tuple" er rfl _ k2) (isi1 _ _ "tuple" er rfl _ k2) rfl)) (fun hb => ?_) fun _ H3 e3 g3 t3 => ?_
      · simp at hb
      have lenA : ∀ (ps : List (Option (SV NoM))) (i : Nat) (c : Addr) (zs : List V), (∀ H', Ex H H' → SqL K H' c zs ∨ SqT K H' c zs) → ps[i]? = some (some (Iv NoM (.ref c))) → Ty H NoM ps (tCB (rLenA K) (tCons (tVar i) tNil)) (Iv NoM (.int (zs.length : Int))) := fun ps i c zs hz h0 => ty_cb (ta_cons (ty_var h0) ta_nil) fun H' vs Q g p q => by
        cases p with
        | cons r1 t1 =>
          cases t1
          have r1 : _ = V.ref c := r1
          subst r1
          exact ⟨c, zs, rfl, hz H' g.ex0, q _ H' (Ex.refl H') rfl⟩
      have ha : ∀ H', Ex H H' → SqL K H' a xs ∨ SqT K H' a xs := fun H' e => hab.imp (fun z => sql_ex e z.1) fun z => sqt_ex e z.1
      have hb' : ∀ H', Ex H H' → SqL K H' b ys ∨ SqT K H' b ys := fun H' e => hab.imp (fun z => sql_ex e z.2) fun z => sqt_ex e z.2
      refine st_ret (R := Iv NoM (.bl true)) g3 t3 (ty_eq (ty_andV (ty_eqI (lenA _ 0 a xs ha rfl) (lenA _ 1 b ys hb' rfl) rfl) fun _ => ty_all (bs := List.replicate xs.length true) (R := Fr NoM H (LO BI (List.replicate xs.length true))) ?_ fun _ _ h => fr_tr h) ?_) fun v H' e x => ?_
      · refine ty_lc (List.replicate xs.length true) (ti_zipA (a := a) (b := b) (xs := xs) (ys := ys) (ta_cons (ty_var (i := 0) rfl) (ta_cons (ty_var (i := 1) rfl) ta_nil)) hab hlen (by decide) (by decide)) List.length_replicate (by omega) fun B i c hc gB => ?_
        have hi : i < xs.length := by
          have := (List.getElem?_eq_some_iff.mp hc).1
          rwa [List.length_replicate] at this
        have ec : c = true := by
          rw [List.getElem?_replicate, if_pos hi] at hc
          exact (Option.some.inj hc).symm
        subst ec
        have e1 : xs[i]? = some (xs.getD i .non) := getD_at .non hi
        obtain ⟨y', hy', rel⟩ := pr_get hp e1
        have ey : ys.getD i .non = y' := by rw [List.getD_eq_getElem?_getD, hy']; rfl
        rw [← ey] at rel
        refine ty_conv (R := Iv NoM (.bl true)) (ty_call (ta_cons (ty_var (i := 2) rfl) (ta_cons (ty_var (i := 3) rfl) ta_nil)) fun H' vs Q g p q => ?_) fun _ _ h => h
        cases p with
        | cons r1 t1 => cases t1 with
          | cons r2 t2 =>
            cases t2
            have r1 : _ = xs.getD i .non := r1
            have r2 : _ = ys.getD i .non := r2
            subst r1 r2
            exact ⟨_, _, rfl, RelN.ex (gB.ex0.trans g.ex0) rel, fun H3 e3 => q _ H3 e3 rfl⟩
      · rw [hlen]
        simp
      · have x : v = .bl true := x
        subst x
        exact ret H' (g3.up e).ex0
end
end My
end
section
set_option Elab.async false
set_option linter.all false
set_option maxRecDepth 100000
set_option maxHeartbeats 2000000
namespace My
open PySem PySem.Spec PyProof.Rows L2 Evl
/-! a function that is called without arguments, and tells a bag -/
def Act (P : Program) (w : World) (K : PySem.W.Frag) (mg : Str → Option Value) (base : Heap) (fs : List Addr) (k : Nat) (H1 : Hp) (s1 : Shared) (f : Addr) (cs : List Rat) : Prop :=
  ∀ (A : Around) (outer : List Env) (s : Shared) (H : Hp) (Q : VK), Room (k + 1) A → Env0 P w K mg base A outer s H → Un fs [] H1 H s1.heap s.heap → Ex H1 H → Ret (BG K cs) H Q → PySem.W.FnAt f s.heap ∧ codeAny (model P w) A (.call (.ref f) ⟨[], []⟩) (CR CX0 outer P w H s Q E0) s
theorem un_drop {e : Addr} {fs : List Addr} {H H' : Hp} {h h' : Heap} (u : Un (e :: fs) [] H H' h h') (n : h.get? e = none) : Un fs [] H H' h h' where
  keep := fun b o q m hb hx => u.keep b o q m (fun z => by
    rcases List.mem_cons.mp z with r | r
    · rw [r, n] at q; cases q
    · exact hb r) hx
  slot := fun b o q m hb hx => u.slot b o q m (List.mem_cons_of_mem _ hb) hx
  free := u.free
  there := u.there
  tups := u.tups
  frzs := u.frzs
  tbls := u.tbls
def tAct (H0 : Hp) (i : Nat) (f : Addr) (W : VP) : TE := fun σ H Q => σ[i]? = some (some (.ref f)) ∧ Ex H0 H ∧ Ret W H Q
theorem pe_act2 {X : Cx} {i k : Nat} {f : Addr} {cs : List Rat} {a : Str} {p1 p2 : Pos} (hA : Act X.prog X.w X.K X.mg X.base X.fs k X.H_0 X.s_0 f cs) (hex : X.ex = []) (hr : Room (k + 1) X.A) (hN : X.N[i]? = some a) (hv : Vis X.env.scope a) (hd : (a == ("__debug__" : Str)) = false := by decide) (hcd : (a == ("__classdict__" : Str)) = false := by decide) :
    PE X (.Call (.Name a p1) [] [] p2) (tAct X.H_0 i f (BG X.K cs)) := by
  refine ⟨fun pins s σ H Q I h => ?_⟩
  obtain ⟨hs, he, hq⟩ := h
  refine wpAny_Call_Name_kw (thn ((pe_var (pos := p1) (i := i) hN hv hd hcd).run pins s σ H (fun v H1 => v = .ref f ∧ H1 = H) I ⟨.ref f, hs, rfl, rfl⟩) fun u s1 ⟨v, H1, I1, r1, q1⟩ => ?_)
  obtain ⟨ev, eH⟩ := q1
  subst ev
  rw [eH] at I1
  obtain rfl : u = Value.ref f := r1
  have un : Un X.fs [] X.H_0 H X.s_0.heap s1.heap := hex ▸ I1.base
  obtain ⟨fa, rc⟩ := hA X.A X.stack s1 H Q hr I1.env0 un he hq
  refine PySem.W.callWith_F0 fa ?_
  refine wpAny_call (codeAny_mono rc fun r s' hq => ?_)
  cases r with
  | error e => exact (show False from hq).elim
  | ok fl =>
    cases fl with
    | ret u => exact I1.after hq
    | next => exact False.elim hq
    | brk => exact False.elim hq
    | cont => exact False.elim hq
/-- ("value", a bag) -/
def TolB (K : PySem.W.Frag) (cs : List Rat) : VP := fun S H v => ∃ a b, v = .ref a ∧ SqT K H a [.str "value", b] ∧ BG K cs S H b
instance (K : PySem.W.Frag) (cs : List Rat) : Mn (TolB K cs) := ⟨fun s k ⟨a, b, e, h, p⟩ => ⟨a, b, e, sqt_up k h, Mn.up (P := BG K cs) s k p⟩, fun ⟨a, b, e, h, p⟩ => ⟨a, b, e, h, Mn.tr (P := BG K cs) p⟩⟩
/-- ("value", its coefficients) -/
def TolC (K : PySem.W.Frag) (cs : List Rat) : VP := fun S H v => ∃ a b, v = .ref a ∧ SqT K H a [.str "value", b] ∧ LO (IQ K) cs S H b
instance (K : PySem.W.Frag) (cs : List Rat) : Mn (TolC K cs) := ⟨fun s k ⟨a, b, e, h, p⟩ => ⟨a, b, e, sqt_up k h, Mn.up (P := LO (IQ K) cs) s k p⟩, fun ⟨a, b, e, h, p⟩ => ⟨a, b, e, h, Mn.tr (P := LO (IQ K) cs) p⟩⟩
section
variable {P : Program} {w : World} {K : PySem.W.Frag} {mg : Str → Option Value} {base : Heap}
theorem ty_act {B : Hp} {ps : List (Option (SV NoM))} {i : Nat} {f : Addr} {W : VP} [Mn W] {H0 : Hp} (h0 : ps[i]? = some (some (Iv NoM (.ref f)))) (e : Ex H0 B) : Ty B NoM ps (tAct H0 i f W) (Fr NoM B W) := fun σ H g t Q q => by
  obtain ⟨v, ev, rv⟩ := t.get h0
  have rv : v = .ref f := rv
  subst rv
  exact ⟨ev, e.trans g.ex0, ret_fr g q⟩
theorem try_body (T : Tx K mg) {fa : Addr} {cdv : Value} {A : Around} {outer : List Env} {s : Shared} {H : Hp} {E : XK} {Q : VK} {k : Nat} {f : Addr} {cs : List Rat} (hr : Room (k + 1) (A.deeper (envOfC "_law_try" (defScope s_law_try) s.heap.objs.size fa cdv))) (hA : Act P w K mg base (frs outer) k H s f cs) (ret : Ret (TolB K cs) H Q) :
    ∃ t, PSs (cxOf CX0 P w K mg base ["_law_ask", "_law_e"] "_law_try" (defScope s_law_try) fa cdv A outer s H E).nox (defBody s_law_try) t ∧ t { nx := fun _ H' => Q .non H', rt := Q } (start ["_law_ask", "_law_e"] [.ref f]) H := by
  refine ⟨_, pss_one (ps_try_never (fun _ _ z => z) (pss_one (ps_ret (pe_tup (pa_cons pe_str (pa_cons (pe_act2 (X := (cxOf CX0 P w K mg base ["_law_ask", "_law_e"] "_law_try" (defScope s_law_try) fa cdv A outer s H E).nox) (i := 0) hA rfl hr rfl (Or.inl rfl)) pa_nil))))) pss_nil), ?_⟩
  have g : Good H NoM H := .start H
  have ts : Tsl [some (Iv NoM (.ref f)), none] (start ["_law_ask", "_law_e"] [.ref f]) H := wip_cons rfl (non_cons nil_ts)
  have ty := ty_pairV (K := K) (ty_c (H0 := H) (M := NoM) (ps := [some (Iv NoM (.ref f)), none]) (v := .str "value")) (ty_act (W := BG K cs) (H0 := H) (B := H) (ps := [some (Iv NoM (.ref f)), none]) (i := 0) (f := f) rfl (Ex.refl H))
  refine ty _ H g ts _ fun v H2 e r => ?_
  obtain ⟨a, x, y, rfl, hs, hx, hy⟩ := r
  have hx : x = .str "value" := hx
  subst hx
  exact ret _ H2 e ⟨a, y, rfl, hs, Mn.mono (P := BG K cs) (fun _ z => z.2) hy⟩
end
end My
end
section
set_option Elab.async false
set_option linter.all false
set_option maxRecDepth 100000
set_option maxHeartbeats 2000000
namespace My
open PySem PySem.Spec PyProof.Rows L2 Evl
section
variable {P : Program} {w : World} {K : PySem.W.Frag} {mg : Str → Option Value} {base : Heap}
/-- _law_try(e), in the def that was handed the function at f -/
theorem pe_try {Z : Cx} {i k : Nat} {f : Addr} {cs : List Rat} {e : Expr} {p pos : Pos} (T : Tx Z.K Z.mg) (hA : Act Z.prog Z.w Z.K Z.mg Z.base Z.fs k Z.H_0 Z.s_0 f cs) (hex : Z.ex = []) (hst : frs Z.stack = Z.env.locals :: Z.fs) (hnew : Z.s_0.heap.get? Z.env.locals = none) (hr : Room (k + 2) Z.A)
    (hg : Gl Z "_law_try" := by rfl) (ha : PA Z [e] (tCons (tVar i) tNil)) (he : starEach [e] Z.env = (false, eval e Z.env) :: starEach [] Z.env := by rfl) (hpl : (backTo pos (starEach [] Z.env)).any (·.1) = false := by rfl) : PE Z (.Call (.Name "_law_try" p) [e] [] pos) (tAct Z.H_0 i f (TolB Z.K cs)) := by
  refine ⟨fun pins s σ H Q I h => ?_⟩
  obtain ⟨hs, he0, ret⟩ := h
  obtain ⟨fd, F⟩ := T.d_law_try.fn
  have hb := F.bindsN (ps := ["_law_ask"]) (fun _ _ _ _ _ _ us hl => match us, hl with | [_], _ => rfl)
  obtain ⟨oc, od, dV, kV, doc, pm, an, cdv, ct, osl, rfl, lk, hcd, hD, hK⟩ := F.ex
  refine wpAny_Call_Name_kw (ld_glob I hg T.d_law_try.gl ?_ (by decide))
  refine PySem.W.callWith_K (h₀ := Z.base) I.ok.mod.kin F.kp (thn (ha.run pos pins s σ H (fun vs H1 => vs = [.ref f] ∧ H1 = H) I ⟨.ref f, hs, rfl, rfl⟩) fun us s1 ⟨vs, H1, I1, r, q⟩ => ⟨I1.kIn, ?_⟩) he hpl
  obtain ⟨rfl, rfl⟩ := q
  have un : Un Z.fs [] Z.H_0 H1 Z.s_0.heap s1.heap := hex ▸ I1.base
  have hA2 : Act Z.prog Z.w Z.K Z.mg Z.base (frs Z.stack) k H1 s1 f cs := fun A outer s2 H2 Q2 hr2 e0 u2 ex2 q2 => by
    refine hA A outer s2 H2 Q2 hr2 e0 ?_ (he0.trans ex2) q2
    have u3 : Un (frs Z.stack) [] Z.H_0 H2 Z.s_0.heap s2.heap := (un.mono (fun b hb => by rw [hst]; exact List.mem_cons_of_mem _ hb) fun _ h => h).trans u2
    rw [hst] at u3
    exact un_drop u3 hnew
  have rc : codeAny (model Z.prog Z.w) Z.A (.call (.ref (He.ga Z.K "_law_try")) ⟨us, []⟩) (CR CX0 Z.stack Z.prog Z.w H1 s1 Q E0) s1 := by
    refine LamX.run_ofS (N := ["_law_ask", "_law_e"]) (ps := ["_law_ask"]) (vs := [.ref f]) lk hcd sc_law_try hr I1.env0 ?_ r rfl fun hr' => ?_
    · have z := hb s1 us I1.kIn (by rw [List.append_nil, ← r.length]; rfl)
      rw [List.append_nil] at z
      exact z
    · obtain ⟨t, ht, hq⟩ := try_body T (E := E0) (Q := Q) hr' hA2 ret
      exact ⟨t, ht.nox, hq⟩
  refine wpAny_call (codeAny_mono rc fun r s' hq => ?_)
  cases r with
  | error e => exact (show False from hq).elim
  | ok fl =>
    cases fl with
    | ret u => exact I1.after hq
    | next => exact False.elim hq
    | brk => exact False.elim hq
    | cont => exact False.elim hq
theorem ty_tol {W : VP} {B : Hp} {ps : List (Option (SV NoM))} {i : Nat} {n : Int} {R R' : SV NoM} (j : Nat) (h0 : ps[i]? = some (some R)) (hR : ∀ H v, R.R H v → ∃ a b, v = .ref a ∧ SqT K H a [.str "value", b] ∧ ((j = 0 ∧ R'.R H (.str "value")) ∨ (j = 1 ∧ R'.R H b))) (hn : n = (j : Int)) : Ty B NoM ps (tOp (rIx K) (tVar i) (tC (.int n))) R' := fun σ H g t Q q =>
  ty_var h0 σ H g t _ fun v H2 e2 r => ty_c (v := .int n) σ H2 (g.up e2) (t.up e2) _ fun y H3 e3 r3 => by
    obtain ⟨a, b, rfl, hs, hj⟩ := hR _ _ (R.st (.ofEx e3) r)
    rcases hj with ⟨rfl, hj⟩ | ⟨rfl, hj⟩
    · subst hn; exact .inr (.inl ⟨a, _, 0, .str "value", rfl, r3, hs, rfl, q _ H3 (e2.trans e3) hj⟩)
    · subst hn; exact .inr (.inl ⟨a, _, 1, b, rfl, r3, hs, rfl, q _ H3 (e2.trans e3) hj⟩)
theorem told_body (T : Tx K mg) (B : Bx K mg) {fa : Addr} {cdv : Value} {A : Around} {outer : List Env} {s : Shared} {H : Hp} {E : XK} {Q : VK} {k : Nat} {f : Addr} {cs : List Rat} (hr : Room (k + 2) (A.deeper (envOfC "_law_told" (defScope s_law_told) s.heap.objs.size fa cdv))) (hA : Act P w K mg base (frs outer) k H s f cs) (ret : Ret (TolC K cs) H Q) :
    ∃ t, PSs (cxOf CX0 P w K mg base ["_law_ask", "_law_told_here"] "_law_told" (defScope s_law_told) fa cdv A outer s H E).nox (defBody s_law_told) t ∧ t { nx := fun _ H' => Q .non H', rt := Q } (start ["_law_ask", "_law_told_here"] [.ref f]) H := by
  have h_bco := has_bco (P := P) (w := w) (base := base) T B
  refine ⟨_, (pss_cons (ps_set (i := 1) sc_law_told.nd rfl (Or.inl rfl) (pe_try (Z := (cxOf CX0 P w K mg base ["_law_ask", "_law_told_here"] "_law_told" (defScope s_law_told) fa cdv A outer s H E).nox) T hA rfl rfl (Heap.get?_none_of_le (Nat.le_refl _)) hr (by rfl) (pa_cons (pv 0) pa_nil)))
      (pss_one (ps_ret (pe_ifExp (pt_cmpR op_eq (pe_ix (ix_seqK (K := K)) (pv 1) pe_int (fun _ _ => rfl)) pe_str (nomark _)) (pe_tup (pa_cons (pe_ix (ix_seqK (K := K)) (pv 1) pe_int (fun _ _ => rfl)) (pa_cons (pe_co (K := K) B h_bco (hr.mono (by omega)) (pe_ix (ix_seqK (K := K)) (pv 1) pe_int (fun _ _ => rfl))) pa_nil))) (pv 1))))), ?_⟩
  have g : Good H NoM H := .start H
  have ts : Tsl [some (Iv NoM (.ref f)), none] (start ["_law_ask", "_law_told_here"] [.ref f]) H := wip_cons rfl (non_cons nil_ts)
  refine st_set (Fr NoM H (TolB K cs)) g ts (ty_act (f := f) rfl (Ex.refl H)) fun σ2 H2 e2 g2 t2 => ?_
  have i0 : ∀ (B : Hp), Ty B NoM [some (Iv NoM (.ref f)), some (Fr NoM H (TolB K cs))] (tOp (rIx K) (tVar 1) (tC (.int 0))) (Iv NoM (.str "value")) := fun B => ty_tol (W := TolB K cs) 0 (R := Fr NoM H (TolB K cs)) rfl (fun H v h => by
    obtain ⟨a, b, e, hs, _⟩ := h
    exact ⟨a, b, e, hs, .inl ⟨rfl, rfl⟩⟩) rfl
  have i1 : ∀ (B : Hp), Ty B NoM [some (Iv NoM (.ref f)), some (Fr NoM H (TolB K cs))] (tOp (rIx K) (tVar 1) (tC (.int 1))) (An NoM (BG K cs)) := fun B => ty_tol (W := TolB K cs) 1 (R := Fr NoM H (TolB K cs)) rfl (fun H' v h => by
    obtain ⟨a, b, e, hs, hb⟩ := h
    exact ⟨a, b, e, hs, .inr ⟨rfl, Mn.mono (P := BG K cs) (fun _ z => z.1) hb⟩⟩) rfl
  refine st_ret (R := Fr NoM H (TolC K cs)) g2 t2 (ty_if (b := true) (tt_is (tt_test (ty_eqI (i0 _) ty_c rfl)) (by decide)) (fun _ => ?_) fun hq => by cases hq) fun v H' e x => ret v H' (g2.up e).ex0 (Mn.mono (P := TolC K cs) (fun _ z => z.2) x)
  refine ty_conv (ty_pairV (K := K) (i0 _) (ty_co (R := An NoM (BG K cs)) (i1 _) (fun _ _ h => Mn.any (P := BG K cs) h))) fun H' v h => ?_
  obtain ⟨a, x, y, rfl, hs, hx, hy⟩ := h
  have hx : x = .str "value" := hx
  subst hx
  exact ⟨a, y, rfl, hs, hy⟩
end
end My
end
section
set_option Elab.async false
set_option linter.all false
set_option maxRecDepth 100000
set_option maxHeartbeats 2000000
namespace My
open PySem PySem.Spec PyProof.Rows L2 Evl
open LamX (Tabs ExtN TabB LamS CodeO lamEnv lamCx lam_make2 lam_start2)
/-- law(lambda: ..): what is asked -/
def tToldL (T : List (Addr × Str)) (K : PySem.W.Frag) (tb : TE) : TE := fun σ H Q => Tabs T H ∧ ∀ H1, ExtN H H1 → Tabs T H1 → ∃ cs, (∀ H2 Q2, Ex H1 H2 → Ret (BG K cs) H2 Q2 → tb σ H2 Q2) ∧ Ret (TolC K cs) H1 Q
theorem cx_no {P : Program} {w : World} {outer : List Env} {H : Hp} {s s' : Shared} {u : Value} (h : L2.CX P w outer H s E0 u s') : False := by
  obtain ⟨_, _, _, _, _, _, _, _, _, _, _, _, z⟩ := h
  exact z
section
variable {X : Cx} {pins : List (Addr × Obj)} {σ : L2.St} {H1 : Hp} {s' : Shared}
/-- a lambda without parameters can be called -/
theorem lam_act {scope : Scope} {f c' : Addr} {pm ctv : Value} {params : Arguments} {body : Expr} {k : Nat} {cs : List Rat} {tb : TE} (I : Inv X pins σ H1 s') (L : LamS X.env.scope scope) (hf : s'.heap.get? f = some (PySem.W.kla_obj "<lambda>" (X.env.qual ++ "<lambda>") params body scope (cloFrom X.env.cells scope.names []) pm c' ctv)) (hfn : H1 f = none) (hfr : f ∉ frs X.stack) (hco : H1 c' = some (CodeO c' (X.env.qual ++ "<lambda>")))
    (hbind : bindArgs (PySem.W.kla_fn "<lambda>" (X.env.qual ++ "<lambda>") params body scope (cloFrom X.env.cells scope.names []) pm (.ref c') ctv) ⟨[], []⟩ = pure [])
    (hbody : ∀ (A : Around) (outer : List Env) (s : Shared) (H : Hp) (E : XK), Room k (A.deeper (lamEnv X scope s.heap.objs.size f c')) → PE (lamCx X A outer s H E scope f c') body tb) (hq : ∀ H2 Q2, Ex H1 H2 → Ret (BG X.K cs) H2 Q2 → tb σ H2 Q2) : Act X.prog X.w X.K X.mg X.base (frs X.stack) k H1 s' f cs := by
  intro A outer s HZ Q hr e0 un ex ret
  have of1 := un.keep f _ hf hfn hfr (fun z => by cases z)
  refine ⟨⟨_, _, _, _, of1⟩, ?_⟩
  obtain ⟨⟨oc, vs, t, hoc, hdc, hvc⟩, _, _⟩ := e0.hok c' _ (ex _ _ hco)
  refine PySem.W.kla_callFunE hr.depth of1 rfl L.co L.gen rfl ⟨c', oc, vs, t, rfl, hoc, hdc, hvc⟩ ?_
  rw [hbind]
  refine wpAny_pure (wpAny_newFunctionEnv (fun y hy => (L.own y hy).2) (fun y hy => absurd hy (by simp)) (fun h₁ hns hsb => ⟨(e0.mod.nolimit.keeps fun b o e => (e0.bs b o e).1).fresh _ hsb, ?_⟩) L.kind)
  show codeAny _ _ (.expr body (lamEnv X scope s.heap.objs.size f c')) _ _
  have kp : ∀ b o, s.heap.get? b = some o → h₁.get? b = some o := fun b o e => hsb.extBut b o (Nat.ne_of_lt (Heap.lt_size e)) (Heap.get?_push_of_some _ e)
  have J : Inv (lamCx X A outer s HZ E0 scope f c') [] σ HZ { s with heap := h₁, toks := s.toks + ([] : List (Str × Value)).length } := lam_start2 I L e0 hr.hd un hns kp
  refine PySem.W.kla_codeExpr (wpAny_mono ((hbody _ _ s HZ E0 (hr.deeper _)).run [] _ _ HZ Q J (hq HZ Q ex ret)) (fun v s2 hq => ?_) fun e s2 hq => ?_)
  · obtain ⟨w', H', J', rv, q⟩ := hq
    exact ⟨w', H', J'.os, J'.bare, J'.base, J'.hok, rv, q⟩
  · exact wpAny_mono hq (fun _ _ z => (cx_no z).elim) fun _ _ z => (cx_no z).elim
/-- _law_told(lambda: ..) -/
theorem pe_told {TB' : List (Addr × Str)} {c Pt : Addr} {k : Nat} {tb : TE} {params : Arguments} {body : Expr} {scope : Scope} {p lpos pos : Pos} (T : Tx X.K X.mg) (B : Bx X.K X.mg) (TB : TabB X.base X.mg c Pt) (hcode : X.env.code = .ref c) (hmT : (Pt, X.env.qual ++ "<lambda>") ∈ TB') (hu : ∀ p ∈ TB', p.1 = Pt → p.2 = X.env.qual ++ "<lambda>") (hr : Room (k + 3) X.A) (L : LamS X.env.scope scope)
    (hbody : ∀ (A : Around) (outer : List Env) (s : Shared) (H : Hp) (E : XK) (f c' : Addr), Room k (A.deeper (lamEnv X scope s.heap.objs.size f c')) → PE (lamCx X A outer s H E scope f c') body tb)
    (hg : Gl X "_law_told" := by rfl) (hdef : defaultsOf params X.env = ([], []) := by rfl)
    (hbind : ∀ (q : Str) (cl : List (Str × Addr)) (pm cv ctv : Value), bindArgs (PySem.W.kla_fn "<lambda>" q params body scope cl pm cv ctv) ⟨[], []⟩ = pure [] := by exact fun _ _ _ _ _ => rfl) :
    PE X (.Call (.Name "_law_told" p) [.Lambda params body scope lpos] [] pos) (tToldL TB' X.K tb) := by
  refine ⟨fun pins s σ H Q I h => ?_⟩
  obtain ⟨hT, h⟩ := h
  obtain ⟨fd, F⟩ := T.d_law_told.fn
  have hb := F.bindsN (ps := ["_law_ask"]) (fun _ _ _ _ _ _ us hl => match us, hl with | [_], _ => rfl)
  obtain ⟨oc, od, dV, kV, doc, pm, an, cdv, ct, osl, rfl, lk, hcd, hD, hK⟩ := F.ex
  refine wpAny_Call_Name_kw (ld_glob I hg T.d_law_told.gl ?_ (by decide))
  refine PySem.W.callWith_K (h₀ := X.base) I.ok.mod.kin F.kp ?_ (by rfl) (by rfl)
  show wpAny _ _ (spliced ((false, eval (.Lambda params body scope lpos) X.env) :: backTo pos (starEach [] X.env))) _ _ s
  refine Calls.spliced_cons (lam_make2 I TB hcode hmT hu hT hdef (L.has I.ok) fun f c' pm' ctv H1 s' I1 eN T1 hf hfn hfr hco => ?_)
  refine Calls.spliced_nil ⟨I1.kIn, ?_⟩
  obtain ⟨cs, hq, ret⟩ := h H1 eN T1
  have hA := lam_act (k := k) (cs := cs) I1 L hf hfn hfr hco (hbind _ _ _ _ _) (fun A outer s H E hr => hbody A outer s H E f c' hr) hq
  have rc : codeAny (model X.prog X.w) X.A (.call (.ref (He.ga X.K "_law_told")) ⟨[.ref f], []⟩) (CR CX0 X.stack X.prog X.w H1 s' Q E0) s' := by
    refine LamX.run_ofS (N := ["_law_ask", "_law_told_here"]) (ps := ["_law_ask"]) (us := [.ref f]) (vs := [.ref f]) lk hcd sc_law_told hr I1.env0 (hb s' [.ref f] I1.kIn rfl) (.cons rfl .nil) rfl fun hr' => ?_
    obtain ⟨t, ht, hq⟩ := told_body T B (E := E0) (Q := Q) hr' hA ret
    exact ⟨t, ht.nox, hq⟩
  refine wpAny_call (codeAny_mono rc fun r s2 hq => ?_)
  cases r with
  | error e => exact (show False from hq).elim
  | ok fl =>
    cases fl with
    | ret u => exact I1.after hq
    | next => exact False.elim hq
    | brk => exact False.elim hq
    | cont => exact False.elim hq
end
end My
end
section
set_option Elab.async false
set_option linter.all false
set_option maxRecDepth 100000
set_option maxHeartbeats 2000000
namespace My
open PySem PySem.Spec PyProof.Rows L2 Evl
open LamX (Tabs TabS ExtN TabB CodeO lamEnv lamCx inv_table among_app codeO_ne)
/-- a lambda whose own parameters are no names of the maker's -/
structure LamD (N : List Str) (sc scope : Scope) : Prop where
  kind : scope.kind = .function
  co : scope.isCoroutine = false
  gen : scope.isGenerator = false
  noc : ∀ y ∈ scope.names, y.2 ≠ .cell
  loc : ∀ y ∈ scope.names, y.2 = .local → y.1 ∉ N
  free : ∀ y ∈ scope.names, y.2 = .free → sc.names.lookup y.1 = some .cell ∨ sc.names.lookup y.1 = some .free
def lamDB (N : List Str) (sc scope : Scope) : Bool :=
  decide (scope.kind = .function) && !scope.isCoroutine && !scope.isGenerator && scope.names.all fun y => !decide (y.2 = .cell) && (!decide (y.2 = .local) || !N.contains y.1) && (!decide (y.2 = .free) || decide (sc.names.lookup y.1 = some .cell) || decide (sc.names.lookup y.1 = some .free))
theorem lamD_by {N : List Str} {sc scope : Scope} (h : lamDB N sc scope = true) : LamD N sc scope := by
  unfold lamDB at h
  simp only [Bool.and_eq_true, Bool.or_eq_true, Bool.not_eq_true', decide_eq_true_eq, decide_eq_false_iff_not, List.all_eq_true] at h
  obtain ⟨⟨⟨h1, h2⟩, h3⟩, h4⟩ := h
  refine ⟨h1, h2, h3, fun y hy => (h4 y hy).1.1, fun y hy e z => ?_, fun y hy e => ?_⟩
  · rcases (h4 y hy).1.2 with q | q
    · exact q e
    · rw [List.contains_iff_mem.mpr z] at q
      cases q
  · rcases (h4 y hy).2 with (z | z) | z
    · exact absurd e z
    · exact .inl z
    · exact .inr z
section
variable {X : Cx} {pins : List (Addr × Obj)} {σ : L2.St} {H HZ H1 : Hp} {s s1 s' : Shared}
theorem LamD.has {scope : Scope} (L : LamD X.N X.env.scope scope) (ok : X.Ok) : ∀ y ∈ scope.names, y.2 = .free → ∃ c, X.env.cells.lookup y.1 = some c := fun y hy e => ok.has _ (L.free y hy e)
theorem lamD_start {A : Around} {outer : List Env} {E : XK} {scope : Scope} {f c' : Addr} {h₁ : Heap} {tk : Nat} {m : Str → Option Value} (I : Inv X pins σ H s) (L : LamD X.N X.env.scope scope) (e0 : Env0 X.prog X.w X.K X.mg X.base A outer s1 HZ) (hd : A.handled = none)
    (un : Un (frs X.stack) [] H HZ s.heap s1.heap) (hns : h₁.Ns s1.heap.objs.size m) (kp : ∀ b o, s1.heap.get? b = some o → h₁.get? b = some o) : Inv (lamCx X A outer s1 HZ E scope f c') [] σ HZ { s1 with heap := h₁, toks := tk } := by
  have hfree := L.has I.ok
  have cm : ∀ {y c}, (cloFrom X.env.cells scope.names []).lookup y = some c → X.env.cells.lookup y = some c := fun {y c} e => by
    rcases cloFrom_mem (PySem.mem_of_lookup e) with hm | ⟨h1, h2⟩
    · cases hm
    · obtain ⟨c1, hc⟩ := hfree _ h1 rfl
      have hc : X.env.cells.lookup y = some c1 := hc
      have e2 : c = c1 := by
        rw [h2, hc] <;> rfl
      rw [e2]
      exact hc
  have look : ∀ {y}, scope.names.lookup y = some .free → ∃ c, (cloFrom X.env.cells scope.names []).lookup y = some c := fun {y} hl => mem_lookup (cloFrom_has (cells := X.env.cells) (acc := []) (PySem.mem_of_lookup hl))
  have cellK : ∀ {c : Addr} {v : Option Value}, H c = none → s.heap.IsCell c v → h₁.IsCell c v := fun {c v} n ⟨o, ho, hd⟩ => by
    obtain ⟨sl, q⟩ := un.any ho n (by simp)
    exact ⟨_, kp _ _ q, hd⟩
  have noA : ∀ b : Addr, b ∉ (lamCx X A outer s1 HZ E scope f c').ex := fun b z => absurd (show b ∈ ([] : List Addr) from z) (by simp)
  have okX : (lamCx X A outer s1 HZ E scope f c').Ok := by
    refine ⟨e0.mod, L.kind, rfl, rfl, Nat.le_refl _, fun y z c e1 e2 => I.ok.inj y z c (cm e1) (cm e2), fun y hy => ?_, fun y c z _ => ?_, fun _ => hd, Around.frames_deeper e0.frames, .inr ⟨rfl, rfl⟩, fun b z => absurd z (noA b), e0.bs, e0.bsz, fun b _ _ => noA b, fun b z => absurd z (noA b), e0.funs, e0.frf⟩
    · have hy : scope.names.lookup y = some .cell ∨ scope.names.lookup y = some .free := hy
      rcases hy with hy | hy
      · exact absurd rfl (L.noc _ (PySem.mem_of_lookup hy))
      · exact look hy
    · have z : false = true := z
      cases z
  refine ⟨okX, rfl, e0.bare, Un.kept kp, ⟨_, hns, fun i y v e1 e2 e3 => ?_⟩, fun y c e => ?_, e0.hok.fresh (Nat.le_refl _), fun y c e => ?_, fun q hq => absurd (show q ∈ ([] : List (Addr × Obj)) ++ [] from hq) (by simp), e0.hok.kept kp, I.len⟩
  · have e1 : X.N[i]? = some y := e1
    have e3 : Vis scope y := e3
    rcases e3 with k | k | k
    · exact absurd (List.mem_of_getElem? e1) (L.loc _ (PySem.mem_of_lookup k) rfl)
    · exact absurd rfl (L.noc _ (PySem.mem_of_lookup k))
    · obtain ⟨m, hn, hl⟩ := I.loc
      have fr := L.free _ (PySem.mem_of_lookup k) rfl
      obtain ⟨w', r, q⟩ := hl i y v e1 e2 (fr.elim (fun k => .inr (.inl k)) fun k => .inr (.inr k))
      obtain ⟨c2, h2⟩ := look k
      refine ⟨w', r, .inr ⟨.inr k, c2, h2, ?_⟩⟩
      have c1 := cm h2
      rcases q with ⟨k', _⟩ | ⟨_, c3, e', z⟩
      · have k' : X.env.scope.names.lookup y = some .local := k'
        rcases fr with k2 | k2 <;> rw [show X.env.scope.names.lookup y = _ from k2] at k' <;> cases k'
      · rw [c1] at e'
        cases e'
        exact cellK (I.freeC y _ c1) z
  · obtain ⟨w', z⟩ := I.cell y c (cm e)
    exact ⟨w', cellK (I.freeC y c (cm e)) z⟩
  · obtain ⟨v, o, ho, hd⟩ := I.cell y c (cm e)
    exact un.free c o ho (I.freeC y c (cm e)) (by simp)
end
end My
end
section
set_option Elab.async false
set_option linter.all false
set_option maxRecDepth 100000
set_option maxHeartbeats 2000000
namespace My
open PySem PySem.Spec PyProof.Rows L2 Evl
open LamX (Tabs TabS ExtN TabB CodeO lamEnv lamCx inv_table among_app codeO_ne)
section
variable {X : Cx} {pins : List (Addr × Obj)} {σ : L2.St} {H HZ H1 : Hp} {s s1 s' : Shared}
/-- what is known of a lambda with a default -/
structure MadeD (X : Cx) (pins : List (Addr × Obj)) (σ : L2.St) (params : Arguments) (body : Expr) (scope : Scope) (u : Value) (f t c' : Addr) (H1 : Hp) (s' : Shared) : Prop where
  inv : Inv X pins σ H1 s'
  ft : ∃ (dc pm ctv : Value), s'.heap.get? f = some (PySem.W.kdv_obj "<lambda>" (X.env.qual ++ "<lambda>") params (.expr body) scope (cloFrom X.env.cells scope.names []) (.ref t) dc pm c' ctv)
  fn : H1 f = none
  fs : f ∉ frs X.stack
  tt : s'.heap.get? t = some (PySem.W.kdv_tup [u])
  tn : H1 t = none
  ts : t ∉ frs X.stack
  co : H1 c' = some (CodeO c' (X.env.qual ++ "<lambda>"))
theorem lamD_tail {T : List (Addr × Str)} {c P t : Addr} {u : Value} {params : Arguments} {body : Expr} {scope : Scope} {pos : Pos} {E : Value → Shared → Prop} {Q : Value → Shared → Prop} (I : Inv X pins σ H s) (TB : TabB X.base X.mg c P) (hcode : X.env.code = .ref c)
    (hm : (P, X.env.qual ++ "<lambda>") ∈ T) (hu : ∀ p ∈ T, p.1 = P → p.2 = X.env.qual ++ "<lambda>") (hT : Tabs T H) (hfree : ∀ y ∈ scope.names, y.2 = .free → ∃ c, X.env.cells.lookup y.1 = some c) (tt : s.heap.get? t = some (PySem.W.kdv_tup [u])) (tn : H t = none) (ts : t ∉ frs X.stack)
    (h : ∀ (f c' : Addr) (H1 : Hp) (s' : Shared), ExtN H H1 → Tabs T H1 → MadeD X pins σ params body scope u f t c' H1 s' → Q (.ref f) s') :
    wpAny (model X.prog X.w) X.A (makeTail "<lambda>" (X.env.qual ++ "<lambda>") params (.expr body) scope X.env (.ref t) .none none pos pos.line) Q E s := by
  obtain ⟨ps, hP, ht, ha⟩ := hT _ hm
  have bP : s.heap.BuiltinsAt X.mg P := TB.bm.keeps I.bk
  have hP' : s.heap.get? P = some { cls := .none, data := .fields ps } := I.hok P _ hP
  have nofr : ∀ f, s.heap.objs.size ≤ f → f ∉ frs X.stack := fun f hf z => by
    rcases List.mem_cons.mp (I.stkSub _ z) with e | e
    · have h1 := I.lt
      rw [← e] at h1
      exact Nat.lt_irrefl _ (Nat.lt_of_lt_of_le h1 hf)
    · exact I.nofs hf e
  have tP : t ≠ P := fun z => by rw [z, hP] at tn; cases tn
  cases hc : codeAmong pos ps.toList with
  | none =>
    refine PySem.W.kdv_makeTail (mg := X.mg) (c := c) (P := P) (ps := ps) (closure_ok hfree) I.ok.glob (I.mod.glob.keeps I.bk) hcode (TB.code.keeps I.bk) hP' ht hc TB.gP bP fun c' ctv doc h' tk hx hge hlt hrec htb => ?_
    obtain ⟨c2, oc, vs, tq, e2, hoc, hd, hv⟩ := hrec
    cases e2
    have hsz : s.heap.objs.size ≤ h'.objs.size := Nat.le_trans hge (Nat.le_of_lt hlt)
    have nC : H c' = none := I.hok.fresh hge
    have I1 := inv_table (t' := tk) (more := #[rawInt pos.line, rawInt pos.col, .ref c']) (h' := h'.push (PySem.W.kdv_obj "<lambda>" (X.env.qual ++ "<lambda>") params (.expr body) scope (cloFrom X.env.cells scope.names []) (.ref t) doc ((X.mg "__name__").getD .none) c' ctv)) I hP
      (fun b o hb e => Heap.get?_push_of_some _ (hx b o hb e)) (Heap.get?_push_of_some _ htb) hge ⟨oc, vs, tq, Heap.get?_push_of_some _ hoc, hd, hv⟩
    have hE : ExtN H (upd (upd H P (.tbl (ps ++ #[rawInt pos.line, rawInt pos.col, .ref c']))) c' (CodeO c' (X.env.qual ++ "<lambda>"))) := fun b o e n => by
      rw [upd_ne (ne_of_none e nC), upd_ne (fun z => n ps (Option.some.inj (e.symm.trans (by rw [z]; exact hP))))]
      exact e
    have n1 : h'.objs.size ≠ c' := Nat.ne_of_gt hlt
    have n2 : h'.objs.size ≠ P := Nat.ne_of_gt (Nat.lt_of_lt_of_le (Heap.lt_size hP') hsz)
    have tc : t ≠ c' := Nat.ne_of_lt (Nat.lt_of_lt_of_le (Heap.lt_size tt) hge)
    refine h h'.objs.size c' _ _ hE (fun p hp => ?_) ⟨I1, ⟨doc, (X.mg "__name__").getD .none, ctv, Heap.get?_push_size _ rfl⟩, by rw [upd_ne n1, upd_ne n2]; exact I.hok.fresh hsz, nofr _ hsz, Heap.get?_push_of_some _ (hx t _ tP tt), by rw [upd_ne tc, upd_ne tP]; exact tn, ts, upd_same⟩
    by_cases hb : p.1 = P
    · rw [hu p hp hb, hb]
      have eL : (ps ++ #[rawInt pos.line, rawInt pos.col, .ref c']).toList = ps.toList ++ [rawInt pos.line, rawInt pos.col, .ref c'] := by simp
      refine ⟨_, by rw [upd_ne (ne_of_none hP nC), upd_same], by rw [eL]; exact PySem.TriplesOk_snoc _ _ _ _ ht, fun p' cv hcv => ?_⟩
      rw [eL] at hcv
      rcases among_app _ ht hcv with z | z
      · obtain ⟨c0, e1, e2⟩ := ha p' cv z
        exact ⟨c0, e1, hE _ _ e2 codeO_ne⟩
      · exact ⟨c', z, upd_same⟩
    · obtain ⟨ps', a1, a2, a3⟩ := hT p hp
      refine ⟨ps', by rw [upd_ne (ne_of_none a1 nC), upd_ne hb]; exact a1, a2, fun p' cv hcv => ?_⟩
      obtain ⟨c0, e1, e2⟩ := a3 p' cv hcv
      exact ⟨c0, e1, hE _ _ e2 codeO_ne⟩
  | some cv =>
    obtain ⟨c', e, hco⟩ := ha pos cv hc
    subst e
    refine PySem.W.kdv_makeTailHit (mg := X.mg) (c := c) (P := P) (ps := ps) (closure_ok hfree) I.ok.glob (I.mod.glob.keeps I.bk) hcode (TB.code.keeps I.bk) hP' ht hc bP fun ctv doc h' tk hx hsz => ?_
    have I1 : Inv X pins σ H { s with heap := h'.push (PySem.W.kdv_obj "<lambda>" (X.env.qual ++ "<lambda>") params (.expr body) scope (cloFrom X.env.cells scope.names []) (.ref t) doc ((X.mg "__name__").getD .none) c' ctv), toks := tk } := I.kept fun b o e => Heap.get?_push_of_some _ (hx b o e)
    exact h h'.objs.size c' H _ (ExtN.refl H) hT ⟨I1, ⟨doc, (X.mg "__name__").getD .none, ctv, Heap.get?_push_size _ rfl⟩, I.hok.fresh hsz, nofr _ hsz, Heap.get?_push_of_some _ (hx t _ tt), tn, ts, hco⟩
theorem lamD_make {T : List (Addr × Str)} {c P : Addr} {params : Arguments} {e0 : Expr} {x0 : V} {body : Expr} {scope : Scope} {pos : Pos} {E : Value → Shared → Prop} {Q : Value → Shared → Prop} (I : Inv X pins σ H s) (TB : TabB X.base X.mg c P) (hcode : X.env.code = .ref c)
    (hm : (P, X.env.qual ++ "<lambda>") ∈ T) (hu : ∀ p ∈ T, p.1 = P → p.2 = X.env.qual ++ "<lambda>") (hT : Tabs T H) (hdef : params.defaults = [e0]) (hk0 : params.kw_defaults = []) (he : PE X.nox e0 (tC x0)) (hfree : ∀ y ∈ scope.names, y.2 = .free → ∃ c, X.env.cells.lookup y.1 = some c)
    (h : ∀ (f t c' : Addr) (u : Value) (H1 : Hp) (s' : Shared), RelV x0 u → ExtN H H1 → Tabs T H1 → MadeD X pins σ params body scope u f t c' H1 s' → Q (.ref f) s') :
    wpAny (model X.prog X.w) X.A (eval (.Lambda params body scope pos) X.env) Q E s := by
  refine PySem.W.kdv_lam (by rw [hdef]; rfl) hk0 ?_
  rw [hdef]
  refine PySem.W.kdv_all1 (wpAny_mono (he.run pins s σ H (fun v H1 => v = x0 ∧ H1 = H) (I.wish _) ⟨rfl, rfl⟩) (fun u s1 ⟨v, H1, I1, r1, q1⟩ => PySem.W.kdv_all0 ?_) fun e s1 z => z.elim)
  obtain ⟨ev, eH⟩ := q1
  subst ev
  subst eH
  have I1 : Inv X pins σ H1 s1 := I1.unwish
  rw [makeFunction_eq]
  simp only [List.zip_nil_right, List.filterMap_nil, List.isEmpty_nil, List.isEmpty_cons, if_true, pure_bind, Bool.false_eq_true, if_false]
  refine wpAny_bind (wpAny_newTextTuple ?_)
  have nofr : ∀ f, s1.heap.objs.size ≤ f → f ∉ frs X.stack := fun f hf z => by
    rcases List.mem_cons.mp (I1.stkSub _ z) with e | e
    · have h1 := I1.lt
      rw [← e] at h1
      exact Nat.lt_irrefl _ (Nat.lt_of_lt_of_le h1 hf)
    · exact I1.nofs hf e
  have I2 : Inv X pins σ H1 { s1 with heap := s1.heap.push { cls := .type "tuple", data := .seq [u].toArray } } := I1.kept (t' := s1.toks) fun b o e => Heap.get?_push_of_some _ e
  exact lamD_tail I2 TB hcode hm hu hT hfree (Heap.get?_push_size _ rfl) (I1.hok.fresh (Nat.le_refl _)) (nofr _ (Nat.le_refl _)) fun f c' H2 s2 eN T2 M => h f _ c' u H2 s2 r1 eN T2 M
end
end My
end
section
set_option Elab.async false
set_option linter.all false
set_option maxRecDepth 100000
set_option maxHeartbeats 2000000
namespace My
open PySem PySem.Spec PyProof.Rows L2 Evl
open LamX (Tabs TabS ExtN TabB CodeO lamEnv lamCx)
section
variable {X : Cx} {pins : List (Addr × Obj)} {σ : L2.St} {H HZ H1 : Hp} {s s1 s' : Shared}
theorem lamD_act {scope : Scope} {f t c' : Addr} {u : Value} {params : Arguments} {body : Expr} {k : Nat} {cs : List Rat} {tb : TE} {y : Str} (M : MadeD X pins σ params body scope u f t c' H1 s') (L : LamD X.N X.env.scope scope) (hy : scope.names.lookup y = some .local)
    (hbind : ∀ (s : Shared) (dc pm ctv : Value), s.heap.get? t = some (PySem.W.kdv_tup [u]) → BindsTo s (PySem.W.kdv_fn "<lambda>" (X.env.qual ++ "<lambda>") params (.expr body) scope (cloFrom X.env.cells scope.names []) (.ref t) dc pm (.ref c') ctv) ⟨[], []⟩ [(y, u)])
    (hbody : ∀ (A : Around) (outer : List Env) (s : Shared) (H : Hp) (E : XK), Room k (A.deeper (lamEnv X scope s.heap.objs.size f c')) → PE (lamCx X A outer s H E scope f c') body tb) (hq : ∀ H2 Q2, Ex H1 H2 → Ret (BG X.K cs) H2 Q2 → tb σ H2 Q2) : Act X.prog X.w X.K X.mg X.base (frs X.stack) k H1 s' f cs := by
  intro A outer s HZ Q hr e0 un ex ret
  obtain ⟨dc, pm, ctv, hf⟩ := M.ft
  have of1 := un.keep f _ hf M.fn M.fs (fun z => by cases z)
  have ot1 := un.keep t _ M.tt M.tn M.ts (fun z => by cases z)
  refine ⟨⟨_, _, _, _, of1⟩, ?_⟩
  obtain ⟨⟨oc, vs, tq, hoc, hdc, hvc⟩, _, _⟩ := e0.hok c' _ (ex _ _ M.co)
  refine PySem.W.kla_callFunE hr.depth of1 rfl L.co L.gen rfl ⟨c', oc, vs, tq, rfl, hoc, hdc, hvc⟩ (hbind s dc pm ctv ot1 _ _ _ _ ?_)
  refine wpAny_newFunctionEnv L.noc (fun z hz => ?_) (fun h₁ hns hsb => ⟨(e0.mod.nolimit.keeps fun b o e => (e0.bs b o e).1).fresh _ hsb, ?_⟩) L.kind
  · obtain rfl : z = (y, u) := by simpa using hz
    exact hy
  show codeAny _ _ (.expr body (lamEnv X scope s.heap.objs.size f c')) _ _
  have kp : ∀ b o, s.heap.get? b = some o → h₁.get? b = some o := fun b o e => hsb.extBut b o (Nat.ne_of_lt (Heap.lt_size e)) (Heap.get?_push_of_some _ e)
  have J : Inv (lamCx X A outer s HZ E0 scope f c') [] σ HZ { s with heap := h₁, toks := s.toks + ([(y, u)] : List (Str × Value)).length } := lamD_start M.inv L e0 hr.hd un hns kp
  refine PySem.W.kla_codeExpr (wpAny_mono ((hbody _ _ s HZ E0 (hr.deeper _)).run [] _ _ HZ Q J (hq HZ Q ex ret)) (fun v s2 hq => ?_) fun e s2 hq => ?_)
  · obtain ⟨w', H', J', rv, q⟩ := hq
    exact ⟨w', H', J'.os, J'.bare, J'.base, J'.hok, rv, q⟩
  · exact wpAny_mono hq (fun _ _ z => (cx_no z).elim) fun _ _ z => (cx_no z).elim
/-- _law_told(lambda y=e0: ..) -/
theorem pe_toldD {TB' : List (Addr × Str)} {c Pt : Addr} {k : Nat} {tb : TE} {params : Arguments} {body e0 : Expr} {scope : Scope} {p lpos pos : Pos} (x0 : V) (y : Str) (T : Tx X.K X.mg) (B : Bx X.K X.mg) (TB : TabB X.base X.mg c Pt) (hcode : X.env.code = .ref c) (hmT : (Pt, X.env.qual ++ "<lambda>") ∈ TB') (hu : ∀ p ∈ TB', p.1 = Pt → p.2 = X.env.qual ++ "<lambda>") (hr : Room (k + 3) X.A) (L : LamD X.N X.env.scope scope)
    (hdef : params.defaults = [e0]) (hk0 : params.kw_defaults = []) (he : PE X.nox e0 (tC x0)) (hy : scope.names.lookup y = some .local)
    (hbind : ∀ (q : Str) (cl : List (Str × Addr)) (c' t : Addr) (u : Value) (s : Shared) (dc pm ctv : Value), s.heap.get? t = some (PySem.W.kdv_tup [u]) → BindsTo s (PySem.W.kdv_fn "<lambda>" q params (.expr body) scope cl (.ref t) dc pm (.ref c') ctv) ⟨[], []⟩ [(y, u)])
    (hbody : ∀ (A : Around) (outer : List Env) (s : Shared) (H : Hp) (E : XK) (f c' : Addr), Room k (A.deeper (lamEnv X scope s.heap.objs.size f c')) → PE (lamCx X A outer s H E scope f c') body tb)
    (hg : Gl X "_law_told" := by rfl) :
    PE X (.Call (.Name "_law_told" p) [.Lambda params body scope lpos] [] pos) (tToldL TB' X.K tb) := by
  refine ⟨fun pins s σ H Q I h => ?_⟩
  obtain ⟨hT, h⟩ := h
  obtain ⟨fd, F⟩ := T.d_law_told.fn
  have hb := F.bindsN (ps := ["_law_ask"]) (fun _ _ _ _ _ _ us hl => match us, hl with | [_], _ => rfl)
  obtain ⟨oc, od, dV, kV, doc, pm, an, cdv, ct, osl, rfl, lk, hcd, hD, hK⟩ := F.ex
  refine wpAny_Call_Name_kw (ld_glob I hg T.d_law_told.gl ?_ (by decide))
  refine PySem.W.callWith_K (h₀ := X.base) I.ok.mod.kin F.kp ?_ (by rfl) (by rfl)
  show wpAny _ _ (spliced ((false, eval (.Lambda params body scope lpos) X.env) :: backTo pos (starEach [] X.env))) _ _ s
  refine Calls.spliced_cons (lamD_make I TB hcode hmT hu hT hdef hk0 he (L.has I.ok) fun f t c' u H1 s' ru eN T1 M => ?_)
  have I1 := M.inv
  refine Calls.spliced_nil ⟨I1.kIn, ?_⟩
  obtain ⟨cs, hq, ret⟩ := h H1 eN T1
  have hA := lamD_act (k := k) (cs := cs) M L hy (fun s dc pm ctv => hbind _ _ c' t u s dc pm ctv) (fun A outer s H E hr => hbody A outer s H E f c' hr) hq
  have rc : codeAny (model X.prog X.w) X.A (.call (.ref (He.ga X.K "_law_told")) ⟨[.ref f], []⟩) (CR CX0 X.stack X.prog X.w H1 s' Q E0) s' := by
    refine LamX.run_ofS (N := ["_law_ask", "_law_told_here"]) (ps := ["_law_ask"]) (us := [.ref f]) (vs := [.ref f]) lk hcd sc_law_told hr I1.env0 (hb s' [.ref f] I1.kIn rfl) (.cons rfl .nil) rfl fun hr' => ?_
    obtain ⟨t, ht, hq⟩ := told_body T B (E := E0) (Q := Q) hr' hA ret
    exact ⟨t, ht.nox, hq⟩
  refine wpAny_call (codeAny_mono rc fun r s2 hq => ?_)
  cases r with
  | error e => exact (show False from hq).elim
  | ok fl =>
    cases fl with
    | ret u => exact I1.after hq
    | next => exact False.elim hq
    | brk => exact False.elim hq
    | cont => exact False.elim hq
end
end My
end
section
set_option Elab.async false
set_option linter.all false
set_option maxRecDepth 100000
set_option maxHeartbeats 2000000
namespace My
open PySem PySem.Spec PyProof.Rows L2 Evl
open LamX (Tabs TabS ExtN TabB CodeO lamEnv lamCx)
theorem bd_choice_sums {K : PySem.W.Frag} {fd : FuncData} (F : FunD K "choice_sums" "choice_sums" (defArgs s_choice_sums) (defBody s_choice_sums) (defScope s_choice_sums) [] [("road", .str "sums")] (He.ga K "choice_sums") fd) : ∃ ds, Vals [V.str "sums"] ds ∧ L2.Binds K fd ["bag", "many", "road"] ds :=
  F.binds0 (ps := ["bag", "many", "road"]) 2 (fun z => nomatch z) rfl fun D doc pm an cdv ct us ks h1 h2 => match us, ks, h1, h2 with
    | [_, _], [_], _, _ => ⟨_, _, _, _, _, _, rfl, rfl, rfl⟩
theorem kb_choice_sums {K : PySem.W.Frag} {fd : FuncData} (F : FunD K "choice_sums" "choice_sums" (defArgs s_choice_sums) (defBody s_choice_sums) (defScope s_choice_sums) [] [("road", .str "sums")] (He.ga K "choice_sums") fd) : ∃ g, KBn K fd ["bag", "many", "road"] 2 ["road"] g (fun vs zs => vs ++ zs) := by
  obtain ⟨mv, h⟩ := F.kbinds0 (ps := ["bag", "many", "road"]) 2 ["road"] [] (fun us mv ws => us ++ ws) (fun z => nomatch z) (fun q hq => by cases hq) (fun r1 _ r2 => r1.append r2) fun D doc pm an cdv ct us mv ws h1 h2 h3 => match us, mv, ws, h1, h2, h3 with
    | [_, _], [], [_], _, _, _ => rfl
  exact ⟨_, h⟩
theorem bd_choice_products {K : PySem.W.Frag} {fd : FuncData} (F : FunD K "choice_products" "choice_products" (defArgs s_choice_products) (defBody s_choice_products) (defScope s_choice_products) [] [("road", .str "sums")] (He.ga K "choice_products") fd) : ∃ ds, Vals [V.str "sums"] ds ∧ L2.Binds K fd ["bag", "many", "road"] ds :=
  F.binds0 (ps := ["bag", "many", "road"]) 2 (fun z => nomatch z) rfl fun D doc pm an cdv ct us ks h1 h2 => match us, ks, h1, h2 with
    | [_, _], [_], _, _ => ⟨_, _, _, _, _, _, rfl, rfl, rfl⟩
theorem kb_choice_products {K : PySem.W.Frag} {fd : FuncData} (F : FunD K "choice_products" "choice_products" (defArgs s_choice_products) (defBody s_choice_products) (defScope s_choice_products) [] [("road", .str "sums")] (He.ga K "choice_products") fd) : ∃ g, KBn K fd ["bag", "many", "road"] 2 ["road"] g (fun vs zs => vs ++ zs) := by
  obtain ⟨mv, h⟩ := F.kbinds0 (ps := ["bag", "many", "road"]) 2 ["road"] [] (fun us mv ws => us ++ ws) (fun z => nomatch z) (fun q hq => by cases hq) (fun r1 _ r2 => r1.append r2) fun D doc pm an cdv ct us mv ws h1 h2 h3 => match us, mv, ws, h1, h2, h3 with
    | [_, _], [], [_], _, _, _ => rfl
  exact ⟨_, h⟩
end My
end
section
set_option Elab.async false
set_option linter.all false
set_option maxRecDepth 100000
set_option maxHeartbeats 2000000
namespace My
open PySem PySem.Spec PyProof.Rows L2 Evl
open LamX (Tabs TabS ExtN TabB CodeO lamEnv lamCx lamS_by)
section
variable {Z : Cx} {e : Expr} {es : List Expr} {t tk : TA} {p pos : Pos}
theorem pe_choice_sums (T : Tx Z.K Z.mg) (B : Bx Z.K Z.mg) (hr : Room 10 Z.A) (ha : PA Z (e :: es) t) (hg : Gl Z "choice_sums" := by rfl) (he : starEach (e :: es) Z.env = (false, eval e Z.env) :: starEach es Z.env := by rfl) (hpl : (backTo pos (starEach es Z.env)).any (·.1) = false := by rfl) :
    PE Z (.Call (.Name "choice_sums" p) (e :: es) [] pos) (tCall (spCs Z.K) [.str "sums"] E0 t) := by
  obtain ⟨fd, F, ok⟩ := has_choice_sums (P := Z.prog) (w := Z.w) (base := Z.base) T B
  obtain ⟨ds, v, b⟩ := bd_choice_sums F
  exact pe_call ok hr hg T.n_sums F.kp b v pass0 ha (by decide) he hpl
theorem pk_choice_sums {kws : List Keyword} (T : Tx Z.K Z.mg) (B : Bx Z.K Z.mg) (hr : Room 10 Z.A) (ha : PA Z (e :: es) t) (hkw : PK Z kws tk) (hg : Gl Z "choice_sums" := by rfl)
    (hall : (backToKw pos (keywordEach kws Z.env)).all (·.1.isSome) = true := by rfl) (hks : (backToKw pos (keywordEach kws Z.env)).filterMap (·.1) = (["road"] : List Str) := by rfl) (he : starEach (e :: es) Z.env = (false, eval e Z.env) :: starEach es Z.env := by rfl)
    (hpl : ((backTo pos (starEach (e :: es) Z.env)).any (·.1) || (backToKw pos (keywordEach kws Z.env)).any (·.1.isNone)) = false := by rfl) :
    PE Z (.Call (.Name "choice_sums" p) (e :: es) kws pos) (tCallN 2 1 (spCs Z.K) (fun vs zs => vs ++ zs) E0 t tk) := by
  obtain ⟨fd, F, ok⟩ := has_choice_sums (P := Z.prog) (w := Z.w) (base := Z.base) T B
  obtain ⟨g, b⟩ := kb_choice_sums F
  exact pe_callN ok hr hg T.n_sums F.kp b pass0 ha hkw hall hks (by decide) he hpl
theorem pe_choice_products (T : Tx Z.K Z.mg) (B : Bx Z.K Z.mg) (hr : Room 10 Z.A) (ha : PA Z (e :: es) t) (hg : Gl Z "choice_products" := by rfl) (he : starEach (e :: es) Z.env = (false, eval e Z.env) :: starEach es Z.env := by rfl) (hpl : (backTo pos (starEach es Z.env)).any (·.1) = false := by rfl) :
    PE Z (.Call (.Name "choice_products" p) (e :: es) [] pos) (tCall (spCpp Z.K) [.str "sums"] E0 t) := by
  obtain ⟨fd, F, ok⟩ := has_choice_products (P := Z.prog) (w := Z.w) (base := Z.base) T B
  obtain ⟨ds, v, b⟩ := bd_choice_products F
  exact pe_call ok hr hg T.n_products F.kp b v pass0 ha (by decide) he hpl
theorem pk_choice_products {kws : List Keyword} (T : Tx Z.K Z.mg) (B : Bx Z.K Z.mg) (hr : Room 10 Z.A) (ha : PA Z (e :: es) t) (hkw : PK Z kws tk) (hg : Gl Z "choice_products" := by rfl)
    (hall : (backToKw pos (keywordEach kws Z.env)).all (·.1.isSome) = true := by rfl) (hks : (backToKw pos (keywordEach kws Z.env)).filterMap (·.1) = (["road"] : List Str) := by rfl) (he : starEach (e :: es) Z.env = (false, eval e Z.env) :: starEach es Z.env := by rfl)
    (hpl : ((backTo pos (starEach (e :: es) Z.env)).any (·.1) || (backToKw pos (keywordEach kws Z.env)).any (·.1.isNone)) = false := by rfl) :
    PE Z (.Call (.Name "choice_products" p) (e :: es) kws pos) (tCallN 2 1 (spCpp Z.K) (fun vs zs => vs ++ zs) E0 t tk) := by
  obtain ⟨fd, F, ok⟩ := has_choice_products (P := Z.prog) (w := Z.w) (base := Z.base) T B
  obtain ⟨g, b⟩ := kb_choice_products F
  exact pe_callN ok hr hg T.n_products F.kp b pass0 ha hkw hall hks (by decide) he hpl
end
/-- the name of law's lambdas -/
abbrev qLam : Str := ("law" : Str) ++ ".<locals>." ++ "<lambda>"
abbrev tC3 : TA := tCons (tVar 3) (tCons (tVar 4) tNil)
abbrev tbS (K : PySem.W.Frag) : TE := tCall (spCs K) [.str "sums"] E0 tC3
abbrev tbP (K : PySem.W.Frag) : TE := tCall (spCpp K) [.str "sums"] E0 tC3
abbrev tbSM (K : PySem.W.Frag) : TE := tCallN 2 1 (spCs K) (fun vs zs => vs ++ zs) E0 tC3 (tCons (tC (.str "matrices")) tNil)
abbrev tbPM (K : PySem.W.Frag) : TE := tCallN 2 1 (spCpp K) (fun vs zs => vs ++ zs) E0 tC3 (tCons (tC (.str "matrices")) tNil)
end My
end
section
set_option Elab.async false
set_option linter.all false
set_option maxRecDepth 100000
set_option maxHeartbeats 2000000
namespace My
open PySem PySem.Spec PyProof.Rows L2 Evl
open LamX (Tabs ExtN)
/-! what stands while code objects are made -/
class Nt (P : VP) : Prop where
  n : ∀ {S : Addr → Prop} {H H' : Hp} {v : V}, ExtN H H' → P S H v → P S H' v
theorem sqt_n {K : PySem.W.Frag} {H H' : Hp} {a : Addr} {xs : List V} (e : ExtN H H') (h : SqT K H a xs) : SqT K H' a xs := by
  rcases h with (h | ⟨o, h⟩) | h
  · exact .inl (.inl (e _ _ h fun _ z => nomatch z))
  · exact .inl (.inr ⟨o, e _ _ h fun _ z => nomatch z⟩)
  · exact .inr h
instance (K : PySem.W.Frag) (r : Rat) : Nt (IQ K r) := ⟨fun e ⟨a, x, h⟩ => ⟨a, x, sqt_n e h⟩⟩
instance {β : Type} (P : β → VP) [∀ b, Nt (P b)] (l : List β) : Nt (LO P l) := ⟨fun e ⟨a, vs, x, hs, h, p⟩ => ⟨a, vs, x, hs, e _ _ h (fun _ z => nomatch z), Paired.mapR p fun b x q => Nt.n e q⟩⟩
instance {β : Type} (K : PySem.W.Frag) (P : β → VP) [∀ b, Nt (P b)] (l : List β) : Nt (TO' K P l) := ⟨fun e ⟨a, vs, x, h, p⟩ => ⟨a, vs, x, sqt_n e h, Paired.mapR p fun b x q => Nt.n e q⟩⟩
instance (K : PySem.W.Frag) (cs : List Rat) : Nt (BG K cs) := ⟨fun e ⟨x, dx, t, ev, h, p⟩ => ⟨x, dx, t, ev, e _ _ h (fun _ z => nomatch z), Nt.n (P := TO' K (IQ K) cs) e p⟩⟩
instance (K : PySem.W.Frag) (cs : List Rat) : Nt (TolC K cs) := ⟨fun e ⟨a, b, x, h, p⟩ => ⟨a, b, x, sqt_n e h, Nt.n (P := LO (IQ K) cs) e p⟩⟩
instance : Nt RGP := ⟨fun e ⟨Rg, Ls, xs, x, h, hs, hl⟩ => ⟨Rg, Ls, xs, x, e _ _ h (fun _ z => nomatch z), hs, e _ _ hl (fun _ z => nomatch z)⟩⟩
theorem extn_of {H H' : Hp} (e : Ex H H') : ExtN H H' := .of e
/-- a told call -/
theorem told_step {K : PySem.W.Frag} {T : List (Addr × Str)} {tb : TE} {σ : L2.St} {H : Hp} {Q : VK} (hT : Tabs T H) (cs : List Rat) (hs : ∀ H2 Q2, ExtN H H2 → Ret (BG K cs) H2 Q2 → tb σ H2 Q2) (k : ∀ v H2, ExtN H H2 → Tabs T H2 → TolC K cs (fun a => ∀ xs, H a ≠ some (.lst xs)) H2 v → Q v H2) : tToldL T K tb σ H Q := by
  refine ⟨hT, fun H1 eN T1 => ⟨cs, fun H2 Q2 e r => hs H2 Q2 (eN.trans (.of e)) r, fun v H' e w => ?_⟩⟩
  refine k v H' (eN.trans (.of e)) (T1.ext e) (Mn.mono (P := TolC K cs) (fun a z xs q => ?_) w)
  have := eN a _ q (fun _ z => nomatch z)
  rw [this] at z
  cases z
/-! the same -/
section
variable {K : PySem.W.Frag} {H : Hp}
theorem rel_q {q : Rat} {S S' : Addr → Prop} {x y : V} (h : IQ K q S H x) (h' : IQ K q S' H y) : RelN K 1 H x y := by
  obtain ⟨a, rfl, ha⟩ := h
  obtain ⟨b, rfl, hb⟩ := h'
  exact .inr ⟨a, b, _, _, rfl, rfl, .inr ⟨ha, hb⟩, by show 2 ≤ 1000; decide, .cons (.inl ⟨_, rfl, rfl⟩) (.cons (.inl ⟨_, rfl, rfl⟩) .nil)⟩
theorem rel_pair {β : Type} {P : β → VP} {S S' : Addr → Prop} {n : Nat} (h : ∀ b x y, P b S H x → P b S' H y → RelN K n H x y) : ∀ {l : List β} {xs ys : List V}, Paired (fun b x => P b S H x) l xs → Paired (fun b x => P b S' H x) l ys → Paired (RelN K n H) xs ys
  | _, _, _, .nil, .nil => .nil
  | _, _, _, .cons r t, .cons r' t' => .cons (h _ _ _ r r') (rel_pair h t t')
theorem rel_lo {β : Type} {P : β → VP} {S S' : Addr → Prop} {n : Nat} (h : ∀ b x y, P b S H x → P b S' H y → RelN K n H x y) {l : List β} {x y : V} (hl : l.length ≤ 1000) (h1 : LO P l S H x) (h2 : LO P l S' H y) : RelN K (n + 1) H x y := by
  obtain ⟨a, xs, rfl, _, ha, pa⟩ := h1
  obtain ⟨b, ys, rfl, _, hb, pb⟩ := h2
  exact .inr ⟨a, b, xs, ys, rfl, rfl, .inl ⟨SqL.of ha, SqL.of hb⟩, by rw [← pr_len pa]; exact hl, rel_pair h pa pb⟩
theorem rel_tol {cs : List Rat} {S S' : Addr → Prop} {x y : V} (hl : cs.length ≤ 1000) (h : TolC K cs S H x) (h' : TolC K cs S' H y) : RelN K 3 H x y := by
  obtain ⟨a, u, rfl, ha, hu⟩ := h
  obtain ⟨b, v, rfl, hb, hv⟩ := h'
  exact .inr ⟨a, b, _, _, rfl, rfl, .inr ⟨ha, hb⟩, by show 2 ≤ 1000; decide, .cons (.inl (.inr ⟨_, rfl, rfl⟩)) (.cons (rel_lo (n := 1) (fun _ _ _ => rel_q) hl hu hv) .nil)⟩
theorem rel_found {l : List (List Rat)} {S S' : Addr → Prop} {x y : V} (hc : ∀ c ∈ l, c.length ≤ 1000) (hl : l.length ≤ 1000) (h1 : LO (TolC K) l S H x) (h2 : LO (TolC K) l S' H y) : RelN K 4 H x y := by
  obtain ⟨a, xs, rfl, _, ha, pa⟩ := h1
  obtain ⟨b, ys, rfl, _, hb, pb⟩ := h2
  refine .inr ⟨a, b, xs, ys, rfl, rfl, .inl ⟨SqL.of ha, SqL.of hb⟩, by rw [← pr_len pa]; exact hl, ?_⟩
  clear ha hb hl
  induction pa generalizing ys with
  | nil => cases pb; exact .nil
  | cons r t ih =>
    cases pb with
    | cons r' t' => exact .cons (rel_tol (hc _ (List.mem_cons_self ..)) r r') (ih (fun c h => hc c (List.mem_cons_of_mem _ h)) _ t')
end
/-! the same data -/
def tolD (cs : List Rat) : PyData := .tuple [.str "value", .list (cs.map qD)]
theorem dp_tol {K : PySem.W.Frag} {H : Hp} {cs : List Rat} {S : Addr → Prop} {x : V} (h : TolC K cs S H x) : Dp K H x (tolD cs) := by
  obtain ⟨a, b, rfl, ha, c, vs, rfl, _, hc, p⟩ := h
  exact .tup ha (.cons (.str _) (.cons (.lst (SqL.of hc) (dpall_q p)) .nil))
theorem dpall_tol {K : PySem.W.Frag} {H : Hp} {S : Addr → Prop} : ∀ {l : List (List Rat)} {vs : List V}, Paired (fun b x => TolC K b S H x) l vs → DpAll K H vs (l.map tolD)
  | _, _, .nil => .nil
  | _, _, .cons r t => .cons (dp_tol r) (dpall_tol t)
theorem value_ok : PyData.strOk ("value" : Str) = true := by decide +kernel
theorem lay_q : ∀ cs : List Rat, PyData.canLayAll0 (cs.map qD) = true
  | [] => rfl
  | c :: cs => by
    rw [List.map_cons, PyData.canLayAll0, lay_q cs]
    rfl
theorem dep_q : ∀ cs : List Rat, PyData.depthAll (cs.map qD) ≤ 1
  | [] => Nat.zero_le _
  | c :: cs => by
    rw [List.map_cons, PyData.depthAll]
    exact Nat.max_le.mpr ⟨Nat.le_refl 1, dep_q cs⟩
theorem lay_tol (cs : List Rat) : PyData.canLay0 (tolD cs) = true := by
  unfold tolD
  rw [PyData.canLay0, PyData.canLayAll0, PyData.canLayAll0, PyData.canLayAll0, PyData.canLay0, PyData.canLay0, value_ok, lay_q cs]
  rfl
theorem dep_tol (cs : List Rat) : PyData.depth (tolD cs) ≤ 10 := by
  unfold tolD
  rw [PyData.depth, PyData.depthAll, PyData.depthAll, PyData.depthAll, PyData.depth, PyData.depth]
  have := dep_q cs
  omega
theorem shaped_tol2 {cs : List Rat} (h : cs.length ≤ 9) : SeqAt.shaped (.list ([cs, cs].map tolD)) = true := by
  unfold SeqAt.shaped
  rw [List.map_cons, List.map_cons, List.map_nil, PyData.canLay0, PyData.canLayAll0, PyData.canLayAll0, PyData.canLayAll0, lay_tol cs, PyData.depth, PyData.depthAll, PyData.depthAll, PyData.depthAll]
  have := dep_tol cs
  rw [decide_eq_true (by omega)]
  rfl
theorem ty_neTol {H0 : Hp} {K : PySem.W.Frag} {ps : List (Option (SV NoM))} {ta tb : TE} {R R1 : SV NoM} {cs : List Rat} (ha : Ty H0 NoM ps ta R) (hR : ∀ H v, R.R H v → LO (TolC K) [cs, cs] Tr H v) (hb : Ty H0 NoM ps tb R1) (hR1 : ∀ H v, R1.R H v → LO (TolC K) [cs, cs] Tr H v) (hl : cs.length ≤ 9) : Ty H0 NoM ps (tOp (rNeD K) ta tb) (Iv NoM (.bl false)) := fun σ H g t Q k =>
  ha σ H g t _ fun v H2 e2 h2 => hb σ H2 (g.up e2) (t.up e2) _ fun y H3 e3 h3 => by
    obtain ⟨a, xs, rfl, _, hA, pA⟩ := hR _ _ (R.st (.ofEx e3) h2)
    obtain ⟨b, ys, rfl, _, hB, pB⟩ := hR1 _ _ h3
    refine ⟨_, _, .lst (SqL.of hA) (dpall_tol pA), .lst (SqL.of hB) (dpall_tol pB), shaped_tol2 hl, shaped_tol2 hl, ?_⟩
    rw [SeqAt.eqv_refl _ (SeqAt.canLay_of_shaped (shaped_tol2 hl))]
    exact k _ H3 (e2.trans e3) rfl
end My
end
section
set_option Elab.async false
set_option linter.all false
set_option maxRecDepth 100000
set_option maxHeartbeats 2000000
set_option exponentiation.threshold 100000
namespace My
open PySem PySem.Spec PyProof.Rows L2 Evl
open LamX (Tabs TabS ExtN TabB CodeO lamEnv lamCx lamS_by)
/-- what the law's walk asks of the mathematics -/
def LawMath : Prop := ∀ d : List Rat, PolyOk 46656 d → BagOk d ∧ ∀ n many, d.length = n + 1 → 1 ≤ many → many ≤ 4 →
  CsOk true d n many ∧ CsOk false d n many ∧ CpOk' true d n many ∧ CpOk' false d n many ∧ csR false d n many = csR true d n many ∧ cpR false d n many = cpR true d n many ∧ (many = 1 → csR true d n many = d ∧ cpR true d n many = d)
theorem tsl7 {M : Addr → Prop} {p0 p1 p2 p3 p4 p5 p6 : Option (SV M)} {H : Hp} : ∀ {σ : L2.St}, Tsl [p0, p1, p2, p3, p4, p5, p6] σ H → ∃ s0 s1 s2 s3 s4 s5 s6, σ = [s0, s1, s2, s3, s4, s5, s6]
  | [a, b, c, d, e, f, g], _ => ⟨a, b, c, d, e, f, g, rfl⟩
  | [], t => t.elim
  | [_], t => t.2.elim
  | [_, _], t => t.2.2.elim
  | [_, _, _], t => t.2.2.2.elim
  | [_, _, _, _], t => t.2.2.2.2.elim
  | [_, _, _, _, _], t => t.2.2.2.2.2.elim
  | [_, _, _, _, _, _], t => t.2.2.2.2.2.2.elim
  | _ :: _ :: _ :: _ :: _ :: _ :: _ :: _ :: _, t => t.2.2.2.2.2.2.2.elim
theorem tabs_set {T : List (Addr × Str)} {H : Hp} {F : Addr} {xs ys : List V} (hT : Tabs T H) (hF : H F = some (.lst xs)) : Tabs T (upd H F (.lst ys)) := fun p hp => by
  obtain ⟨ps, h1, h2, h3⟩ := hT p hp
  have n1 : p.1 ≠ F := fun z => by rw [z, hF] at h1; cases h1
  refine ⟨ps, by rw [upd_ne n1]; exact h1, h2, fun pos cv hc => ?_⟩
  obtain ⟨c, e1, e2⟩ := h3 pos cv hc
  have n2 : c ≠ F := fun z => by
    rw [z, hF] at e2
    unfold CodeO at e2
    cases e2
  exact ⟨c, e1, by rw [upd_ne n2]; exact e2⟩
/-- a bag of which something is known -/
def XB (K : PySem.W.Frag) (P : List Rat → Prop) : SV NoM := ⟨fun H v => ∃ cs, P cs ∧ (An NoM (BG K cs)).R H v, fun k ⟨q, p, h⟩ => ⟨q, p, (An NoM (BG K q)).st k h⟩⟩
section
variable {P : Program} {w : World} {K : PySem.W.Frag} {mg : Str → Option Value} {base : Heap}
theorem ty_lawbag (MM : LawMath) {B : Hp} {ps : List (Option (SV NoM))} (h1 : ps[1]? = some (some (An NoM RGP))) : Ty B NoM ps (tCall (spLbag K) [] E0 (tCons (tCall (spPolyX K) [] E0 (tCons (tVar 1) (tCons (tC (.int 4)) tNil))) tNil)) (XB K (PolyOk 46656)) := fun σ H g t Q q => by
  obtain ⟨vr, evr, rr⟩ := t.get h1
  exact ⟨vr, evr, vr, rfl, Mn.any (P := RGP) rr, fun d ok v H1 e1 w => ⟨d, v, rfl, Mn.any (P := LO (IQ K) d) w, (MM d ok).1, fun v' H2 e2 w' => q v' H2 (e1.trans e2) ⟨d, ok, Mn.mono (P := BG K d) (fun _ _ z => z) w'⟩⟩⟩
theorem ty_sameL {B : Hp} {ps : List (Option (SV NoM))} {l : List (List Rat)} (h5 : ps[5]? = some (some (An NoM (LO (TolC K) l)))) (h6 : ps[6]? = some (some (An NoM (LO (TolC K) l)))) (hc : ∀ c ∈ l, c.length ≤ 1000) (hl : l.length ≤ 1000) : Ty B NoM ps (tCall (spSame K 4) [] E0 (tCons (tVar 5) (tCons (tVar 6) tNil))) (Iv NoM (.bl true)) :=
  ty_call (ta_cons (ty_var h5) (ta_cons (ty_var h6) ta_nil)) fun H vs Q g p q => by
    cases p with
    | cons r1 t1 => cases t1 with
      | cons r2 t2 =>
        cases t2
        exact ⟨_, _, rfl, rel_found hc hl r1 r2, fun H' e => q _ H' e rfl⟩
theorem ty_tol00 {B : Hp} {ps : List (Option (SV NoM))} {c : List Rat} {l : List (List Rat)} (h5 : ps[5]? = some (some (An NoM (LO (TolC K) (c :: l))))) : Ty B NoM ps (tOp (rIx K) (tOp (rIx K) (tVar 5) (tC (.int 0))) (tC (.int 0))) (Iv NoM (.str "value")) := fun σ H g t Q q => by
  refine ty_ixLn (Pb := TolC K) (l := c :: l) (i := 0) c (An NoM (TolC K c)) (ty_var h5) (fun _ _ h => h) ty_c (by unfold atI ixN; simp) (fun _ _ h => h) σ H g t _ fun v H2 e2 r => ?_
  obtain ⟨a, b, rfl, ha, _⟩ := r
  exact .inr (.inl ⟨a, _, 0, .str "value", rfl, rfl, ha, rfl, q _ H2 e2 rfl⟩)
theorem law_run (T : Tx K mg) (B : Bx K mg) {fa c Pt a : Addr} (TB : TabB base mg c Pt) {A : Around} {outer : List Env} {s : Shared} {H : Hp} {E : XK} {Q : VK} (hr : Room 13 (A.deeper (envOfC "law" (defScope s_law) s.heap.objs.size fa (.ref c)))) (MM : LawMath) {ns : List Int} (hS : SqL K H a (ns.map V.int)) (hT : Tabs [(Pt, qLam)] H) (hQ : ∀ H', Q (.bl true) H') :
    ∃ t, PSs (cxOf CX0 P w K mg base ["_law_script", "_law_rng", "_law_turn", "_law_bag_here", "_law_wanted", "_law_found", "_law_due"] "law" (defScope s_law) fa (.ref c) A outer s H E).nox (defBody s_law) t ∧ t { nx := fun _ H' => Q .non H', rt := Q } (start ["_law_script", "_law_rng", "_law_turn", "_law_bag_here", "_law_wanted", "_law_found", "_law_due"] [.ref a]) H := by
  have h_law_draw := has_draw (P := P) (w := w) (base := base) T
  have h_law_draws := has_draws (P := P) (w := w) (base := base) T
  have h_law_poly := has_poly (P := P) (w := w) (base := base) T
  have h_law_bag := has_lbag (P := P) (w := w) (base := base) T B
  have h_law_same := has_same (P := P) (w := w) (base := base) T 4
  have h_bco := has_bco (P := P) (w := w) (base := base) T B
  refine ⟨_, (pss_cons (ps_set (i := 1) sc_law.nd rfl (Or.inl rfl) (pe_has h_law_draws (hr.mono (by decide)) (pa_cons (pv 0) pa_nil)))
      (pss_cons (ps_for PassesOwn.never rfl (pi_range1 (by rfl) T.b_range (pa_cons pe_int pa_nil)) (pg_name (i := 2) sc_law.nd rfl (Or.inl rfl)) (pss_cons (ps_asg (pe_tup (pa_cons (pe_has h_law_bag (hr.mono (by decide)) (pa_cons (pe_has h_law_poly (hr.mono (by decide)) (pa_cons (pv 1) (pa_cons pe_int pa_nil))) pa_nil)) (pa_cons (pe_op op_add pe_int (pe_has h_law_draw (hr.mono (by decide)) (pa_cons (pv 1) (pa_cons pe_int pa_nil)))) pa_nil))) (pg_tupK (K := K) (n := 2) rfl (pgs_cons (pg_name (i := 3) sc_law.nd rfl (Or.inr rfl)) (pgs_cons (pg_name (i := 4) sc_law.nd rfl (Or.inr rfl)) pgs_nil))))
      (pss_cons (ps_set (i := 5) sc_law.nd rfl (Or.inl rfl) (pe_lst (pa_cons (pe_told (X := (cxOf CX0 P w K mg base ["_law_script", "_law_rng", "_law_turn", "_law_bag_here", "_law_wanted", "_law_found", "_law_due"] "law" (defScope s_law) fa (.ref c) A outer s H E).nox) (k := 10) (tb := tbS K) (TB' := [(Pt, qLam)]) T B TB rfl (List.mem_singleton.mpr rfl) (fun p hp _ => (congrArg Prod.snd (List.mem_singleton.mp hp)).trans rfl) hr (lamS_by (sc := defScope s_law) (by decide +kernel)) (fun A outer s H E f c' hr => pe_choice_sums T B hr (pa_cons (pv 3) (pa_cons (pv 4) pa_nil)))) (pa_cons (pe_toldD (X := (cxOf CX0 P w K mg base ["_law_script", "_law_rng", "_law_turn", "_law_bag_here", "_law_wanted", "_law_found", "_law_due"] "law" (defScope s_law) fa (.ref c) A outer s H E).nox) (k := 10) (tb := tbP K) (TB' := [(Pt, qLam)]) (.int 0) "_law_w" T B TB rfl (List.mem_singleton.mpr rfl) (fun p hp _ => (congrArg Prod.snd (List.mem_singleton.mp hp)).trans rfl) hr (lamD_by (N := ["_law_script", "_law_rng", "_law_turn", "_law_bag_here", "_law_wanted", "_law_found", "_law_due"]) (sc := defScope s_law) (by decide +kernel)) rfl rfl pe_int rfl (fun q cl c' t u s dc pm ctv h => BindsTo.of_defaults rfl h rfl rfl rfl) (fun A outer s H E f c' hr => pe_choice_products T B hr (pa_cons (pv 3) (pa_cons (pv 4) pa_nil)))) pa_nil))))
      (pss_cons (ps_set (i := 6) sc_law.nd rfl (Or.inl rfl) (pe_lst (pa_cons (pe_told (X := (cxOf CX0 P w K mg base ["_law_script", "_law_rng", "_law_turn", "_law_bag_here", "_law_wanted", "_law_found", "_law_due"] "law" (defScope s_law) fa (.ref c) A outer s H E).nox) (k := 10) (tb := tbSM K) (TB' := [(Pt, qLam)]) T B TB rfl (List.mem_singleton.mpr rfl) (fun p hp _ => (congrArg Prod.snd (List.mem_singleton.mp hp)).trans rfl) hr (lamS_by (sc := defScope s_law) (by decide +kernel)) (fun A outer s H E f c' hr => pk_choice_sums T B hr (pa_cons (pv 3) (pa_cons (pv 4) pa_nil)) (pk_cons pe_str pk_nil))) pa_nil)))
      (pss_cons (ps_expr (pe_bm PySem.F.plainAttrs_list PySem.F.slot_list_append PySem.F.type_list_append mt_append (pv 6) (pa_cons (pe_told (X := (cxOf CX0 P w K mg base ["_law_script", "_law_rng", "_law_turn", "_law_bag_here", "_law_wanted", "_law_found", "_law_due"] "law" (defScope s_law) fa (.ref c) A outer s H E).nox) (k := 10) (tb := tbPM K) (TB' := [(Pt, qLam)]) T B TB rfl (List.mem_singleton.mpr rfl) (fun p hp _ => (congrArg Prod.snd (List.mem_singleton.mp hp)).trans rfl) hr (lamS_by (sc := defScope s_law) (by decide +kernel)) (fun A outer s H E f c' hr => pk_choice_products T B hr (pa_cons (pv 3) (pa_cons (pv 4) pa_nil)) (pk_cons pe_str pk_nil))) pa_nil)))
      (pss_cons (ps_if (PW.pt (pw_or (pt_not (pt_val (pe_has h_law_same (hr.mono (by decide)) (pa_cons (pv 5) (pa_cons (pv 6) pa_nil))))) (pw_or1 (pt_cmpR op_ne (pe_ix (ix_seqK (K := K)) (pe_ix (ix_seqK (K := K)) (pv 5) pe_int (fun _ _ => rfl)) pe_int (fun _ _ => rfl)) pe_str (nomark _))))) (pss_one (ps_ret pe_bl)) pss_nil)
      (pss_one (ps_if (PW.pt (pw_and (pt_cmpR op_eq (pv 4) pe_int (nomark _)) (pw_and1 (pt_cmpR (neDK (K := K) hr.units) (pv 5) (pe_op op_rep (pe_lst (pa_cons (pe_tup (pa_cons pe_str (pa_cons (pe_co (K := K) B h_bco (hr.mono (by decide)) (pv 3)) pa_nil))) pa_nil)) pe_int) (nomark _))))) (pss_one (ps_ret pe_bl)) pss_nil))))))))
      (pss_one (ps_ret pe_bl)))), ?_⟩
  have g : Good H NoM H := .start H
  have ts : Tsl [some (Iv NoM (.ref a)), none, none, none, none, none, none] (start ["_law_script", "_law_rng", "_law_turn", "_law_bag_here", "_law_wanted", "_law_found", "_law_due"] [.ref a]) H := wip_cons rfl (non_cons (non_cons (non_cons (non_cons (non_cons (non_cons nil_ts))))))
  refine st_set (Fr NoM H RGP) g ts (fun σ1 H1 g1 t1 Q1 q1 => ?_) fun σ2 H2 e2 g2 t2 => ?_
  · obtain ⟨v, ev, rv⟩ := t1.get (i := 0) (R := Iv NoM (.ref a)) rfl
    have rv : v = .ref a := rv
    subst rv
    exact ⟨_, ev, a, ns, rfl, sql_ex g1.ex0 hS, ret_fr g1 q1⟩
  refine st_forX1 3 g2 t2 (ta_cons ty_c ta_nil) rfl (by decide) (fun _ σ H => ∃ s0 vr s2 s3 s4 s5 s6, σ = [s0, some vr, s2, s3, s4, s5, s6] ∧ RGP Tr H vr ∧ Tabs [(Pt, qLam)] H) (fun H3 e3 => ?_) (fun i σ3 H3 hi h D' hD cont => ?_) fun σ3 H3 h => hQ H3
  · obtain ⟨s0, s1, s2, s3, s4, s5, s6, rfl⟩ := tsl7 t2
    obtain ⟨v, ev, rv⟩ := t2.get (i := 1) (R := Fr NoM H RGP) rfl
    have ev : s1 = some v := Option.some.inj ev
    exact ⟨s0, v, s2, s3, s4, s5, s6, by rw [ev], Mn.ex (P := RGP) e3 (Mn.any (P := RGP) rv), hT.ext ((g2.up e3).ex0)⟩
  clear hT g ts e2 g2 t2
  obtain ⟨s0, vr, s2, s3, s4, s5, s6, rfl, hRG, hT⟩ := h
  have g : Good H3 NoM H3 := .start H3
  have t : Tsl [none, some (An NoM RGP), none, none, none, none, none] [s0, some vr, some (.int (i : Int)), s3, s4, s5, s6] H3 := non_cons (wip_cons (Mn.mono (P := RGP) (fun _ _ z => z) hRG) (non_cons (non_cons (non_cons (non_cons (non_cons nil_ts))))))
  have tyw : Ty H3 NoM [none, some (An NoM RGP), none, none, none, none, none] (tOp (rI0 fun i j => V.int (i + j)) (tC (V.int 1)) (tCall spDraw [] E0 (tCons (tVar 1) (tCons (tC (V.int 4)) tNil)))) (XE fun j => 1 ≤ j ∧ j ≤ 4) := ty_i0X (P := fun j => j = 1) (P' := fun i => 0 ≤ i ∧ i < (4 : Nat)) (ty_cX rfl) (ty_draw (n := 4) (R := An NoM RGP) (ty_var rfl) (fun _ _ h => Mn.any (P := RGP) h) ty_c (by decide) (by decide)) fun a b ha hb => by omega
  refine ty_lawbag MM rfl _ H3 g t _ fun vb H4 e4 rb => tyw _ H4 (g.up e4) (t.up e4) _ fun vm H5 e5 rm => ⟨by show 2 ≤ sizeLine; decide, fun p hp => ⟨p, [vb, vm], rfl, SqT.of upd_same, rfl, vb, [vm], rfl, vm, [], rfl, rfl, ?_⟩⟩
  obtain ⟨cs, hok, hbg⟩ := rb
  obtain ⟨j, ⟨j1, j4⟩, rfl⟩ := rm
  obtain ⟨m, rfl⟩ : ∃ m : Nat, j = (m : Int) := ⟨j.toNat, by omega⟩
  have hm1 : 1 ≤ m := by omega
  have hm4 : m ≤ 4 := by omega
  obtain ⟨n, hn⟩ : ∃ n, cs.length = n + 1 := ⟨cs.length - 1, by have := hok.ne; omega⟩
  have hn9 : cs.length ≤ 9 := by have := hok.le; omega
  obtain ⟨okb, hmm⟩ := MM cs hok
  obtain ⟨c1, c2, p1, p2, q1, q2, q3⟩ := hmm n m hn hm1 hm4
  have eN := Ex.new (o := .tup [vb, .int (m : Int)]) hp
  have e6 := (e4.trans e5).trans eN
  have b6 : BG K cs Tr (upd H5 p (.tup [vb, .int (m : Int)])) vb := Mn.ex (P := BG K cs) (e5.trans eN) (Mn.any (P := BG K cs) hbg)
  have r6 := Mn.ex (P := RGP) e6 hRG
  have T6 := hT.ext e6
  clear eN e6 hbg
  revert b6 r6 T6
  generalize upd H5 p (.tup [vb, .int (m : Int)]) = H6
  intro b6 r6 T6
  change tSeq _ _ D' [s0, some vr, some (.int (i : Int)), some vb, some (.int (m : Int)), s5, s6] H6
  have sS : ∀ (σ : L2.St) H2 (Q2 : VK), σ[3]? = some (some vb) → σ[4]? = some (some (.int (m : Int))) → BG K cs Tr H2 vb → Ret (BG K (csR true cs n m)) H2 Q2 → tbS K σ H2 Q2 := fun σ H2 Q2 h3 h4 hb r => ⟨vb, h3, .int (m : Int), h4, true, cs, n, m, vb, rfl, hb, c1, r⟩
  have sP : ∀ (σ : L2.St) H2 (Q2 : VK), σ[3]? = some (some vb) → σ[4]? = some (some (.int (m : Int))) → BG K cs Tr H2 vb → Ret (BG K (cpR true cs n m)) H2 Q2 → tbP K σ H2 Q2 := fun σ H2 Q2 h3 h4 hb r => ⟨vb, h3, .int (m : Int), h4, true, cs, n, m, vb, rfl, hb, p1, r⟩
  have sSM : ∀ (σ : L2.St) H2 (Q2 : VK), σ[3]? = some (some vb) → σ[4]? = some (some (.int (m : Int))) → BG K cs Tr H2 vb → Ret (BG K (csR false cs n m)) H2 Q2 → tbSM K σ H2 Q2 := fun σ H2 Q2 h3 h4 hb r => ⟨vb, h3, .int (m : Int), h4, rfl, rfl, false, cs, n, m, vb, rfl, hb, c2, r⟩
  have sPM : ∀ (σ : L2.St) H2 (Q2 : VK), σ[3]? = some (some vb) → σ[4]? = some (some (.int (m : Int))) → BG K cs Tr H2 vb → Ret (BG K (cpR false cs n m)) H2 Q2 → tbPM K σ H2 Q2 := fun σ H2 Q2 h3 h4 hb r => ⟨vb, h3, .int (m : Int), h4, rfl, rfl, false, cs, n, m, vb, rfl, hb, p2, r⟩
  rw [q1] at sSM
  rw [q2] at sPM
  have lA := c1.r.le
  have lB := p1.r.le
  revert q3 sS sP sSM sPM lA lB
  generalize csR true cs n m = cA
  generalize cpR true cs n m = cB
  intro q3 sS sP sSM sPM lA lB
  refine told_step T6 cA (fun Ha Qa ea r => sS _ Ha Qa rfl rfl (Nt.n (P := BG K cs) ea b6) r) fun w1 H7 e7 T7 k1 => ?_
  refine told_step T7 cB (fun Ha Qa ea r => sP _ Ha Qa rfl rfl (Nt.n (P := BG K cs) (e7.trans ea) b6) r) fun w2 H8 e8 T8 k2 => ?_
  refine ⟨by show 2 ≤ sizeLine; decide, fun f hf => ?_⟩
  have eF := Ex.new (o := .lst [w1, w2]) hf
  have e9 := (e7.trans e8).trans (.of eF)
  have T9 := T8.ext eF
  have b9 := Nt.n (P := BG K cs) e9 b6
  have r9 := Nt.n (P := RGP) e9 r6
  have f9 : LO (TolC K) [cA, cB] Tr (upd H8 f (.lst [w1, w2])) (.ref f) := ⟨f, [w1, w2], rfl, trivial, upd_same, .cons (Mn.ex (P := TolC K cA) eF (Mn.any (P := TolC K cA) (Nt.n (P := TolC K cA) e8 k1))) (.cons (Mn.ex (P := TolC K cB) eF (Mn.any (P := TolC K cB) k2)) .nil)⟩
  clear e9 eF
  revert T9 b9 r9 f9
  generalize upd H8 f (.lst [w1, w2]) = H9
  intro T9 b9 r9 f9
  change tSeq _ _ D' [s0, some vr, some (.int (i : Int)), some vb, some (.int (m : Int)), some (.ref f), s6] H9
  refine told_step T9 cA (fun Ha Qa ea r => sSM _ Ha Qa rfl rfl (Nt.n (P := BG K cs) ea b9) r) fun w3 H10 e10 T10 k3 => ⟨by show 1 ≤ sizeLine; decide, fun F hF => ?_⟩
  change tSeq _ _ D' [s0, some vr, some (.int (i : Int)), some vb, some (.int (m : Int)), some (.ref f), some (.ref F)] _
  have eF := Ex.new (o := .lst [w3]) hF
  have hF1 : upd H10 F (.lst [w3]) F = some (.lst [w3]) := upd_same
  have T11 := T10.ext eF
  have away : ∀ {Pv : VP} [Mn Pv] {v : V}, Pv Tr H10 v → Pv (fun a => a ≠ F) (upd H10 F (.lst [w3])) v := fun {Pv} _ {v} h => Mn.ex (P := Pv) eF (Mn.mono (P := Pv) (fun a z q => z.2 (by rw [q]; exact hF)) (Mn.tr (P := Pv) h))
  have b11 := away (Pv := BG K cs) (Nt.n (P := BG K cs) e10 b9)
  have r11 := away (Pv := RGP) (Nt.n (P := RGP) e10 r9)
  have f11 := away (Pv := LO (TolC K) [cA, cB]) (Nt.n (P := LO (TolC K) [cA, cB]) e10 f9)
  have k11 := away (Pv := TolC K cA) (Mn.any (P := TolC K cA) k3)
  clear away eF
  revert T11 b11 r11 f11 k11 hF1
  generalize upd H10 F (.lst [w3]) = H11
  intro hF1 T11 b11 r11 f11 k11
  refine ⟨.ref F, rfl, .inl ⟨rfl, [w3], sq_of hF1⟩, ?_⟩
  refine told_step T11 cB (fun Ha Qa ea r => sPM _ Ha Qa rfl rfl (Nt.n (P := BG K cs) ea (Mn.any (P := BG K cs) b11)) r) fun w4 H12 e12 T12 k4 => ?_
  have hF2 : H12 F = some (.lst [w3]) := e12 F _ hF1 fun _ z => nomatch z
  refine ⟨F, [w3], w4, rfl, rfl, hF2, sz_lt (by show 1 < 100000; decide), ?_⟩
  have keep : ∀ {Pv : VP} [Mn Pv] {v : V}, Pv (fun a => a ≠ F) H12 v → Pv (fun a => a ≠ F) (upd H12 F (.lst ([w3] ++ [w4]))) v := fun {Pv} _ {v} h => Mn.up (P := Pv) (fun _ z => z) (upd_keep hF2 fun _ z => z) h
  have b13 := keep (Pv := BG K cs) (Nt.n (P := BG K cs) e12 b11)
  have r13 := keep (Pv := RGP) (Nt.n (P := RGP) e12 r11)
  have f13 := keep (Pv := LO (TolC K) [cA, cB]) (Nt.n (P := LO (TolC K) [cA, cB]) e12 f11)
  have k13 := keep (Pv := TolC K cA) (Nt.n (P := TolC K cA) e12 k11)
  have l13 := keep (Pv := TolC K cB) (Mn.mono (P := TolC K cB) (fun a z q => z [w3] (by rw [q]; exact hF1)) k4)
  have T13 := tabs_set (ys := [w3] ++ [w4]) T12 hF2
  have d13 : LO (TolC K) [cA, cB] Tr (upd H12 F (.lst ([w3] ++ [w4]))) (.ref F) := ⟨F, _, rfl, trivial, upd_same, .cons (Mn.any (P := TolC K cA) k13) (.cons (Mn.any (P := TolC K cB) l13) .nil)⟩
  clear keep k13 l13
  revert T13 b13 r13 f13 d13
  generalize upd H12 F (.lst ([w3] ++ [w4])) = H13
  intro b13 r13 f13 T13 d13
  have g13 : Good H13 NoM H13 := .start H13
  have tr : ∀ a : Addr, ¬ NoM a := fun _ z => z
  have t13 : Tsl [none, some (An NoM RGP), none, some (An NoM (BG K cs)), some (Iv NoM (.int (m : Int))), some (An NoM (LO (TolC K) [cA, cB])), some (An NoM (LO (TolC K) [cA, cB]))] [s0, some vr, some (.int (i : Int)), some vb, some (.int (m : Int)), some (.ref f), some (.ref F)] H13 := non_cons (wip_cons (Mn.mono (P := RGP) (fun _ _ z => z) r13) (non_cons (wip_cons (Mn.mono (P := BG K cs) (fun _ _ z => z) b13) (wip_cons rfl (wip_cons (Mn.mono (P := LO (TolC K) [cA, cB]) (fun _ _ z => z) f13) (wip_cons (Mn.mono (P := LO (TolC K) [cA, cB]) (fun _ _ z => z) d13) nil_ts))))))
  have hc : ∀ c ∈ [cA, cB], c.length ≤ 1000 := fun c hc => by
    rcases List.mem_cons.mp hc with rfl | hc
    · omega
    · rcases List.mem_cons.mp hc with rfl | hc
      · omega
      · cases hc
  refine st_when g13 t13 (tt_or (tt_not (tt_B (ty_sameL rfl rfl hc (by show 2 ≤ 1000; decide)))) fun _ => tt_test (ty_neI (ty_tol00 rfl) ty_c rfl)) (fun hb => ?_) fun _ H14 e14 g14 t14 => ?_
  · simp at hb
  refine st_if1 g14 t14 (tt_and (c := false) (tt_test (ty_eqI (ty_var rfl) ty_c rfl)) fun hb => ?_) (fun hb => ?_) fun _ H15 e15 g15 t15 => cont _ H15 ⟨s0, vr, _, _, _, _, _, rfl, ?_, ?_⟩
  · have hm : m = 1 := by
      have := of_decide_eq_true hb
      have := V.int.inj this
      omega
    obtain ⟨eA, eB⟩ := q3 hm
    subst eA
    rw [eB]
    refine tt_test (ty_neTol (R := An NoM (LO (TolC K) [cA, cA])) (ty_var rfl) (fun _ _ h => Mn.any (P := LO (TolC K) [cA, cA]) h) (ty_rep (Pb := TolC K) (c := cA) (n := 2) (m := 2) (ty_lst1 (R := Fr NoM H13 (TolC K cA)) ?_ fun _ _ h => h) ty_c rfl (by decide)) (fun _ _ h => Mn.any (P := LO (TolC K) [cA, cA]) h) hn9)
    refine ty_conv (ty_pairV (K := K) (ty_c (v := .str "value")) (ty_co (R := An NoM (BG K cA)) (ty_var rfl) fun _ _ h => Mn.any (P := BG K cA) h)) fun H' v h => ?_
    obtain ⟨x, y, z, rfl, hs, hx, hy⟩ := h
    have hx : y = .str "value" := hx
    subst hx
    exact ⟨x, z, rfl, hs, hy⟩
  · rw [Bool.and_false] at hb
    cases hb
  · exact Mn.ex (P := RGP) ((g14.up e15).ex0) (Mn.any (P := RGP) r13)
  · exact T13.ext ((g14.up e15).ex0)
end
end My
end
section
set_option Elab.async false
set_option linter.all false
set_option maxRecDepth 100000
set_option maxHeartbeats 4000000
namespace My
open PySem PySem.Spec PyProof.Rows L2 Evl
/-! the head: what is told of the module behind its top -/
def dG (x : Str) (st : Stmt) : He.DefD := ⟨(x, none), x, x, defArgs st, defBody st, defScope st, [], []⟩
def dR (x : Str) (st : Stmt) : He.DefD := ⟨(x, none), x, x, defArgs st, defBody st, defScope st, [], [("road", .str "sums")]⟩
def dM (m q : Str) (st : Stmt) : He.DefD := ⟨("Bag", some m), m, q, defArgs st, defBody st, defScope st, [], []⟩
def fnL0 : List He.DefD := [dG "common_divisor" s_common_divisor, dG "lowest" s_lowest, dG "number" s_number, dG "plus" s_plus, dG "negative" s_negative, dG "minus" s_minus, dG "times" s_times, dG "over" s_over, dG "sum_of" s_sum_of, dG "trimmed" s_trimmed, dG "polynomial" s_polynomial, dG "scaled" s_scaled, dG "monic" s_monic, dG "power_sums_of" s_power_sums_of, dG "elementary_of" s_elementary_of, dG "monic_from" s_monic_from, dG "binomials" s_binomials, dG "convolved" s_convolved, dG "add_choices" s_add_choices, dG "multiply_choices" s_multiply_choices]
def fnL1 : List He.DefD := [dG "power_of" s_power_of, dG "choices" s_choices, dG "common_denominator" s_common_denominator, dG "need_size" s_need_size, dG "need_digits" s_need_digits, dG "checked" s_checked, dG "companion" s_companion, dG "diagonal" s_diagonal, dG "matrix_sum" s_matrix_sum, dG "matrix_product" s_matrix_product, dG "characteristic" s_characteristic, dG "determinant" s_determinant, dG "subsets" s_subsets, dG "compound" s_compound, dG "place_in" s_place_in, dG "derivation" s_derivation, dG "choice_sums_by_matrices" s_choice_sums_by_matrices, dG "choice_products_by_matrices" s_choice_products_by_matrices, dG "need_road" s_need_road, dG "need_choices" s_need_choices]
def fnL2 : List He.DefD := [dG "_law_draws" s_law_draws, dG "_law_draw" s_law_draw, dG "_law_pick" s_law_pick, dG "_law_same" s_law_same, dG "_law_try" s_law_try, dG "_law_told" s_law_told, dG "_law_gcd" s_law_gcd, dG "_law_low" s_law_low, dG "_law_plus" s_law_plus, dG "_law_times" s_law_times, dG "_law_product" s_law_product, dG "_law_trim" s_law_trim, dG "_law_expand" s_law_expand, dG "_law_small_numbers" s_law_small_numbers, dG "_law_poly" s_law_poly, dG "_law_bag" s_law_bag, dG "law" s_law, dR "choice_sums" s_choice_sums, dR "choice_products" s_choice_products, dM "__init__" "Bag.__init__" s_Bag_init]
def fnL3 : List He.DefD := [dM "__len__" "Bag.__len__" s_Bag_len, dM "coefficients" "Bag.coefficients" s_Bag_coefficients]
def fnL : List He.DefD := fnL0 ++ (fnL1 ++ (fnL2 ++ (fnL3)))
def faL0 : List He.Fa := [.glo "common_divisor", .glo "lowest", .glo "number", .glo "plus", .glo "negative", .glo "minus", .glo "times", .glo "over", .glo "sum_of", .glo "trimmed", .glo "polynomial", .glo "scaled", .glo "monic", .glo "power_sums_of", .glo "elementary_of", .glo "monic_from", .glo "binomials", .glo "convolved", .glo "add_choices", .glo "multiply_choices"]
def faL1 : List He.Fa := [.glo "power_of", .glo "choices", .glo "common_denominator", .glo "need_size", .glo "need_digits", .glo "checked", .glo "companion", .glo "diagonal", .glo "matrix_sum", .glo "matrix_product", .glo "characteristic", .glo "determinant", .glo "subsets", .glo "compound", .glo "place_in", .glo "derivation", .glo "choice_sums_by_matrices", .glo "choice_products_by_matrices", .glo "need_road", .glo "need_choices"]
def faL2 : List He.Fa := [.glo "_law_draws", .glo "_law_draw", .glo "_law_pick", .glo "_law_same", .glo "_law_try", .glo "_law_told", .glo "_law_gcd", .glo "_law_low", .glo "_law_plus", .glo "_law_times", .glo "_law_product", .glo "_law_trim", .glo "_law_expand", .glo "_law_small_numbers", .glo "_law_poly", .glo "_law_bag", .glo "law", .glo "choice_sums", .glo "choice_products", .glo "Bag"]
def faL3 : List He.Fa := [.glo "ZERO", .glo "ONE", .glo "ROADS", .free "abs", .free "len", .free "max", .free "min", .free "list", .free "tuple", .free "isinstance", .free "any", .free "all", .free "range", .free "zip", .free "enumerate", .free "bool", .free "int", .free "str", .int "MAX_SIZE" 40, .int "WALL" (10 ^ 100)]
def faL4 : List He.Fa := [.cls "Bag", .noat "Bag" "poly", .meth "Bag" "__len__", .meth "Bag" "coefficients", .mkr "Bag"]
def faL : List He.Fa := faL0 ++ (faL1 ++ (faL2 ++ (faL3 ++ (faL4))))
def ofW (K : PySem.W.Frag) : He.FnW := match K.lookup (ofA K) with
  | some ⟨_, _, .func fd, _⟩ => some (fd.name, fd.qualname, fd.params, fd.body, fd.scope, fd.globals, fd.closure, fd.builtins)
  | _ => none
def ofOk (K : PySem.W.Frag) : Bool := PySem.W.keepIn K (.ref (ofA K)) && (match K.lookup (ofA K) with
  | some ⟨_, _, .func fd, _⟩ => PySem.W.codeIn K fd.code "Bag.of" && (He.dflB K fd.defaults [] && He.kwdB K fd.kwdefaults [])
  | _ => false)
def ofVal : He.FnW := some ("of", "Bag.of", defArgs s_Bag_of, .stmts (defBody s_Bag_of), defScope s_Bag_of, mainGlobals, [], builtinsNs)
theorem of_funD {K : PySem.W.Frag} (e : ofW K = ofVal) (c : ofOk K = true) : ∃ fd, FunD K "of" "Bag.of" (defArgs s_Bag_of) (defBody s_Bag_of) (defScope s_Bag_of) [] [] (ofA K) fd := by
  obtain ⟨kp, c2⟩ := He.ba c
  unfold ofW at e
  cases q : K.lookup (ofA K) with
  | none =>
    rw [q] at c2
    cases c2
  | some o =>
    obtain ⟨oc, od, dt, osl⟩ := o
    rw [q] at c2 e
    cases dt with
    | func fd =>
      obtain ⟨n1, n2, n3, n4, n5, n6, n7, n8, n9, n10, n11, n12, n13, n14, n15⟩ := fd
      have e2 : (some (n1, n2, n3, n4, n5, n6, n7, n15) : He.FnW) = some (("of" : Str), ("Bag.of" : Str), defArgs s_Bag_of, FuncBody.stmts (defBody s_Bag_of), defScope s_Bag_of, mainGlobals, ([] : List (Str × Addr)), builtinsNs) := e
      simp only [Option.some.injEq, Prod.mk.injEq] at e2
      obtain ⟨h1, h2, h3, h4, h5, h6, h7, h8⟩ := e2
      subst h1 h2 h3 h4 h5 h6 h7 h8
      have c3 : (PySem.W.codeIn K n13 "Bag.of" && (He.dflB K n8 [] && He.kwdB K n9 [])) = true := c2
      obtain ⟨k1, k2⟩ := He.ba c3
      obtain ⟨k3, k4⟩ := He.ba k2
      exact ⟨_, ⟨oc, od, n8, n9, n10, n11, n12, n13, n14, osl, rfl, q, k1, He.dflB_ok k3, He.kwdB_ok k4⟩, kp⟩
    | _ => cases c2
def getB (K : PySem.W.Frag) : Bool := match PySem.W.findCls K (.ref (bC K)) (.type "type") "of" with
  | some (.get g a o t) => decide (g = .builtin "classmethod.__get__") && (decide (a = .ref (bM K "of")) && (decide (o = .none) && decide (t = .ref (bC K))))
  | _ => false
theorem getB_ok {K : PySem.W.Frag} (h : getB K = true) : PySem.W.findCls K (.ref (bC K)) (.type "type") "of" = some (.get (.builtin "classmethod.__get__") (.ref (bM K "of")) .none (.ref (bC K))) := by
  unfold getB at h
  split at h
  · rename_i g a o t e
    obtain ⟨h1, h⟩ := He.ba h
    obtain ⟨h2, h⟩ := He.ba h
    obtain ⟨h3, h4⟩ := He.ba h
    rw [e, of_decide_eq_true h1, of_decide_eq_true h2, of_decide_eq_true h3, of_decide_eq_true h4]
  · cases h
def recB (K : PySem.W.Frag) : Bool := match PySem.W.recIn K (bM K "of") "classmethod" with
  | some (v :: _) => decide (v = .ref (ofA K))
  | _ => false
theorem recB_ok {K : PySem.W.Frag} (h : recB K = true) : ∃ rest, PySem.W.recIn K (bM K "of") "classmethod" = some (.ref (ofA K) :: rest) := by
  unfold recB at h
  split at h
  · rename_i v r e
    rw [e, of_decide_eq_true h]
    exact ⟨r, rfl⟩
  · cases h
def clsB (K : PySem.W.Frag) : Bool := PySem.W.readsIn K (bC K) (.type "type") && (decide (PySem.W.specialIn K (.ref (bC K)) "__getattribute__" = some (some (.builtin "type.__getattribute__"))) && (getB K && (recB K && PySem.W.fnIn K (ofA K))))
def tupsB (K : PySem.W.Frag) : Bool := He.tupB K "ZERO" [.int 0, .int 1] && (He.tupB K "ONE" [.int 1, .int 1] && He.tupB K "ROADS" [.str "sums", .str "matrices"])
def tfL : List He.Defn := [("law", none)]
def nsOf (K : PySem.W.Frag) (x : Str) : List Addr := match K.lookup (He.ga K x) with
  | some ⟨_, _, .cls cd, _⟩ => [cd.ns]
  | _ => []
def growN (g : Addr → Option Obj) : Nat → List Addr → List Addr
  | 0, as => as
  | n + 1, as => growN g n (He.growD g as)
def Kf (n : Nat) (g : Addr → Option Obj) : PySem.W.Frag := He.frT g (cStatics :: (He.asD g 2 ++ growN g n (nsOf (He.frG g (He.asD g 1)) "Bag")))
abbrev AlY : Type := He.AlD × He.FnW × Bool
def obsK (g : Addr → Option Obj) (K : PySem.W.Frag) : AlY := (He.obsD faL fnL K, ofW K, ofOk K && (clsB K && (tupsB K && He.tabsB g tfL K)))
def obsY (n : Nat) (g : Addr → Option Obj) : AlY := obsK g (Kf n g)
def valY : AlY := (He.valD fnL, ofVal, true)
structure SaysY (h : Heap) (K : PySem.W.Frag) : Prop where
  d : He.SaysD faL fnL K
  ow : ofW K = ofVal
  ok : ofOk K = true
  cl : clsB K = true
  tu : tupsB K = true
  hd : PySem.W.codeHdIn K (He.cT K ("law", none)).1 (He.cT K ("law", none)).2 = true
  out : K.lookup (He.cT K ("law", none)).2 = none
  empty : h.get? (He.cT K ("law", none)).2 = some { cls := .none, data := .fields #[] }
theorem saysY_of {n : Nat} {h : Heap} (e : obsY n h.get? = valY) : SaysY h (Kf n h.get?) := by
  have e1 : He.obsD faL fnL (Kf n h.get?) = He.valD fnL := congrArg (fun z : AlY => z.1) e
  have e2 : ofW (Kf n h.get?) = ofVal := congrArg (fun z : AlY => z.2.1) e
  have e3 : (ofOk (Kf n h.get?) && (clsB (Kf n h.get?) && (tupsB (Kf n h.get?) && He.tabsB h.get? tfL (Kf n h.get?)))) = true := congrArg (fun z : AlY => z.2.2) e
  obtain ⟨h1, h2⟩ := He.ba e3
  obtain ⟨h3, h4⟩ := He.ba h2
  obtain ⟨h5, h6⟩ := He.ba h4
  obtain ⟨h7, h8⟩ := He.ba (List.all_eq_true.mp h6 ("law", none) (List.mem_singleton.mpr rfl))
  cases q : h.get? (He.cT (Kf n h.get?) ("law", none)).2 with
  | none =>
    rw [q] at h8
    cases h8
  | some o =>
    rw [q] at h8
    exact ⟨e1, e2, h1, h3, h5, h7, He.frT_none q h8, by rw [q, He.emptyTab_eq h8]⟩
def hookY (n : Nat) : PySem.W.Hook where
  α := AlY
  obs := fun s => obsY n s.heap.get?
  val := fun _ => valY
  says := fun _ h => ∃ K : PySem.W.Frag, K.In h ∧ SaysY h K
  of := fun _ _ e => ⟨_, He.frT_in, saysY_of e⟩
  keeps := fun _ _ _ ⟨K, hK, c⟩ k => ⟨K, PySem.W.Frag.In.keeps hK k, ⟨c.d, c.ow, c.ok, c.cl, c.tu, c.hd, c.out, k _ _ c.empty⟩⟩
theorem obsY_eq {n : Nat} {g : Addr → Option Obj} {s : Shared} (h : ∀ a, g a = s.heap.get? a) : obsY n g = (hookY n).obs s := by
  have e : g = s.heap.get? := funext h
  rw [e] <;> rfl
theorem tx_of {K : PySem.W.Frag} {h : Heap} {mg : Str → Option Value} (X : K.In h) (G : h.Ns mainGlobals mg) (c : SaysY h K) : Tx K mg where
  d_common_divisor := ⟨c.d.def_ 0 (d := dG "common_divisor" s_common_divisor) rfl, He.glo_ok X G (c.d.fact 0 (f := .glo "common_divisor") rfl)⟩
  d_lowest := ⟨c.d.def_ 1 (d := dG "lowest" s_lowest) rfl, He.glo_ok X G (c.d.fact 1 (f := .glo "lowest") rfl)⟩
  d_number := ⟨c.d.def_ 2 (d := dG "number" s_number) rfl, He.glo_ok X G (c.d.fact 2 (f := .glo "number") rfl)⟩
  d_plus := ⟨c.d.def_ 3 (d := dG "plus" s_plus) rfl, He.glo_ok X G (c.d.fact 3 (f := .glo "plus") rfl)⟩
  d_negative := ⟨c.d.def_ 4 (d := dG "negative" s_negative) rfl, He.glo_ok X G (c.d.fact 4 (f := .glo "negative") rfl)⟩
  d_minus := ⟨c.d.def_ 5 (d := dG "minus" s_minus) rfl, He.glo_ok X G (c.d.fact 5 (f := .glo "minus") rfl)⟩
  d_times := ⟨c.d.def_ 6 (d := dG "times" s_times) rfl, He.glo_ok X G (c.d.fact 6 (f := .glo "times") rfl)⟩
  d_over := ⟨c.d.def_ 7 (d := dG "over" s_over) rfl, He.glo_ok X G (c.d.fact 7 (f := .glo "over") rfl)⟩
  d_sum_of := ⟨c.d.def_ 8 (d := dG "sum_of" s_sum_of) rfl, He.glo_ok X G (c.d.fact 8 (f := .glo "sum_of") rfl)⟩
  d_trimmed := ⟨c.d.def_ 9 (d := dG "trimmed" s_trimmed) rfl, He.glo_ok X G (c.d.fact 9 (f := .glo "trimmed") rfl)⟩
  d_polynomial := ⟨c.d.def_ 10 (d := dG "polynomial" s_polynomial) rfl, He.glo_ok X G (c.d.fact 10 (f := .glo "polynomial") rfl)⟩
  d_scaled := ⟨c.d.def_ 11 (d := dG "scaled" s_scaled) rfl, He.glo_ok X G (c.d.fact 11 (f := .glo "scaled") rfl)⟩
  d_monic := ⟨c.d.def_ 12 (d := dG "monic" s_monic) rfl, He.glo_ok X G (c.d.fact 12 (f := .glo "monic") rfl)⟩
  d_power_sums_of := ⟨c.d.def_ 13 (d := dG "power_sums_of" s_power_sums_of) rfl, He.glo_ok X G (c.d.fact 13 (f := .glo "power_sums_of") rfl)⟩
  d_elementary_of := ⟨c.d.def_ 14 (d := dG "elementary_of" s_elementary_of) rfl, He.glo_ok X G (c.d.fact 14 (f := .glo "elementary_of") rfl)⟩
  d_monic_from := ⟨c.d.def_ 15 (d := dG "monic_from" s_monic_from) rfl, He.glo_ok X G (c.d.fact 15 (f := .glo "monic_from") rfl)⟩
  d_binomials := ⟨c.d.def_ 16 (d := dG "binomials" s_binomials) rfl, He.glo_ok X G (c.d.fact 16 (f := .glo "binomials") rfl)⟩
  d_convolved := ⟨c.d.def_ 17 (d := dG "convolved" s_convolved) rfl, He.glo_ok X G (c.d.fact 17 (f := .glo "convolved") rfl)⟩
  d_add_choices := ⟨c.d.def_ 18 (d := dG "add_choices" s_add_choices) rfl, He.glo_ok X G (c.d.fact 18 (f := .glo "add_choices") rfl)⟩
  d_multiply_choices := ⟨c.d.def_ 19 (d := dG "multiply_choices" s_multiply_choices) rfl, He.glo_ok X G (c.d.fact 19 (f := .glo "multiply_choices") rfl)⟩
  d_power_of := ⟨c.d.def_ 20 (d := dG "power_of" s_power_of) rfl, He.glo_ok X G (c.d.fact 20 (f := .glo "power_of") rfl)⟩
  d_choices := ⟨c.d.def_ 21 (d := dG "choices" s_choices) rfl, He.glo_ok X G (c.d.fact 21 (f := .glo "choices") rfl)⟩
  d_common_denominator := ⟨c.d.def_ 22 (d := dG "common_denominator" s_common_denominator) rfl, He.glo_ok X G (c.d.fact 22 (f := .glo "common_denominator") rfl)⟩
  d_need_size := ⟨c.d.def_ 23 (d := dG "need_size" s_need_size) rfl, He.glo_ok X G (c.d.fact 23 (f := .glo "need_size") rfl)⟩
  d_need_digits := ⟨c.d.def_ 24 (d := dG "need_digits" s_need_digits) rfl, He.glo_ok X G (c.d.fact 24 (f := .glo "need_digits") rfl)⟩
  d_checked := ⟨c.d.def_ 25 (d := dG "checked" s_checked) rfl, He.glo_ok X G (c.d.fact 25 (f := .glo "checked") rfl)⟩
  d_companion := ⟨c.d.def_ 26 (d := dG "companion" s_companion) rfl, He.glo_ok X G (c.d.fact 26 (f := .glo "companion") rfl)⟩
  d_diagonal := ⟨c.d.def_ 27 (d := dG "diagonal" s_diagonal) rfl, He.glo_ok X G (c.d.fact 27 (f := .glo "diagonal") rfl)⟩
  d_matrix_sum := ⟨c.d.def_ 28 (d := dG "matrix_sum" s_matrix_sum) rfl, He.glo_ok X G (c.d.fact 28 (f := .glo "matrix_sum") rfl)⟩
  d_matrix_product := ⟨c.d.def_ 29 (d := dG "matrix_product" s_matrix_product) rfl, He.glo_ok X G (c.d.fact 29 (f := .glo "matrix_product") rfl)⟩
  d_characteristic := ⟨c.d.def_ 30 (d := dG "characteristic" s_characteristic) rfl, He.glo_ok X G (c.d.fact 30 (f := .glo "characteristic") rfl)⟩
  d_determinant := ⟨c.d.def_ 31 (d := dG "determinant" s_determinant) rfl, He.glo_ok X G (c.d.fact 31 (f := .glo "determinant") rfl)⟩
  d_subsets := ⟨c.d.def_ 32 (d := dG "subsets" s_subsets) rfl, He.glo_ok X G (c.d.fact 32 (f := .glo "subsets") rfl)⟩
  d_compound := ⟨c.d.def_ 33 (d := dG "compound" s_compound) rfl, He.glo_ok X G (c.d.fact 33 (f := .glo "compound") rfl)⟩
  d_place_in := ⟨c.d.def_ 34 (d := dG "place_in" s_place_in) rfl, He.glo_ok X G (c.d.fact 34 (f := .glo "place_in") rfl)⟩
  d_derivation := ⟨c.d.def_ 35 (d := dG "derivation" s_derivation) rfl, He.glo_ok X G (c.d.fact 35 (f := .glo "derivation") rfl)⟩
  d_choice_sums_by_matrices := ⟨c.d.def_ 36 (d := dG "choice_sums_by_matrices" s_choice_sums_by_matrices) rfl, He.glo_ok X G (c.d.fact 36 (f := .glo "choice_sums_by_matrices") rfl)⟩
  d_choice_products_by_matrices := ⟨c.d.def_ 37 (d := dG "choice_products_by_matrices" s_choice_products_by_matrices) rfl, He.glo_ok X G (c.d.fact 37 (f := .glo "choice_products_by_matrices") rfl)⟩
  d_need_road := ⟨c.d.def_ 38 (d := dG "need_road" s_need_road) rfl, He.glo_ok X G (c.d.fact 38 (f := .glo "need_road") rfl)⟩
  d_need_choices := ⟨c.d.def_ 39 (d := dG "need_choices" s_need_choices) rfl, He.glo_ok X G (c.d.fact 39 (f := .glo "need_choices") rfl)⟩
  d_law_draws := ⟨c.d.def_ 40 (d := dG "_law_draws" s_law_draws) rfl, He.glo_ok X G (c.d.fact 40 (f := .glo "_law_draws") rfl)⟩
  d_law_draw := ⟨c.d.def_ 41 (d := dG "_law_draw" s_law_draw) rfl, He.glo_ok X G (c.d.fact 41 (f := .glo "_law_draw") rfl)⟩
  d_law_pick := ⟨c.d.def_ 42 (d := dG "_law_pick" s_law_pick) rfl, He.glo_ok X G (c.d.fact 42 (f := .glo "_law_pick") rfl)⟩
  d_law_same := ⟨c.d.def_ 43 (d := dG "_law_same" s_law_same) rfl, He.glo_ok X G (c.d.fact 43 (f := .glo "_law_same") rfl)⟩
  d_law_try := ⟨c.d.def_ 44 (d := dG "_law_try" s_law_try) rfl, He.glo_ok X G (c.d.fact 44 (f := .glo "_law_try") rfl)⟩
  d_law_told := ⟨c.d.def_ 45 (d := dG "_law_told" s_law_told) rfl, He.glo_ok X G (c.d.fact 45 (f := .glo "_law_told") rfl)⟩
  d_law_gcd := ⟨c.d.def_ 46 (d := dG "_law_gcd" s_law_gcd) rfl, He.glo_ok X G (c.d.fact 46 (f := .glo "_law_gcd") rfl)⟩
  d_law_low := ⟨c.d.def_ 47 (d := dG "_law_low" s_law_low) rfl, He.glo_ok X G (c.d.fact 47 (f := .glo "_law_low") rfl)⟩
  d_law_plus := ⟨c.d.def_ 48 (d := dG "_law_plus" s_law_plus) rfl, He.glo_ok X G (c.d.fact 48 (f := .glo "_law_plus") rfl)⟩
  d_law_times := ⟨c.d.def_ 49 (d := dG "_law_times" s_law_times) rfl, He.glo_ok X G (c.d.fact 49 (f := .glo "_law_times") rfl)⟩
  d_law_product := ⟨c.d.def_ 50 (d := dG "_law_product" s_law_product) rfl, He.glo_ok X G (c.d.fact 50 (f := .glo "_law_product") rfl)⟩
  d_law_trim := ⟨c.d.def_ 51 (d := dG "_law_trim" s_law_trim) rfl, He.glo_ok X G (c.d.fact 51 (f := .glo "_law_trim") rfl)⟩
  d_law_expand := ⟨c.d.def_ 52 (d := dG "_law_expand" s_law_expand) rfl, He.glo_ok X G (c.d.fact 52 (f := .glo "_law_expand") rfl)⟩
  d_law_small_numbers := ⟨c.d.def_ 53 (d := dG "_law_small_numbers" s_law_small_numbers) rfl, He.glo_ok X G (c.d.fact 53 (f := .glo "_law_small_numbers") rfl)⟩
  d_law_poly := ⟨c.d.def_ 54 (d := dG "_law_poly" s_law_poly) rfl, He.glo_ok X G (c.d.fact 54 (f := .glo "_law_poly") rfl)⟩
  d_law_bag := ⟨c.d.def_ 55 (d := dG "_law_bag" s_law_bag) rfl, He.glo_ok X G (c.d.fact 55 (f := .glo "_law_bag") rfl)⟩
  d_law := ⟨c.d.def_ 56 (d := dG "law" s_law) rfl, He.glo_ok X G (c.d.fact 56 (f := .glo "law") rfl)⟩
  b_abs := He.free_ok X G (c.d.fact 63 (f := .free "abs") rfl)
  b_len := He.free_ok X G (c.d.fact 64 (f := .free "len") rfl)
  b_max := He.free_ok X G (c.d.fact 65 (f := .free "max") rfl)
  b_min := He.free_ok X G (c.d.fact 66 (f := .free "min") rfl)
  b_list := He.free_ok X G (c.d.fact 67 (f := .free "list") rfl)
  b_tuple := He.free_ok X G (c.d.fact 68 (f := .free "tuple") rfl)
  b_isinstance := He.free_ok X G (c.d.fact 69 (f := .free "isinstance") rfl)
  b_any := He.free_ok X G (c.d.fact 70 (f := .free "any") rfl)
  b_all := He.free_ok X G (c.d.fact 71 (f := .free "all") rfl)
  b_range := He.free_ok X G (c.d.fact 72 (f := .free "range") rfl)
  b_zip := He.free_ok X G (c.d.fact 73 (f := .free "zip") rfl)
  b_enumerate := He.free_ok X G (c.d.fact 74 (f := .free "enumerate") rfl)
  b_bool := He.free_ok X G (c.d.fact 75 (f := .free "bool") rfl)
  b_int := He.free_ok X G (c.d.fact 76 (f := .free "int") rfl)
  b_str := He.free_ok X G (c.d.fact 77 (f := .free "str") rfl)
  g_ZERO := ⟨_, He.glo_ok X G (c.d.fact 60 (f := .glo "ZERO") rfl), rfl⟩
  q_ZERO := He.tupB_ok (He.ba c.tu).1
  g_ONE := ⟨_, He.glo_ok X G (c.d.fact 61 (f := .glo "ONE") rfl), rfl⟩
  q_ONE := He.tupB_ok (He.ba (He.ba c.tu).2).1
  g_ROADS := ⟨_, He.glo_ok X G (c.d.fact 62 (f := .glo "ROADS") rfl), rfl⟩
  q_ROADS := He.tupB_ok (He.ba (He.ba c.tu).2).2
  g_MAX_SIZE := by
    obtain ⟨t, e⟩ := He.int_ok X G (c.d.fact 78 (f := .int "MAX_SIZE" 40) rfl)
    exact ⟨_, e, t, rfl⟩
  g_WALL := by
    obtain ⟨t, e⟩ := He.int_ok X G (c.d.fact 79 (f := .int "WALL" (10 ^ 100)) rfl)
    exact ⟨_, e, t, rfl⟩
  k_sums := c.d.def_ 57 (d := dR "choice_sums" s_choice_sums) rfl
  n_sums := He.glo_ok X G (c.d.fact 57 (f := .glo "choice_sums") rfl)
  k_products := c.d.def_ 58 (d := dR "choice_products" s_choice_products) rfl
  n_products := He.glo_ok X G (c.d.fact 58 (f := .glo "choice_products") rfl)
theorem bx_of {K : PySem.W.Frag} {h : Heap} {mg : Str → Option Value} (X : K.In h) (G : h.Ns mainGlobals mg) (c : SaysY h K) : Bx K mg where
  gl := He.glo_ok X G (c.d.fact 59 (f := .glo "Bag") rfl)
  cls := He.cls_ok (x := "Bag") (c.d.fact 80 (f := .cls "Bag") rfl)
  noat := He.noat_ok (x := "Bag") (c.d.fact 81 (f := .noat "Bag" "poly") rfl)
  mkr := He.mkr_ok (x := "Bag") (c.d.fact 84 (f := .mkr "Bag") rfl)
  f_init := c.d.def_ 59 (d := dM "__init__" "Bag.__init__" s_Bag_init) rfl
  m_len := He.meth_ok (x := "Bag") (c.d.fact 82 (f := .meth "Bag" "__len__") rfl)
  f_len := c.d.def_ 60 (d := dM "__len__" "Bag.__len__" s_Bag_len) rfl
  m_co := He.meth_ok (x := "Bag") (c.d.fact 83 (f := .meth "Bag" "coefficients") rfl)
  f_co := c.d.def_ 61 (d := dM "coefficients" "Bag.coefficients" s_Bag_coefficients) rfl
  r_of := ⟨(He.ba c.cl).1, of_decide_eq_true (He.ba (He.ba c.cl).2).1⟩
  c_of := ⟨getB_ok (He.ba (He.ba (He.ba c.cl).2).2).1, recB_ok (He.ba (He.ba (He.ba (He.ba c.cl).2).2).2).1, (He.ba (He.ba (He.ba (He.ba c.cl).2).2).2).2⟩
  f_of := of_funD c.ow c.ok
end My
end
section
set_option Elab.async false
set_option linter.all false
set_option maxRecDepth 100000
set_option maxHeartbeats 0
namespace Hd
open PySem PySem.W PySem.Calls PyProof.Rows
abbrev R : OpenRow := OpenLaw.row PySem.Challenge.rw_rootbags_k21_whole_methods_agree_on_choi
abbrev qv : Program := view R.prog [90]
def looseP0 : List PySem.Str := ["_wall", "BagError", "Missing", "InvalidNumber", "InvalidPolynomial", "SizeExceeded", "DigitsExceeded", "InvalidChoice", "InvalidRoad", "ZERO", "ONE", "common_divisor", "lowest", "number", "plus", "negative", "minus", "times", "over", "sum_of", "trimmed", "polynomial", "value_in", "scaled", "multiplied", "long_division", "monic", "common_part", "power_sums_of", "elementary_of"]
def looseP1 : List PySem.Str := ["monic_from", "binomials", "convolved", "add_pairs", "multiply_pairs", "add_choices", "multiply_choices", "power_of", "choices", "MAX_SIZE", "MAX_DIGITS", "WALL", "common_denominator", "opposite_each", "need_size", "need_digits", "checked", "Bag", "companion", "diagonal", "matrix_sum", "matrix_product", "characteristic", "determinant", "subsets", "compound", "place_in", "derivation", "choice_sums_by_matrices", "choice_products_by_matrices"]
def looseP2 : List PySem.Str := ["ROADS", "need_road", "need_choices", "choice_sums", "choice_products", "_law_draws", "_law_draw", "_law_pick", "_law_same", "_law_field", "_law_try", "_law_told", "_law_gcd", "_law_low", "_law_plus", "_law_times", "_law_product", "_law_trim", "_law_expand", "_law_small_numbers", "_law_poly", "_law_bag"]
def loose : List PySem.Str := looseP0 ++ (looseP1 ++ (looseP2))

abbrev hk : PySem.W.Hook := My.hookY 3
def ob (s : PySem.W.SharedT) : My.AlY := My.obsY 3 (HandSHeadRun.getT s)
theorem ob_eq (s : PySem.W.SharedT) : ob s = hk.obs s.abs := My.obsY_eq (HandSHeadRun.getT_eq s)
theorem run (w : World) : HandSHeadRun.RunEq R qv hk ob 6000 loose w := by
  intro os
  kernel_rfl
end Hd
end
section
set_option Elab.async false
set_option linter.all false
set_option maxRecDepth 100000
set_option maxHeartbeats 4000000
namespace My
open PySem PySem.Spec PyProof.Rows L2 Evl
open LamX (Tabs TabS TabB)
abbrev spLaw (K : PySem.W.Frag) (Pt : Addr) : Sp := fun vs H Q _ => ∃ (a : Addr) (ns : List Int), vs = [.ref a] ∧ SqL K H a (ns.map V.int) ∧ Tabs [(Pt, qLam)] H ∧ ∀ H', Q (.bl true) H'
theorem law_at (MM : LawMath) {l : PySem.W.OpenLaw} {w : World} {K : PySem.W.Frag} {h : Heap} {mg : Str → Option Value} {fa : Addr} (X : K.In h) (G : h.Ns mainGlobals mg) (c : SaysY h K) (hmg : mg ("law" : Str) = some (.ref fa)) (n : Nat) : LamX.LawAtS l w K (CX0) 14 n "_law_script" mg fa h := by
  have T := tx_of X G c
  have B := bx_of X G c
  obtain ⟨fd, F⟩ := T.d_law.fn
  have e := hmg.symm.trans T.d_law.gl
  cases e
  have hbA := FunD.bindsA (ps := ["_law_script"]) F (fun _ _ _ _ _ _ us hl => match us, hl with | [_], _ => rfl)
  obtain ⟨oc, od, dV, kV, doc, pm, an, cdv, ct, osl, rfl, lk, hcd, hD, hK⟩ := F.ex
  obtain ⟨cc, rfl⟩ := He.codeIn_ref hcd
  have ec : He.codeOf K ("law", none) = cc := He.codeOf_eq (p := ("law", none)) lk rfl
  refine ⟨_, [He.cT K ("law", none)], spLaw K (He.cT K ("law", none)).2, fun p hp => ?_, fun p hp => ?_, fun p hp => ?_, fun s v => hbA s [v] rfl, fun H a ns _ _ hT hS => ⟨a, ns, rfl, hS, fun p hp => ?_, fun _ => rfl⟩, fun base KB GB TBs => ?_⟩
  · rw [List.mem_singleton.mp hp]; exact c.empty
  · rw [List.mem_singleton.mp hp]; exact c.out
  · rw [List.mem_singleton.mp hp]; exact PySem.W.codeHd_of_K X c.hd
  · rw [List.mem_singleton.mp hp]; exact TabS.nil (hT _ (List.mem_singleton.mpr rfl))
  · have TB : TabB base mg cc (He.cT K ("law", none)).2 := by
      have := TBs _ (List.mem_singleton.mpr rfl)
      have e2 : (He.cT K ("law", none)).1 = cc := ec
      rw [e2] at this
      exact this
    refine fn_of lk hcd sc_law (fun vs H Q E h => by obtain ⟨_, _, rfl, _⟩ := h; rfl) fun A outer s H vs Q E hr hsp => ?_
    obtain ⟨a, ns, rfl, hS, hT, hQ⟩ := hsp
    obtain ⟨t, p, q⟩ := law_run (E := E) (Q := Q) T B TB hr MM hS hT hQ
    exact ⟨t, p.nox, q⟩
end My
end
section
set_option Elab.async false
set_option linter.all false
set_option maxRecDepth 100000
set_option maxHeartbeats 0
namespace My
open PySem PySem.W PySem.Calls PyProof.Rows
theorem holds_of (MM : LawMath) : PySem.Challenge.rw_rootbags_k21_whole_methods_agree_on_choi.Holds := by
  w_on; o_law
  refine HandSHeadRun.head_any (r := OpenLaw.row PySem.Challenge.rw_rootbags_k21_whole_methods_agree_on_choi) (q := Hd.qv) (H := Hd.hk) (ob := Hd.ob) (M := 6000) (loose := Hd.loose) (d := HandSHeadRun.topDef (OpenLaw.row PySem.Challenge.rw_rootbags_k21_whole_methods_agree_on_choi).prog 90) (kwd := []) Hd.ob_eq
    (by kernel_rfl) (fun s => by kernel_rfl) Hd.run (by kernel_rfl) (by kernel_rfl) (by kernel_rfl) (by rfl) (by first | assumption | decide +kernel) (by decide +kernel) ⟨rfl, rfl, rfl, rfl, rfl, by decide +kernel⟩ ?hw ?hc
  case hw => w_witness2
  case hc =>
    refine LamX.walk_ofTsE (l := PySem.Challenge.rw_rootbags_k21_whole_methods_agree_on_choi) (n := 63) (k := 14) (x := "_law_script") (CX := fun _ => L2.CX0) rfl (by decide) (by kernel_rfl) ⟨rfl, by decide, by decide⟩ ?F (fun _ _ _ _ _ z => z)
    intro w mg fa h Y G hmg0
    obtain ⟨K, KX, c⟩ := Y
    have hmg : mg ("law" : PySem.Str) = some (.ref fa) := by
      have e : (HandSHeadRun.topDef (OpenLaw.row PySem.Challenge.rw_rootbags_k21_whole_methods_agree_on_choi).prog 90).name = ("law" : PySem.Str) := by kernel_rfl
      rw [← e]
      exact hmg0
    exact ⟨K, KX, law_at MM KX G c hmg 63⟩
end My
end
section
set_option Elab.async false
set_option linter.all false
set_option maxRecDepth 100000
set_option maxHeartbeats 2000000
namespace Ma
/-! polynomials in four letters, and what they are worth -/
structure Mon where
  a : Nat
  b : Nat
  c : Nat
  d : Nat
deriving DecidableEq
def Mon.code (m : Mon) : Nat := ((m.a * 64 + m.b) * 64 + m.c) * 64 + m.d
def Mon.mul (m n : Mon) : Mon := ⟨m.a + n.a, m.b + n.b, m.c + n.c, m.d + n.d⟩
structure Sym where
  l : List (Mon × Rat)
deriving DecidableEq
def mg : Nat → List (Mon × Rat) → List (Mon × Rat) → List (Mon × Rat)
  | 0, p, q => p ++ q
  | _ + 1, [], q => q
  | _ + 1, p, [] => p
  | n + 1, t :: p, u :: q => if t.1 = u.1 then (if t.2 + u.2 = 0 then mg n p q else (t.1, t.2 + u.2) :: mg n p q) else if t.1.code < u.1.code then t :: mg n p (u :: q) else u :: mg n (t :: p) q
def addL (p q : List (Mon × Rat)) : List (Mon × Rat) := mg (p.length + q.length) p q
def scL (m : Mon) (r : Rat) (p : List (Mon × Rat)) : List (Mon × Rat) := p.map fun t => (m.mul t.1, r * t.2)
def mulL (p q : List (Mon × Rat)) : List (Mon × Rat) := p.foldr (fun t acc => addL (scL t.1 t.2 q) acc) []
def conL (r : Rat) : List (Mon × Rat) := if r = 0 then [] else [(⟨0, 0, 0, 0⟩, r)]
instance : Zero Sym := ⟨⟨[]⟩⟩
instance : One Sym := ⟨⟨conL 1⟩⟩
instance : Add Sym := ⟨fun p q => ⟨addL p.l q.l⟩⟩
instance : Mul Sym := ⟨fun p q => ⟨mulL p.l q.l⟩⟩
instance : Neg Sym := ⟨fun p => ⟨p.l.map fun t => (t.1, -t.2)⟩⟩
instance : DivN Sym := ⟨fun p k => ⟨p.l.map fun t => (t.1, t.2 / ((k : Nat) : Rat))⟩⟩
instance : IntCast Sym := ⟨fun k => ⟨conL (k : Rat)⟩⟩
/-- the letters' values -/
structure En where
  x : Rat
  y : Rat
  z : Rat
  w : Rat
section
variable (ρ : En)
def evM (m : Mon) : Rat := ρ.x ^ m.a * ρ.y ^ m.b * (ρ.z ^ m.c * ρ.w ^ m.d)
def evL : List (Mon × Rat) → Rat
  | [] => 0
  | t :: p => t.2 * evM ρ t.1 + evL p
def ev (p : Sym) : Rat := evL ρ p.l
theorem evM_mul (m n : Mon) : evM ρ (m.mul n) = evM ρ m * evM ρ n := by
  unfold evM Mon.mul
  simp only [Lean.Grind.Semiring.pow_add]
  grind
theorem evL_app : ∀ p q, evL ρ (p ++ q) = evL ρ p + evL ρ q
  | [], q => by show _ = 0 + _; rw [Rat.zero_add]; rfl
  | t :: p, q => by
    show t.2 * evM ρ t.1 + evL ρ (p ++ q) = t.2 * evM ρ t.1 + evL ρ p + evL ρ q
    rw [evL_app p q, Rat.add_assoc]
theorem evL_mg : ∀ n p q, evL ρ (mg n p q) = evL ρ p + evL ρ q
  | 0, p, q => evL_app ρ p q
  | _ + 1, [], q => by show evL ρ (mg _ [] q) = 0 + _; rw [Rat.zero_add, mg]
  | _ + 1, t :: p, [] => by show evL ρ (mg _ (t :: p) []) = _ + 0; rw [Rat.add_zero, mg]; exact fun z => nomatch z
  | n + 1, t :: p, u :: q => by
    unfold mg
    have h1 := evL_mg n p q
    have h2 := evL_mg n p (u :: q)
    have h3 := evL_mg n (t :: p) q
    simp only [evL] at h1 h2 h3 ⊢
    split
    · rename_i e
      split
      · rename_i z
        rw [h1, e]
        grind
      · simp only [evL]
        rw [h1, e]
        grind
    · split
      · simp only [evL]; rw [h2]; grind
      · simp only [evL]; rw [h3]; grind
theorem evL_sc (m : Mon) (r : Rat) : ∀ p, evL ρ (scL m r p) = r * evM ρ m * evL ρ p
  | [] => by show (0 : Rat) = _ * 0; rw [Rat.mul_zero]
  | t :: p => by
    show r * t.2 * evM ρ (m.mul t.1) + evL ρ (scL m r p) = r * evM ρ m * (t.2 * evM ρ t.1 + evL ρ p)
    rw [evL_sc m r p, evM_mul]
    grind
theorem evL_mul : ∀ p q, evL ρ (mulL p q) = evL ρ p * evL ρ q
  | [], q => by show (0 : Rat) = 0 * _; rw [Rat.zero_mul]
  | t :: p, q => by
    show evL ρ (addL (scL t.1 t.2 q) (mulL p q)) = (t.2 * evM ρ t.1 + evL ρ p) * evL ρ q
    unfold addL
    rw [evL_mg, evL_sc, evL_mul p q, Rat.add_mul]
theorem evL_con (r : Rat) : evL ρ (conL r) = r := by
  unfold conL
  split
  · rename_i h; rw [h]; rfl
  · show r * (ρ.x ^ 0 * ρ.y ^ 0 * (ρ.z ^ 0 * ρ.w ^ 0)) + 0 = r
    simp only [Rat.pow_zero]
    grind
theorem ev_zero : ev ρ 0 = 0 := rfl
theorem ev_one : ev ρ 1 = 1 := evL_con ρ 1
theorem ev_add (p q : Sym) : ev ρ (p + q) = ev ρ p + ev ρ q := evL_mg ρ _ _ _
theorem ev_mul (p q : Sym) : ev ρ (p * q) = ev ρ p * ev ρ q := evL_mul ρ _ _
theorem ev_neg (p : Sym) : ev ρ (-p) = -(ev ρ p) := by
  have h : ∀ l, evL ρ (l.map fun t : Mon × Rat => (t.1, -t.2)) = -(evL ρ l) := fun l => by
    induction l with
    | nil => show (0 : Rat) = -0; grind
    | cons t p ih =>
      show -t.2 * evM ρ t.1 + evL ρ (p.map _) = -(t.2 * evM ρ t.1 + evL ρ p)
      rw [ih]; grind
  exact h p.l
theorem ev_div (p : Sym) (k : Nat) : ev ρ (DivN.divN p k) = DivN.divN (ev ρ p) k := by
  have h : ∀ l, evL ρ (l.map fun t : Mon × Rat => (t.1, t.2 / ((k : Nat) : Rat))) = evL ρ l / ((k : Nat) : Rat) := fun l => by
    induction l with
    | nil => show (0 : Rat) = 0 / _; rw [Rat.div_def, Rat.zero_mul]
    | cons t p ih =>
      show t.2 / ((k : Nat) : Rat) * evM ρ t.1 + evL ρ (p.map _) = (t.2 * evM ρ t.1 + evL ρ p) / ((k : Nat) : Rat)
      rw [ih, Rat.div_def, Rat.div_def, Rat.div_def]; grind
  exact h p.l
theorem ev_int (k : Int) : ev ρ ((k : Int) : Sym) = (k : Rat) := evL_con ρ _
end
end Ma
end
section
set_option Elab.async false
set_option linter.all false
set_option maxRecDepth 100000
set_option maxHeartbeats 2000000
namespace Ma
def vX : Sym := ⟨[(⟨1, 0, 0, 0⟩, 1)]⟩
def vY : Sym := ⟨[(⟨0, 1, 0, 0⟩, 1)]⟩
def vZ : Sym := ⟨[(⟨0, 0, 1, 0⟩, 1)]⟩
def vW : Sym := ⟨[(⟨0, 0, 0, 1⟩, 1)]⟩
/-- a monic polynomial of degree n of letters -/
def pS (n : Nat) : List Sym := ([vX, vY, vZ, vW].take n) ++ [1]
def iszS (p : Sym) : Bool := p.l.isEmpty
def pairs : List (Nat × Nat) := [(1, 1), (2, 1), (2, 2), (3, 1), (3, 2), (3, 3), (4, 1), (4, 2), (4, 3), (4, 4)]
def eqB (p : Nat × Nat) : Bool := decide (Mi.sumsMat (pS p.1) p.1 p.2 = Mi.addChoices (pS p.1) p.1 p.2) && decide (Mi.mulMat iszS (pS p.1) p.1 p.2 = Mi.mulChoices (pS p.1) p.1 p.2)
theorem eq_all : pairs.all eqB = true := by decide +kernel
theorem one_all : [1, 2, 3, 4].all (fun n => decide (Mi.addChoices (pS n) n 1 = pS n) && decide (Mi.mulChoices (pS n) n 1 = pS n)) = true := by decide +kernel
end Ma
end
section
set_option Elab.async false
set_option linter.all false
set_option maxRecDepth 100000
set_option maxHeartbeats 2000000
namespace Ma
open Mi
section
variable (ρ : En)
abbrev eL (l : List Sym) : List Rat := l.map (ev ρ)
abbrev eM (m : List (List Sym)) : List (List Rat) := m.map (eL ρ)
theorem eL_app (a b : List Sym) : eL ρ (a ++ b) = eL ρ a ++ eL ρ b := List.map_append
theorem eM_app (a b : List (List Sym)) : eM ρ (a ++ b) = eM ρ a ++ eM ρ b := List.map_append
theorem eL_map {γ : Type} (f : γ → Sym) (l : List γ) : eL ρ (l.map f) = l.map fun x => ev ρ (f x) := List.map_map
theorem eM_map {γ : Type} (f : γ → List Sym) (l : List γ) : eM ρ (l.map f) = l.map fun x => eL ρ (f x) := List.map_map
theorem eL_rep (n : Nat) (x : Sym) : eL ρ (List.replicate n x) = List.replicate n (ev ρ x) := List.map_replicate
theorem at0_ev (l : List Sym) (i : Nat) : at0 (eL ρ l) i = ev ρ (at0 l i) := by
  unfold at0
  rw [List.getD_eq_getElem?_getD, List.getD_eq_getElem?_getD, List.getElem?_map]
  cases l[i]? <;> rfl
theorem row_ev (m : List (List Sym)) (i : Nat) : (eM ρ m).getD i [] = eL ρ (m.getD i []) := by
  rw [List.getD_eq_getElem?_getD, List.getD_eq_getElem?_getD, List.getElem?_map]
  cases m[i]? <;> rfl
theorem at2_ev (m : List (List Sym)) (i j : Nat) : at2 (eM ρ m) i j = ev ρ (at2 m i j) := by
  unfold at2
  rw [row_ev, at0_ev]
theorem foldl_ev (l : List Sym) : ∀ a : Sym, (eL ρ l).foldl (· + ·) (ev ρ a) = ev ρ (l.foldl (· + ·) a) := by
  induction l with
  | nil => exact fun _ => rfl
  | cons x l ih =>
    intro a
    show (eL ρ l).foldl (· + ·) (ev ρ a + ev ρ x) = _
    rw [← ev_add]
    exact ih _
theorem sumL_ev (l : List Sym) : sumL (eL ρ l) = ev ρ (sumL l) := foldl_ev ρ l 0
theorem psIn_ev (cs f : List Sym) (n k : Nat) : ∀ i, psIn (eL ρ cs) (eL ρ f) n k i = ev ρ (psIn cs f n k i)
  | 0 => by
    unfold psIn
    split
    · rw [ev_mul, ev_int, at0_ev]
    · rfl
  | i + 1 => by
    unfold psIn
    rw [psIn_ev cs f n k i, at0_ev, at0_ev, ev_add, ev_mul]
theorem psTo_ev (cs : List Sym) (n : Nat) : ∀ k, psTo (eL ρ cs) n k = eL ρ (psTo cs n k)
  | 0 => by
    unfold psTo
    show [_] = [_]
    rw [ev_int]
  | k + 1 => by
    unfold psTo
    rw [psTo_ev cs n k, psIn_ev, eL_app, ← ev_neg]
    rfl
theorem elTerm_ev (s f : List Sym) (k i : Nat) : elTerm (eL ρ s) (eL ρ f) k i = ev ρ (elTerm s f k i) := by
  unfold elTerm
  rw [at0_ev, at0_ev, ev_mul]
theorem elIn_ev (s f : List Sym) (k : Nat) : ∀ i, elIn (eL ρ s) (eL ρ f) k i = ev ρ (elIn s f k i)
  | 0 => rfl
  | i + 1 => by
    unfold elIn
    rw [elIn_ev s f k i, elTerm_ev]
    split
    · rw [ev_add]
    · rw [ev_add, ev_neg]
theorem elTo_ev (s : List Sym) : ∀ k, elTo (eL ρ s) k = eL ρ (elTo s k)
  | 0 => by
    unfold elTo
    show [_] = [_]
    rw [ev_one]
  | k + 1 => by
    unfold elTo
    rw [elTo_ev s k, elIn_ev, eL_app, ← ev_div]
    rfl
theorem monicE_ev (p : List Sym) (size : Nat) : monicE (eL ρ p) size = eL ρ (monicE p size) := by
  unfold monicE
  rw [eL_map]
  refine List.map_congr_left fun k _ => ?_
  show _ = ev ρ (if _ then _ else _)
  split
  · rw [at0_ev]
  · rw [at0_ev, ev_neg]
theorem monicFrom_ev (s : List Sym) (size : Nat) : monicFrom (eL ρ s) size = eL ρ (monicFrom s size) := by
  unfold monicFrom
  rw [elTo_ev, monicE_ev]
theorem convT_ev (a b : List Sym) (k j : Nat) : convT (eL ρ a) (eL ρ b) k j = ev ρ (convT a b k j) := by
  unfold convT
  rw [at0_ev, at0_ev, ev_mul, ev_mul, ev_int]
theorem conv_ev (a b : List Sym) : conv (eL ρ a) (eL ρ b) = eL ρ (conv a b) := by
  unfold conv
  rw [List.length_map, eL_map]
  refine List.map_congr_left fun k _ => ?_
  show sumL _ = ev ρ (sumL _)
  rw [← sumL_ev, eL_map]
  congr 1
  exact List.map_congr_left fun j _ => convT_ev ρ a b k j
theorem acRow_ev (s : List Sym) (t i : Nat) : acRow (eL ρ s) t i = eL ρ (acRow s t i) := by
  unfold acRow
  rw [eL_map]
  refine List.map_congr_left fun j _ => ?_
  show _ = ev ρ (_ * _)
  rw [at0_ev, ev_mul, ev_int]
theorem acRows_ev (s : List Sym) (m t : Nat) : acRows (eL ρ s) m t = eM ρ (acRows s m t) := by
  unfold acRows
  rw [eM_map]
  exact List.map_congr_left fun i _ => acRow_ev ρ s t i
theorem acSign_ev (i k : Nat) : (acSign i k : Rat) = ev ρ (acSign i k) := by
  unfold acSign
  split
  · rw [ev_div, ev_one]
  · rw [ev_div, ev_neg, ev_one]
theorem zip_ev {f : Rat → Rat → Rat} {g : Sym → Sym → Sym} (h : ∀ a b, f (ev ρ a) (ev ρ b) = ev ρ (g a b)) : ∀ l r : List Sym, List.zipWith f (eL ρ l) (eL ρ r) = eL ρ (List.zipWith g l r)
  | [], _ => rfl
  | _ :: _, [] => rfl
  | a :: l, b :: r => by
    show f (ev ρ a) (ev ρ b) :: List.zipWith f (eL ρ l) (eL ρ r) = ev ρ (g a b) :: _
    rw [h, zip_ev h l r]
theorem acIn_ev (rows found : List (List Sym)) (k t : Nat) : ∀ i, acIn (eM ρ rows) (eM ρ found) k t i = eL ρ (acIn rows found k t i)
  | 0 => by
    unfold acIn
    rw [eL_rep]
    rfl
  | i + 1 => by
    unfold acIn
    rw [acIn_ev rows found k t i, row_ev, row_ev, conv_ev]
    exact zip_ev ρ (fun a b => by rw [ev_add, ev_mul, acSign_ev]) _ _
theorem acTo_ev (rows : List (List Sym)) (t : Nat) : ∀ k, acTo (eM ρ rows) t k = eM ρ (acTo rows t k)
  | 0 => by
    unfold acTo
    show [_ :: _] = [ev ρ 1 :: eL ρ (List.replicate t 0)]
    rw [ev_one, eL_rep]
    rfl
  | k + 1 => by
    unfold acTo
    rw [acTo_ev rows t k, acIn_ev, eM_app]
    rfl
theorem addChoices_ev (cs : List Sym) (n m : Nat) : addChoices (eL ρ cs) n m = eL ρ (addChoices cs n m) := by
  unfold addChoices
  rw [psTo_ev, acRows_ev, acTo_ev, row_ev, monicFrom_ev]
theorem mcS_ev (s : List Sym) (m r : Nat) : mcS (eL ρ s) m r = eL ρ (mcS s m r) := by
  unfold mcS
  rw [eL_map]
  exact List.map_congr_left fun i _ => at0_ev ρ s (i * r)
theorem mcTo_ev (s : List Sym) (m t : Nat) : ∀ r, mcTo (eL ρ s) m t r = eL ρ (mcTo s m t r)
  | 0 => by
    unfold mcTo
    show [_] = [_]
    rw [ev_int]
  | r + 1 => by
    unfold mcTo
    rw [mcTo_ev s m t r, mcS_ev, elTo_ev, at0_ev, eL_app]
    rfl
theorem mulChoices_ev (cs : List Sym) (n m : Nat) : mulChoices (eL ρ cs) n m = eL ρ (mulChoices cs n m) := by
  unfold mulChoices
  rw [psTo_ev, mcTo_ev, monicFrom_ev]
end
end Ma
end
section
set_option Elab.async false
set_option linter.all false
set_option maxRecDepth 100000
set_option maxHeartbeats 2000000
namespace Ma
open Mi
section
variable (ρ : En)
theorem compTo_ev (cs : List Sym) (n i : Nat) : compTo (eL ρ cs) n i = eM ρ (compTo cs n i) := by
  unfold compTo
  rw [eM_map]
  refine List.map_congr_left fun r _ => ?_
  rw [eL_map]
  refine List.map_congr_left fun c _ => ?_
  split
  · rw [at0_ev, ev_neg]
  · split
    · rw [ev_one]
    · rfl
theorem companion_ev (cs : List Sym) (n : Nat) : companion (eL ρ cs) n = eM ρ (companion cs n) := compTo_ev ρ cs n n
theorem diag_ev (n : Nat) (v : Sym) : diag n (ev ρ v) = eM ρ (diag n v) := by
  unfold diag
  rw [eM_map]
  refine List.map_congr_left fun r _ => ?_
  rw [eL_map]
  refine List.map_congr_left fun c _ => ?_
  split <;> rfl
theorem matSum_ev : ∀ a b : List (List Sym), matSum (eM ρ a) (eM ρ b) = eM ρ (matSum a b)
  | [], _ => rfl
  | _ :: _, [] => rfl
  | a :: l, b :: r => by
    show List.zipWith (· + ·) (eL ρ a) (eL ρ b) :: matSum (eM ρ l) (eM ρ r) = eL ρ (List.zipWith (· + ·) a b) :: eM ρ (matSum l r)
    rw [matSum_ev l r, zip_ev ρ (g := (· + ·)) fun a b => (ev_add ρ a b).symm]
theorem cols_ev (b : List (List Sym)) : cols (eM ρ b) = eM ρ (cols b) := by
  unfold cols
  rw [List.length_map, eM_map]
  refine List.map_congr_left fun k _ => ?_
  rw [List.map_map, eL_map]
  exact List.map_congr_left fun r _ => at0_ev ρ r k
theorem matMul_ev (a b : List (List Sym)) : matMul (eM ρ a) (eM ρ b) = eM ρ (matMul a b) := by
  unfold matMul
  rw [cols_ev, eM_map, List.map_map]
  refine List.map_congr_left fun row _ => ?_
  rw [eL_map]
  show List.map _ (List.map _ _) = _
  rw [List.map_map]
  refine List.map_congr_left fun col _ => ?_
  show sumL (List.zipWith (· * ·) (eL ρ row) (eL ρ col)) = _
  rw [zip_ev ρ (g := (· * ·)) fun a b => (ev_mul ρ a b).symm, sumL_ev]
theorem trace_ev (n : Nat) (m : List (List Sym)) : trace n (eM ρ m) = ev ρ (trace n m) := by
  unfold trace
  rw [← sumL_ev, eL_map]
  congr 1
  exact List.map_congr_left fun i _ => at2_ev ρ m i i
theorem chCur_ev (m : List (List Sym)) (n : Nat) : ∀ k, chCur (eM ρ m) n k = eM ρ (chCur m n k)
  | 0 => by
    unfold chCur
    rw [← diag_ev, ev_one]
  | k + 1 => by
    unfold chCur
    rw [chCur_ev m n k, matMul_ev, trace_ev, ← ev_neg, ← ev_div, diag_ev, matSum_ev]
theorem chPart_ev (m : List (List Sym)) (n k : Nat) : chPart (eM ρ m) n k = ev ρ (chPart m n k) := by
  unfold chPart
  rw [chCur_ev, matMul_ev, trace_ev, ← ev_neg, ← ev_div]
theorem chParts_ev (m : List (List Sym)) (n k : Nat) : chParts (eM ρ m) n k = eL ρ (chParts m n k) := by
  unfold chParts
  rw [eL_map]
  refine List.map_congr_left fun j _ => ?_
  split
  · rw [ev_one]
  · split
    · rw [chPart_ev]
    · rfl
theorem charPoly_ev (m : List (List Sym)) (n : Nat) : charPoly (eM ρ m) n = eL ρ (charPoly m n) := chParts_ev ρ m n n
theorem setL_ev (l : List Sym) (i : Nat) (v : Sym) : (eL ρ l).set i (ev ρ v) = eL ρ (l.set i v) := List.map_set.symm
theorem setM_ev (m : List (List Sym)) (i : Nat) (v : List Sym) : (eM ρ m).set i (eL ρ v) = eM ρ (m.set i v) := List.map_set.symm
theorem addAt_ev (m : List (List Sym)) (r c : Nat) (v : Sym) : addAt (eM ρ m) r c (ev ρ v) = eM ρ (addAt m r c v) := by
  unfold addAt
  rw [row_ev, at2_ev, ← ev_add, setL_ev, setM_ev]
theorem dLater_ev (m : List (List Sym)) (lots : List (List Nat)) (ch : List Nat) (col i place : Nat) (rows : List (List Sym)) : ∀ later, dLater (eM ρ m) lots ch col i place (eM ρ rows) later = eM ρ (dLater m lots ch col i place rows later)
  | 0 => rfl
  | later + 1 => by
    unfold dLater
    split
    · exact dLater_ev m lots ch col i place rows later
    · rw [dLater_ev m lots ch col i place rows later, at2_ev, ← ev_int ρ, ← ev_mul, addAt_ev]
theorem dAt_ev (m : List (List Sym)) (lots : List (List Nat)) (size : Nat) (ch : List Nat) (col : Nat) (rows : List (List Sym)) : ∀ i, dAt (eM ρ m) lots size ch col (eM ρ rows) i = eM ρ (dAt m lots size ch col rows i)
  | 0 => rfl
  | i + 1 => by
    unfold dAt
    rw [dAt_ev m lots size ch col rows i, dLater_ev]
theorem dCol_ev (m : List (List Sym)) (lots : List (List Nat)) (size : Nat) : ∀ col, dCol (eM ρ m) lots size col = eM ρ (dCol m lots size col)
  | 0 => by
    unfold dCol
    rw [eM_map]
    refine List.map_congr_left fun r _ => ?_
    rw [eL_map]
    rfl
  | col + 1 => by
    unfold dCol
    rw [dCol_ev m lots size col, dAt_ev]
theorem derivation_ev (m : List (List Sym)) (size many : Nat) : derivation (eM ρ m) size many = eM ρ (derivation m size many) := dCol_ev ρ m _ size _
theorem sumsMat_ev (cs : List Sym) (n m : Nat) : sumsMat (eL ρ cs) n m = eL ρ (sumsMat cs n m) := by
  unfold sumsMat
  rw [companion_ev, derivation_ev, charPoly_ev]
theorem minor_ev (m : List (List Sym)) (l r : List Nat) : minor (eM ρ m) l r = eM ρ (minor m l r) := by
  unfold minor
  rw [eM_map]
  refine List.map_congr_left fun a _ => ?_
  rw [eL_map]
  exact List.map_congr_left fun b _ => at2_ev ρ m a b
theorem swapR_ev (m : List (List Sym)) (i j : Nat) : swapR (eM ρ m) i j = eM ρ (swapR m i j) := by
  unfold swapR
  rw [row_ev, row_ev, setM_ev, setM_ev]
end
end Ma
end
section
set_option Elab.async false
set_option linter.all false
set_option maxRecDepth 100000
set_option maxHeartbeats 2000000
set_option exponentiation.threshold 100000
namespace Ma
open Mi My
/-- of denominator N, at most A / N -/
def G (N A : Nat) (q : Rat) : Prop := ∃ a : Int, q * (N : Rat) = (a : Rat) ∧ a.natAbs ≤ A
theorem G.mono {N A A' : Nat} {q : Rat} (h : G N A q) (l : A ≤ A') : G N A' q := by
  obtain ⟨a, e, b⟩ := h
  exact ⟨a, e, Nat.le_trans b l⟩
theorem G.add {N A A' : Nat} {q r : Rat} (h : G N A q) (h' : G N A' r) : G N (A + A') (q + r) := by
  obtain ⟨a, e1, l1⟩ := h
  obtain ⟨b, e2, l2⟩ := h'
  refine ⟨a + b, by rw [Rat.add_mul, e1, e2, Rat.intCast_add], ?_⟩
  have := Int.natAbs_add_le a b
  omega
theorem G.mul {N N' A A' : Nat} {q r : Rat} (h : G N A q) (h' : G N' A' r) : G (N * N') (A * A') (q * r) := by
  obtain ⟨a, e1, l1⟩ := h
  obtain ⟨b, e2, l2⟩ := h'
  refine ⟨a * b, ?_, ?_⟩
  · rw [Rat.intCast_mul, ← e1, ← e2, Rat.natCast_mul]
    grind
  · rw [Int.natAbs_mul]
    exact Nat.mul_le_mul l1 l2
theorem G.zero (N A : Nat) : G N A 0 := ⟨0, by rw [Rat.zero_mul]; rfl, Nat.zero_le _⟩
theorem G.one (N : Nat) : G N N 1 := ⟨(N : Int), by rw [Rat.one_mul]; rfl, by rw [Int.natAbs_natCast]; exact Nat.le_refl _⟩
theorem G.pow {N A : Nat} {q : Rat} (h : G N A q) : ∀ n, G (N ^ n) (A ^ n) (q ^ n)
  | 0 => by
    rw [Rat.pow_zero]
    exact G.one 1
  | n + 1 => by
    rw [Rat.pow_succ]
    exact (G.pow h n).mul h
theorem G.con {q : Rat} {L : Nat} (hd : L % q.den = 0) : G L (q.num.natAbs * (L / q.den)) q := by
  obtain ⟨k, rfl⟩ := Nat.dvd_of_mod_eq_zero hd
  refine ⟨q.num * (k : Int), ?_, ?_⟩
  · have h : q * (q.den : Rat) = (q.num : Rat) := by
      have hc : ((q.den : Nat) : Rat) ≠ 0 := fun z => q.den_nz (Rat.natCast_eq_zero_iff.mp z)
      have e : q = mkRat q.num q.den := (Rat.mkRat_self q).symm
      have e2 : mkRat q.num q.den = (q.num : Rat) / (q.den : Rat) := Rat.mkRat_eq_div _ _
      have e3 : q = (q.num : Rat) / (q.den : Rat) := e.trans e2
      have e4 : (q.num : Rat) / (q.den : Rat) * (q.den : Rat) = (q.num : Rat) := by rw [Rat.div_def, Rat.mul_assoc, Rat.inv_mul_cancel _ hc, Rat.mul_one]
      rw [← e3] at e4
      exact e4
    rw [Rat.natCast_mul, ← Rat.mul_assoc, h, Rat.intCast_mul]
    rfl
  · rw [Nat.mul_div_cancel_left _ q.den_pos, Int.natAbs_mul, Int.natAbs_natCast]
    exact Nat.le_refl _
theorem G.eq {N A : Nat} {q : Rat} (h : G N A q) (hN : N ≠ 0) : ∃ a : Int, q = mkRat a N ∧ a.natAbs ≤ A := by
  obtain ⟨a, e1, l1⟩ := h
  refine ⟨a, ?_, l1⟩
  have hc : ((N : Nat) : Rat) ≠ 0 := fun z => hN (Rat.natCast_eq_zero_iff.mp z)
  rw [Rat.mkRat_eq_div, ← e1, Rat.div_def, Rat.mul_assoc, Rat.mul_inv_cancel _ hc, Rat.mul_one]
theorem G.sm {N A : Nat} {q : Rat} (h : G N A q) (hN : N ≠ 0) (h1 : N < 2 ^ 4400) (h2 : A < 2 ^ 20000) : Sm q := by
  obtain ⟨a, rfl, l⟩ := h.eq hN
  obtain ⟨h3, h4⟩ := mk_num a N hN
  exact ⟨Nat.lt_of_le_of_lt (Nat.le_trans h3 l) h2, Nat.lt_of_le_of_lt h4 h1⟩
theorem G.pad {e d : Nat} {q : Rat} (h : G (16 ^ e) (2 ^ (20 * e)) q) (l : e ≤ d) : G (16 ^ d) (2 ^ (20 * d)) q := by
  obtain ⟨k, rfl⟩ := Nat.exists_eq_add_of_le l
  have h1 : G (16 ^ k) (2 ^ (20 * k)) 1 := (G.one (16 ^ k)).mono (by
    rw [Nat.pow_mul]
    exact Nat.pow_le_pow_left (by decide) k)
  have h2 := h.mul h1
  rw [Rat.mul_one, ← Nat.pow_add, ← Nat.pow_add, ← Nat.mul_add] at h2
  exact h2
/-- the letters are small -/
structure Gd (ρ : En) : Prop where
  x : G 16 (2 ^ 20) ρ.x
  y : G 16 (2 ^ 20) ρ.y
  z : G 16 (2 ^ 20) ρ.z
  w : G 16 (2 ^ 20) ρ.w
theorem gpow {q : Rat} (h : G 16 (2 ^ 20) q) (n : Nat) : G (16 ^ n) (2 ^ (20 * n)) (q ^ n) := by
  have := h.pow n
  rw [← Nat.pow_mul] at this
  exact this
theorem gmul {q r : Rat} {m n : Nat} (h : G (16 ^ m) (2 ^ (20 * m)) q) (h' : G (16 ^ n) (2 ^ (20 * n)) r) : G (16 ^ (m + n)) (2 ^ (20 * (m + n))) (q * r) := by
  have := h.mul h'
  rw [← Nat.pow_add, ← Nat.pow_add, ← Nat.mul_add] at this
  exact this
def Mon.deg (m : Mon) : Nat := m.a + m.b + (m.c + m.d)
theorem evM_g {ρ : En} (g : Gd ρ) (m : Mon) {D : Nat} (h : m.deg ≤ D) : G (16 ^ D) (2 ^ (20 * D)) (evM ρ m) :=
  (gmul (gmul (gpow g.x m.a) (gpow g.y m.b)) (gmul (gpow g.z m.c) (gpow g.w m.d))).pad h
/-- each coefficient of denominator L, at most C / L, of degree at most D -/
def okG (L D C : Nat) (p : Sym) : Bool := p.l.all fun t => decide (t.1.deg ≤ D) && (decide (L % t.2.den = 0) && decide (t.2.num.natAbs * (L / t.2.den) ≤ C))
theorem ev_g {ρ : En} (g : Gd ρ) {L D C : Nat} {p : Sym} (h : okG L D C p = true) : G (L * 16 ^ D) (p.l.length * (C * 2 ^ (20 * D))) (ev ρ p) := by
  unfold okG at h
  unfold ev
  generalize p.l = l at h
  induction l with
  | nil => exact G.zero _ _
  | cons t l ih =>
    rw [List.all_cons, Bool.and_eq_true, Bool.and_eq_true, Bool.and_eq_true] at h
    obtain ⟨⟨h1, h2, h3⟩, h4⟩ := h
    have a := ((G.con (of_decide_eq_true h2)).mono (of_decide_eq_true h3)).mul (evM_g g t.1 (of_decide_eq_true h1))
    have b := a.add (ih h4)
    refine b.mono ?_
    rw [List.length_cons, Nat.add_mul, Nat.one_mul, Nat.add_comm]
    exact Nat.le_refl _
def okS (p : Sym) : Bool := okG (720 ^ 8) 60 (2 ^ 400) p && decide (p.l.length ≤ 1000)
theorem okS_sm {ρ : En} (g : Gd ρ) {p : Sym} (h : okS p = true) : Sm (ev ρ p) := by
  obtain ⟨h1, h2⟩ := Bool.and_eq_true_iff.mp h
  have h2 := of_decide_eq_true h2
  refine ((ev_g g h1).mono (Nat.mul_le_mul_right _ h2)).sm (by decide +kernel) (by decide +kernel) (by decide +kernel)
end Ma
end
section
set_option Elab.async false
set_option linter.all false
set_option maxRecDepth 100000
set_option maxHeartbeats 2000000
set_option exponentiation.threshold 100000
namespace Ma
open Mi My
abbrev S (p : Sym) : Prop := okS p = true
abbrev AllS (l : List Sym) : Prop := l.all okS = true
section
variable {ρ : En} (g : Gd ρ)
include g
theorem S.sm {p : Sym} (h : S p) : Sm (ev ρ p) := okS_sm g h
theorem AllS.sm {l : List Sym} (h : AllS l) : ∀ x ∈ eL ρ l, Sm x := fun x hx => by
  obtain ⟨p, hp, rfl⟩ := List.mem_map.mp hx
  exact okS_sm g (List.all_eq_true.mp h p hp)
end
def PsS (cs : List Sym) (n most : Nat) : Prop := AllS cs ∧ ∀ k, k < most → AllS (psTo cs n k) ∧ (∀ i, i ≤ min k n → S (psIn cs (psTo cs n k) n (k + 1) i)) ∧ (∀ i, i < min k n → S (at0 cs (n - (i + 1)) * at0 (psTo cs n k) (k + 1 - (i + 1))))
instance (cs : List Sym) (n most : Nat) : Decidable (PsS cs n most) := by unfold PsS; infer_instance
theorem PsS.ok {ρ : En} (g : Gd ρ) {cs : List Sym} {n most : Nat} (h : PsS cs n most) : PsOk (eL ρ cs) n most := by
  refine ⟨AllS.sm g h.1, fun k hk => ?_⟩
  obtain ⟨h1, h2, h3⟩ := h.2 k hk
  rw [psTo_ev]
  exact ⟨AllS.sm g h1, fun i hi => by rw [psIn_ev]; exact S.sm g (h2 i hi), fun i hi => by rw [at0_ev, at0_ev, ← ev_mul]; exact S.sm g (h3 i hi)⟩
def ElS (s : List Sym) (most : Nat) : Prop := AllS s ∧ ∀ k, k < most → AllS (elTo s k) ∧ (∀ i, i ≤ k + 1 → S (elIn s (elTo s k) (k + 1) i)) ∧ (∀ i, i < k + 1 → S (elTerm s (elTo s k) (k + 1) i))
instance (s : List Sym) (most : Nat) : Decidable (ElS s most) := by unfold ElS; infer_instance
theorem ElS.ok {ρ : En} (g : Gd ρ) {s : List Sym} {most : Nat} (h : ElS s most) : ElOk (eL ρ s) most := by
  refine ⟨AllS.sm g h.1, fun k hk => ?_⟩
  obtain ⟨h1, h2, h3⟩ := h.2 k hk
  rw [elTo_ev]
  exact ⟨AllS.sm g h1, fun i hi => by rw [elIn_ev]; exact S.sm g (h2 i hi), fun i hi => by rw [elTerm_ev]; exact S.sm g (h3 i hi)⟩
def SumS (l : List Sym) : Prop := AllS l ∧ ∀ i, i ≤ l.length → S (sumL (l.take i))
instance (l : List Sym) : Decidable (SumS l) := by unfold SumS; infer_instance
theorem SumS.ok {ρ : En} (g : Gd ρ) {l : List Sym} (h : SumS l) : SumOk (eL ρ l) := by
  refine ⟨AllS.sm g h.1, fun i hi => ?_⟩
  rw [List.length_map] at hi
  rw [← List.map_take, sumL_ev]
  exact S.sm g (h.2 i hi)
def ConvS (a b : List Sym) : Prop := a ≠ [] ∧ a.length ≤ 100 ∧ a.length ≤ b.length ∧ AllS a ∧ AllS b ∧ ∀ k, k < a.length → SumS ((List.range (k + 1)).map fun j => convT a b k j) ∧ ∀ j, j ≤ k → S (at0 a j * at0 b (k - j)) ∧ ((binRow k).getD j 0).natAbs < 2 ^ 64
instance (a b : List Sym) : Decidable (ConvS a b) := by unfold ConvS; infer_instance
theorem ConvS.ok {ρ : En} (g : Gd ρ) {a b : List Sym} (h : ConvS a b) : ConvOk (eL ρ a) (eL ρ b) := by
  obtain ⟨h1, h2, h3, h4, h5, h6⟩ := h
  refine ⟨fun z => h1 (List.map_eq_nil_iff.mp z), by rw [List.length_map]; exact h2, by rw [List.length_map, List.length_map]; exact h3, AllS.sm g h4, AllS.sm g h5, fun k hk => ?_⟩
  rw [List.length_map] at hk
  obtain ⟨a1, a2⟩ := h6 k hk
  refine ⟨?_, fun j hj => ?_⟩
  · have := SumS.ok g a1
    rw [eL_map] at this
    have e : ((List.range (k + 1)).map fun j => convT (eL ρ a) (eL ρ b) k j) = (List.range (k + 1)).map fun j => ev ρ (convT a b k j) := List.map_congr_left fun j _ => convT_ev ρ a b k j
    rw [e]
    exact this
  · obtain ⟨b1, b2⟩ := a2 j hj
    rw [at0_ev, at0_ev, ← ev_mul]
    exact ⟨S.sm g b1, b2⟩
def AcS (cs : List Sym) (n many t : Nat) (s : List Sym) (R : List (List Sym)) : Prop :=
  t ≤ 50 ∧ PsS cs n t ∧ AllS s ∧ (∀ i, i ≤ many → ∀ j, j ≤ t → ((i : Int) ^ j).natAbs < 2 ^ 64) ∧
  (∀ k, k < many → ∀ i, i < k + 1 → ConvS ((acTo R t k).getD (k + 1 - (i + 1)) []) (R.getD (i + 1) []) ∧ (acIn R (acTo R t k) (k + 1) t i).length = t + 1 ∧ (conv ((acTo R t k).getD (k + 1 - (i + 1)) []) (R.getD (i + 1) [])).length = t + 1 ∧
    ∀ j, j < t + 1 → S (at0 (acIn R (acTo R t k) (k + 1) t i) j) ∧ S (at0 (conv ((acTo R t k).getD (k + 1 - (i + 1)) []) (R.getD (i + 1) [])) j) ∧ S (acSign (i + 1) (k + 1) * at0 (conv ((acTo R t k).getD (k + 1 - (i + 1)) []) (R.getD (i + 1) [])) j)) ∧
  t < ((acTo R t many).getD many []).length ∧ at0 ((acTo R t many).getD many []) 0 = (((t : Nat) : Int) : Sym) ∧ ElS ((acTo R t many).getD many []) t
instance (cs : List Sym) (n many t : Nat) (s : List Sym) (R : List (List Sym)) : Decidable (AcS cs n many t s R) := by unfold AcS; infer_instance
theorem AcS.ok {ρ : En} (g : Gd ρ) {cs : List Sym} {n many : Nat} (h : AcS cs n many (choices n many) (psTo cs n (choices n many)) (acRows (psTo cs n (choices n many)) many (choices n many))) : ∃ t s R, AcOk (eL ρ cs) n many t s R := by
  obtain ⟨h1, h2, h3, h4, h5, h6, h7, h8⟩ := h
  refine ⟨choices n many, _, _, rfl, h1, rfl, rfl, PsS.ok g h2, ?_, h4, fun k hk i hi => ?_, ?_, ?_, ?_⟩
  · rw [psTo_ev]; exact AllS.sm g h3
  · obtain ⟨a1, a2, a3, a4⟩ := h5 k hk i hi
    rw [psTo_ev, acRows_ev, acTo_ev, row_ev, row_ev, acIn_ev, conv_ev]
    refine ⟨ConvS.ok g a1, by rw [List.length_map]; exact a2, by rw [List.length_map]; exact a3, fun j hj => ?_⟩
    obtain ⟨b1, b2, b3⟩ := a4 j hj
    rw [at0_ev, at0_ev, acSign_ev ρ, ← ev_mul]
    exact ⟨S.sm g b1, S.sm g b2, S.sm g b3⟩
  · rw [psTo_ev, acRows_ev, acTo_ev, row_ev, List.length_map]; exact h6
  · rw [psTo_ev, acRows_ev, acTo_ev, row_ev, at0_ev, h7, ev_int]
  · rw [psTo_ev, acRows_ev, acTo_ev, row_ev]; exact ElS.ok g h8
end Ma
end
section
set_option Elab.async false
set_option linter.all false
set_option maxRecDepth 100000
set_option maxHeartbeats 2000000
set_option exponentiation.threshold 100000
namespace Ma
open Mi My
def acB (p : Nat × Nat) : Bool := decide (AcS (pS p.1) p.1 p.2 (choices p.1 p.2) (psTo (pS p.1) p.1 (choices p.1 p.2)) (acRows (psTo (pS p.1) p.1 (choices p.1 p.2)) p.2 (choices p.1 p.2)))
theorem ac_all : pairs.all acB = true := by decide +kernel
end Ma
end
section
set_option Elab.async false
set_option linter.all false
set_option maxRecDepth 100000
set_option maxHeartbeats 2000000
set_option exponentiation.threshold 100000
namespace Ma
open Mi My
def McS (cs : List Sym) (n many t : Nat) (s : List Sym) : Prop :=
  t ≤ 50 ∧ PsS cs n (t * many) ∧ AllS s ∧ (∀ r, r < t → ElS (mcS s many (r + 1)) many) ∧ at0 (mcTo s many t t) 0 = (((t : Nat) : Int) : Sym) ∧ ElS (mcTo s many t t) t
instance (cs : List Sym) (n many t : Nat) (s : List Sym) : Decidable (McS cs n many t s) := by unfold McS; infer_instance
theorem McS.ok {ρ : En} (g : Gd ρ) {cs : List Sym} {n many : Nat} (h : McS cs n many (choices n many) (psTo cs n (choices n many * many))) : ∃ t s, McOk (eL ρ cs) n many t s := by
  obtain ⟨h1, h2, h3, h4, h5, h6⟩ := h
  refine ⟨choices n many, _, rfl, h1, rfl, PsS.ok g h2, ?_, fun r hr => ?_, ?_, ?_⟩
  · rw [psTo_ev]; exact AllS.sm g h3
  · rw [psTo_ev, mcS_ev]; exact ElS.ok g (h4 r hr)
  · rw [psTo_ev, mcTo_ev, at0_ev, h5, ev_int]
  · rw [psTo_ev, mcTo_ev]; exact ElS.ok g h6
def mcB (p : Nat × Nat) : Bool := decide (McS (pS p.1) p.1 p.2 (choices p.1 p.2) (psTo (pS p.1) p.1 (choices p.1 p.2 * p.2)))
end Ma
end
section
set_option Elab.async false
set_option linter.all false
set_option maxRecDepth 100000
set_option maxHeartbeats 2000000
set_option exponentiation.threshold 100000
namespace Ma
open Mi My
theorem mc_all : pairs.all mcB = true := by decide +kernel
end Ma
end
section
set_option Elab.async false
set_option linter.all false
set_option maxRecDepth 100000
set_option maxHeartbeats 2000000
set_option exponentiation.threshold 100000
set_option synthInstance.maxSize 2000
set_option synthInstance.maxHeartbeats 2000000
namespace Ma
open Mi My
def MsS (a b : List (List Sym)) : Prop := a.length ≤ 1000 ∧ ∀ i, i < a.length → i < b.length → (a.getD i []).length ≤ 1000 ∧ ∀ j, j < (a.getD i []).length → j < (b.getD i []).length → S (at2 a i j) ∧ S (at2 b i j)
instance (a b : List (List Sym)) : Decidable (MsS a b) := by unfold MsS; infer_instance
theorem MsS.ok {ρ : En} (g : Gd ρ) {a b : List (List Sym)} (h : MsS a b) : MsOk (eM ρ a) (eM ρ b) := by
  refine ⟨by rw [List.length_map]; exact h.1, fun i h1 h2 => ?_⟩
  rw [List.length_map] at h1 h2
  obtain ⟨h3, h4⟩ := h.2 i h1 h2
  rw [row_ev, row_ev]
  refine ⟨by rw [List.length_map]; exact h3, fun j h5 h6 => ?_⟩
  rw [List.length_map] at h5 h6
  rw [at2_ev, at2_ev]
  exact ⟨S.sm g (h4 j h5 h6).1, S.sm g (h4 j h5 h6).2⟩
def MmS (a b : List (List Sym)) : Prop := a.length ≤ 1000 ∧ b.length ≤ 1000 ∧ (∀ i, i < b.length → b.length ≤ (b.getD i []).length) ∧
  ∀ i, i < a.length → (a.getD i []).length ≤ 1000 ∧ ∀ k, k < b.length → (∀ j, j < (a.getD i []).length → j < b.length → S (at2 a i j) ∧ S (at2 b j k)) ∧ SumS (List.zipWith (· * ·) (a.getD i []) ((cols b).getD k []))
instance (a b : List (List Sym)) : Decidable (MmS a b) := by unfold MmS; infer_instance
theorem MmS.ok {ρ : En} (g : Gd ρ) {a b : List (List Sym)} (h : MmS a b) : MmOk (eM ρ a) (eM ρ b) := by
  obtain ⟨h1, h2, h3, h4⟩ := h
  refine ⟨by rw [List.length_map]; exact h1, by rw [List.length_map]; exact h2, fun i hi => ?_, fun i hi => ?_⟩
  · rw [List.length_map] at hi ⊢
    rw [row_ev, List.length_map]
    exact h3 i hi
  · rw [List.length_map] at hi
    obtain ⟨a1, a2⟩ := h4 i hi
    rw [row_ev, List.length_map]
    refine ⟨a1, fun k hk => ?_⟩
    rw [List.length_map] at hk
    obtain ⟨b1, b2⟩ := a2 k hk
    refine ⟨fun j h5 h6 => ?_, ?_⟩
    · rw [List.length_map] at h6
      rw [at2_ev, at2_ev]
      exact ⟨S.sm g (b1 j h5 h6).1, S.sm g (b1 j h5 h6).2⟩
    · rw [cols_ev, row_ev, zip_ev ρ (g := (· * ·)) fun a b => (ev_mul ρ a b).symm]
      exact SumS.ok g b2
def ChS (m : List (List Sym)) (n : Nat) : Prop := m.length = n ∧ n ≤ 50 ∧ (∀ k, k < n → MmS m (chCur m n k) ∧ (matMul m (chCur m n k)).length = n ∧ (∀ i, i < n → ((matMul m (chCur m n k)).getD i []).length = n) ∧
  SumS ((List.range n).map fun i => at2 (matMul m (chCur m n k)) i i) ∧ S (trace n (matMul m (chCur m n k))) ∧ MsS (matMul m (chCur m n k)) (diag n (chPart m n k)))
instance (m : List (List Sym)) (n : Nat) : Decidable (ChS m n) := by unfold ChS; infer_instance
theorem ChS.ok {ρ : En} (g : Gd ρ) {m : List (List Sym)} {n : Nat} (h : ChS m n) : ChOk (eM ρ m) n := by
  obtain ⟨h1, h2, h3⟩ := h
  refine ⟨by rw [List.length_map]; exact h1, h2, fun k hk => ?_⟩
  obtain ⟨a1, a2, a3, a4, a5, a6⟩ := h3 k hk
  rw [chCur_ev, matMul_ev]
  refine ⟨MmS.ok g a1, by rw [List.length_map]; exact a2, fun i hi => by rw [row_ev, List.length_map]; exact a3 i hi, ?_, ?_, ?_⟩
  · have := SumS.ok g a4
    rw [eL_map] at this
    have e : ((List.range n).map fun i => at2 (eM ρ (matMul m (chCur m n k))) i i) = (List.range n).map fun i => ev ρ (at2 (matMul m (chCur m n k)) i i) := List.map_congr_left fun i _ => at2_ev ρ _ i i
    rw [e]
    exact this
  · rw [trace_ev]; exact S.sm g a5
  · rw [chPart_ev, diag_ev]; exact MsS.ok g a6
def csB (p : Nat × Nat) : Bool := decide (ChS (derivation (companion (pS p.1) p.1) p.1 p.2) (subsets p.1 p.2).length)
def cpB (p : Nat × Nat) : Bool := decide (ChS (compound iszS (companion (pS p.1) p.1) p.1 p.2) (subsets p.1 p.2).length)
theorem cs_all : pairs.all csB = true := by decide +kernel
theorem cp_all : pairs.all cpB = true := by decide +kernel
end Ma
end
section
set_option Elab.async false
set_option linter.all false
set_option maxRecDepth 100000
set_option maxHeartbeats 2000000
set_option exponentiation.threshold 100000
set_option synthInstance.maxSize 2000
set_option synthInstance.maxHeartbeats 2000000
namespace Ma
open Mi My
theorem mem_at {cs : List Rat} {i : Nat} (hi : i < cs.length) : at0 cs i ∈ cs := by
  unfold at0
  rw [List.getD_eq_getElem?_getD, List.getElem?_eq_getElem hi]
  exact List.getElem_mem _
theorem lcTo_dvd {cs : List Rat} {N : Nat} (h : ∀ x ∈ cs, x.den ∣ N) : ∀ i, i ≤ cs.length → lcTo cs i ∣ N
  | 0, _ => Nat.one_dvd N
  | i + 1, hi => by
    have ih := lcTo_dvd h i (by omega)
    have h2 : (at0 cs i).den ∣ N := h _ (mem_at (by omega))
    unfold lcTo
    rw [Nat.div_mul_right_comm (Nat.gcd_dvd_left _ _)]
    exact Nat.lcm_dvd ih h2
theorem G.den {N A : Nat} {q : Rat} (h : G N A q) (hN : N ≠ 0) : q.den ∣ N := by
  obtain ⟨a, rfl, _⟩ := h.eq hN
  rw [Rat.den_mkRat, if_neg hN]
  exact Nat.div_dvd_of_dvd (Nat.gcd_dvd_left _ _)
theorem bagOk_of {cs : List Rat} {N A : Nat} (h0 : 0 < cs.length) (h8 : cs.length ≤ 8) (hl : at0 cs (cs.length - 1) = 1) (h : ∀ x ∈ cs, G N A x) (hN : N ≠ 0) (h1 : N < 2 ^ 4000) (h2 : A < 10 ^ 100) : BagOk cs := by
  have hd : ∀ x ∈ cs, x.den ∣ N := fun x hx => (h x hx).den hN
  have hlc : ∀ i, i ≤ cs.length → lcTo cs i ≤ N := fun i hi => Nat.le_of_dvd (Nat.pos_of_ne_zero hN) (lcTo_dvd hd i hi)
  refine ⟨h0, h8, hl, fun x hx => (h x hx).sm hN (Nat.lt_trans h1 (Nat.pow_lt_pow_right (by decide) (by decide))) (Nat.lt_trans h2 (by decide +kernel)), fun i hi => Nat.lt_of_le_of_lt (hlc i hi) h1, fun i hi => ?_⟩
  have hx := mem_at hi
  obtain ⟨a, e, l⟩ := h _ hx
  obtain ⟨k, hk⟩ := hd _ hx
  have e2 : (at0 cs i) * (N : Rat) = (((at0 cs i).num * (k : Int) : Int) : Rat) := by
    have hc : (((at0 cs i).den : Nat) : Rat) ≠ 0 := fun z => (at0 cs i).den_nz (Rat.natCast_eq_zero_iff.mp z)
    have e3 : (at0 cs i) = ((at0 cs i).num : Rat) / ((at0 cs i).den : Rat) := (Rat.mkRat_self _).symm.trans (Rat.mkRat_eq_div _ _)
    have e4 : ((at0 cs i).num : Rat) / ((at0 cs i).den : Rat) * ((at0 cs i).den : Rat) = ((at0 cs i).num : Rat) := by rw [Rat.div_def, Rat.mul_assoc, Rat.inv_mul_cancel _ hc, Rat.mul_one]
    rw [← e3] at e4
    rw [hk, Rat.natCast_mul, ← Rat.mul_assoc, e4, Rat.intCast_mul]
    rfl
  have e5 : a = (at0 cs i).num * (k : Int) := Rat.intCast_inj.mp (e.symm.trans e2)
  have h3 : lcTo cs cs.length / (at0 cs i).den ≤ k := by
    have := Nat.div_le_div_right (c := (at0 cs i).den) (hlc _ (Nat.le_refl _))
    rw [hk, Nat.mul_div_cancel_left _ (at0 cs i).den_pos] at this
    exact this
  refine Nat.lt_of_le_of_lt (Nat.le_trans (Nat.mul_le_mul_left _ h3) ?_) h2
  rw [e5, Int.natAbs_mul, Int.natAbs_natCast] at l
  exact l
end Ma
end
section
set_option Elab.async false
set_option linter.all false
set_option maxRecDepth 100000
set_option maxHeartbeats 2000000
set_option exponentiation.threshold 100000
set_option synthInstance.maxSize 2000
set_option synthInstance.maxHeartbeats 2000000
namespace Ma
open Mi My
def DvS (m : List (List Sym)) (size many : Nat) (lots : List (List Nat)) : Prop := m.length = size ∧ (∀ r, r < size → (m.getD r []).length = size) ∧ many ≤ size ∧ size ≤ 4 ∧ (∀ r, r < size → ∀ c, c < size → S (at2 m r c)) ∧
  ∀ col, col < lots.length → ∀ i, i < many → ∀ later, later < size →
    (∀ r, r < lots.length → S (at2 (dLater m lots (lots.getD col []) col i ((lots.getD col []).getD i 0) (dAt m lots size (lots.getD col []) col (dCol m lots size col) i) later) r col)) ∧
    S (((deSign (lots.getD col []) i later : Int) : Sym) * at2 m later ((lots.getD col []).getD i 0))
instance (m : List (List Sym)) (size many : Nat) (lots : List (List Nat)) : Decidable (DvS m size many lots) := by unfold DvS; infer_instance
theorem DvS.ok {ρ : En} (g : Gd ρ) {m : List (List Sym)} {size many : Nat} (h : DvS m size many (subsets size many)) : DvOk (eM ρ m) size many := by
  obtain ⟨h1, h2, h3, h4, h5, h6⟩ := h
  refine ⟨by rw [List.length_map]; exact h1, fun r hr => by rw [row_ev, List.length_map]; exact h2 r hr, h3, h4, fun r hr c hc => by rw [at2_ev]; exact S.sm g (h5 r hr c hc), fun col hcol i hi later hl => ?_⟩
  obtain ⟨a1, a2⟩ := h6 col hcol i hi later hl
  rw [dCol_ev, dAt_ev, dLater_ev, at2_ev, ← ev_int ρ, ← ev_mul]
  exact ⟨fun r hr => by rw [at2_ev]; exact S.sm g (a1 r hr), S.sm g a2⟩
def dvB (p : Nat × Nat) : Bool := decide (DvS (companion (pS p.1) p.1) p.1 p.2 (subsets p.1 p.2))
theorem dv_all : pairs.all dvB = true := by decide +kernel
end Ma
end
section
set_option Elab.async false
set_option linter.all false
set_option maxRecDepth 100000
set_option maxHeartbeats 2000000
set_option exponentiation.threshold 100000
namespace Ma
open Mi My
/-- the tested entries are 0 or 1; each pivot but the last is 1, alone in its column -/
def detS (k : Nat) : Nat → List (List Sym) → Bool
  | 0, _ => true
  | t + 1, rows => ((List.range k).all fun r => (List.range k).all fun c => okS (at2 rows r c)) && (if t = 0 then true else
      ((List.range k).all fun r => decide (at2 rows r (k - (t + 1)) = 0) || decide (at2 rows r (k - (t + 1)) = 1)) &&
      match spot iszS rows (k - (t + 1)) k with
      | none => true
      | some s => decide (at2 rows s (k - (t + 1)) = 1) && (((List.range k).all fun r => decide (r < k - (t + 1)) || (decide (r = s) || decide (at2 rows r (k - (t + 1)) = 0))) && detS k t (swapR rows (k - (t + 1)) s)))
theorem find_congr {α : Type} {p q : α → Bool} : ∀ {l : List α}, (∀ x ∈ l, p x = q x) → l.find? p = l.find? q
  | [], _ => rfl
  | a :: l, h => by
    rw [List.find?_cons, List.find?_cons, h a (List.mem_cons_self ..), find_congr fun x hx => h x (List.mem_cons_of_mem _ hx)]
theorem spot_ev (ρ : En) {rows : List (List Sym)} {i k : Nat} (hik : i ≤ k) (h : ∀ r, r < k → at2 rows r i = 0 ∨ at2 rows r i = 1) : spot isz (eM ρ rows) i k = spot iszS rows i k := by
  unfold spot
  refine find_congr fun r hr => ?_
  obtain ⟨t, ht, rfl⟩ := List.mem_map.mp hr
  have ht := List.mem_range.mp ht
  rw [at2_ev]
  rcases h (i + t) (by omega) with e | e
  · rw [e, ev_zero]; decide
  · rw [e, ev_one]; decide
theorem detS_ok {ρ : En} (g : Gd ρ) (k : Nat) : ∀ (t : Nat) (rows : List (List Sym)) (found : Sym), t ≤ k → detS k t rows = true → DetOk k t (eM ρ rows) ∧ detT isz k t (eM ρ rows) (ev ρ found) = ev ρ (detT iszS k t rows found)
  | 0, _, _, _, _ => ⟨trivial, rfl⟩
  | t + 1, rows, found, hk, h => by
    unfold detS at h
    obtain ⟨h1, h2⟩ := Bool.and_eq_true_iff.mp h
    have sm : ∀ r, r < k → ∀ c, c < k → Sm (at2 (eM ρ rows) r c) := fun r hr c hc => by
      rw [at2_ev]
      exact okS_sm g (List.all_eq_true.mp (List.all_eq_true.mp h1 r (List.mem_range.mpr hr)) c (List.mem_range.mpr hc))
    unfold DetOk detT
    by_cases ht : t = 0
    · rw [if_pos ht, if_pos ht, at2_ev, ← ev_mul]
      exact ⟨⟨sm, fun z => absurd ht z⟩, rfl⟩
    · rw [if_neg ht] at h2 ⊢
      rw [if_neg ht]
      obtain ⟨h3, h4⟩ := Bool.and_eq_true_iff.mp h2
      have e01 : ∀ r, r < k → at2 rows r (k - (t + 1)) = 0 ∨ at2 rows r (k - (t + 1)) = 1 := fun r hr => by
        have := List.all_eq_true.mp h3 r (List.mem_range.mpr hr)
        rcases Bool.or_eq_true_iff.mp this with z | z
        · exact .inl (of_decide_eq_true z)
        · exact .inr (of_decide_eq_true z)
      rw [spot_ev ρ (Nat.sub_le _ _) e01]
      cases hs : spot iszS rows (k - (t + 1)) k with
      | none => exact ⟨⟨sm, fun _ s z => by cases z⟩, rfl⟩
      | some s =>
        rw [hs] at h4
        obtain ⟨h5, h6⟩ := Bool.and_eq_true_iff.mp h4
        obtain ⟨h7, h8⟩ := Bool.and_eq_true_iff.mp h6
        have h5 := of_decide_eq_true h5
        have fe : (if s = k - (t + 1) then ev ρ found else -(ev ρ found)) * at2 (eM ρ rows) s (k - (t + 1)) = ev ρ ((if s = k - (t + 1) then found else -found) * at2 rows s (k - (t + 1))) := by
          rw [at2_ev, ev_mul]
          split
          · rfl
          · rw [ev_neg]
        have ih := detS_ok g k t (swapR rows (k - (t + 1)) s) ((if s = k - (t + 1) then found else -found) * at2 rows s (k - (t + 1))) (by omega) h8
        refine ⟨⟨sm, fun _ s' hs' => ?_⟩, ?_⟩
        · cases hs'
          rw [at2_ev, h5, ev_one, swapR_ev]
          refine ⟨rfl, fun r hr h9 h10 => ?_, ih.1⟩
          have := List.all_eq_true.mp h7 r (List.mem_range.mpr hr)
          rw [at2_ev]
          rcases Bool.or_eq_true_iff.mp this with z | z
          · have := of_decide_eq_true z
            omega
          · rcases Bool.or_eq_true_iff.mp z with z | z
            · exact absurd (of_decide_eq_true z) h10
            · rw [of_decide_eq_true z, ev_zero]
        · show detT isz k t (swapR (eM ρ rows) (k - (t + 1)) s) _ = ev ρ (detT iszS k t (swapR rows (k - (t + 1)) s) _)
          rw [fe, swapR_ev]
          exact ih.2
end Ma
end
section
set_option Elab.async false
set_option linter.all false
set_option maxRecDepth 100000
set_option maxHeartbeats 2000000
set_option exponentiation.threshold 100000
namespace Ma
open Mi My
def cpS (m : List (List Sym)) (size many : Nat) : Bool := decide (m.length = size) && ((List.range size).all (fun r => decide ((m.getD r []).length = size)) && (decide (many ≤ size) && (decide (size ≤ 4) && (subsets size many).all fun l => (subsets size many).all fun r => detS many many (minor m l r))))
theorem cpS_ok {ρ : En} (g : Gd ρ) {m : List (List Sym)} {size many : Nat} (h : cpS m size many = true) : CpOk (eM ρ m) size many ∧ compound isz (eM ρ m) size many = eM ρ (compound iszS m size many) := by
  unfold cpS at h
  simp only [Bool.and_eq_true, decide_eq_true_eq, List.all_eq_true] at h
  obtain ⟨h1, h2, h3, h4, h5⟩ := h
  refine ⟨⟨by rw [List.length_map]; exact h1, fun r hr => by rw [row_ev, List.length_map]; exact h2 r (List.mem_range.mpr hr), h3, h4, fun l hl r hr => ?_⟩, ?_⟩
  · rw [minor_ev]
    exact (detS_ok g many many _ 1 (Nat.le_refl _) (h5 l hl r hr)).1
  · unfold compound
    rw [eM_map]
    refine List.map_congr_left fun l hl => ?_
    rw [eL_map]
    refine List.map_congr_left fun r hr => ?_
    unfold det
    rw [minor_ev, ← ev_one ρ]
    exact (detS_ok g many many _ 1 (Nat.le_refl _) (h5 l hl r hr)).2
def cmB (p : Nat × Nat) : Bool := cpS (companion (pS p.1) p.1) p.1 p.2
theorem cm_all : pairs.all cmB = true := by decide +kernel
end Ma
end
section
set_option Elab.async false
set_option linter.all false
set_option maxRecDepth 100000
set_option maxHeartbeats 2000000
set_option exponentiation.threshold 100000
namespace Ma
open Mi My
def bagS (l : List Sym) : Bool := decide (0 < l.length) && (decide (l.length ≤ 8) && (decide (at0 l (l.length - 1) = 1) && l.all fun p => okG 1 12 (2 ^ 60) p && decide (p.l.length ≤ 1000)))
theorem bagS_ok {ρ : En} (g : Gd ρ) {l : List Sym} (h : bagS l = true) : BagOk (eL ρ l) := by
  unfold bagS at h
  simp only [Bool.and_eq_true, decide_eq_true_eq, List.all_eq_true] at h
  obtain ⟨h1, h2, h3, h4⟩ := h
  refine bagOk_of (N := 1 * 16 ^ 12) (A := 1000 * (2 ^ 60 * 2 ^ (20 * 12))) (by rw [List.length_map]; exact h1) (by rw [List.length_map]; exact h2) (by rw [List.length_map, at0_ev, h3, ev_one]) (fun x hx => ?_) (by decide +kernel) (by decide +kernel) (by decide +kernel)
  obtain ⟨p, hp, rfl⟩ := List.mem_map.mp hx
  obtain ⟨h5, h6⟩ := h4 p hp
  exact (ev_g g h5).mono (Nat.mul_le_mul_right _ h6)
def bgB (p : Nat × Nat) : Bool := bagS (addChoices (pS p.1) p.1 p.2) && bagS (mulChoices (pS p.1) p.1 p.2)
theorem bg_all : pairs.all bgB = true := by decide +kernel
theorem bg_self : [0, 1, 2, 3, 4].all (fun n => bagS (pS n)) = true := by decide +kernel
theorem pair_mem : ∀ n many : Nat, n ≤ 4 → 1 ≤ many → many ≤ n → (n, many) ∈ pairs := fun n many h1 h2 h3 => by
  have : ∀ n ∈ List.range 5, ∀ many ∈ List.range 5, 1 ≤ many → many ≤ n → (n, many) ∈ pairs := by decide
  exact this n (List.mem_range.mpr (by omega)) many (List.mem_range.mpr (by omega)) h2 h3
/-- d is the letters' polynomial -/
theorem as_letters {d : List Rat} (h : PolyOk 46656 d) : ∃ ρ, Gd ρ ∧ ∃ n, n ≤ 4 ∧ d.length = n + 1 ∧ d = eL ρ (pS n) := by
  have gw : ∀ k, G 16 (2 ^ 20) (at0 d k) := fun k => by
    obtain ⟨a, e, l⟩ := h.w k
    exact ⟨a, e, Nat.le_trans l (by decide)⟩
  have one : ∀ ρ, ev ρ 1 = 1 := ev_one
  have vx : ∀ ρ : En, ev ρ vX = ρ.x := fun ρ => by
    show 1 * (ρ.x ^ 1 * ρ.y ^ 0 * (ρ.z ^ 0 * ρ.w ^ 0)) + 0 = ρ.x
    simp only [Rat.pow_zero]; grind
  have vy : ∀ ρ : En, ev ρ vY = ρ.y := fun ρ => by
    show 1 * (ρ.x ^ 0 * ρ.y ^ 1 * (ρ.z ^ 0 * ρ.w ^ 0)) + 0 = ρ.y
    simp only [Rat.pow_zero]; grind
  have vz : ∀ ρ : En, ev ρ vZ = ρ.z := fun ρ => by
    show 1 * (ρ.x ^ 0 * ρ.y ^ 0 * (ρ.z ^ 1 * ρ.w ^ 0)) + 0 = ρ.z
    simp only [Rat.pow_zero]; grind
  have vw : ∀ ρ : En, ev ρ vW = ρ.w := fun ρ => by
    show 1 * (ρ.x ^ 0 * ρ.y ^ 0 * (ρ.z ^ 0 * ρ.w ^ 1)) + 0 = ρ.w
    simp only [Rat.pow_zero]; grind
  refine ⟨⟨at0 d 0, at0 d 1, at0 d 2, at0 d 3⟩, ⟨gw 0, gw 1, gw 2, gw 3⟩, d.length - 1, by have := h.le; omega, by have := h.ne; omega, ?_⟩
  have h1 := h.ne
  have h2 := h.le
  have h3 := h.last
  generalize hρ : (⟨at0 d 0, at0 d 1, at0 d 2, at0 d 3⟩ : En) = ρ
  match d, h1, h2 with
  | [a], _, _ =>
    have e : a = 1 := h3
    subst e
    show [1] = [ev ρ 1]
    rw [one]
  | [a, b], _, _ =>
    have e : b = 1 := h3
    subst e
    show [a, 1] = [ev ρ vX, ev ρ 1]
    rw [one, vx, ← hρ]; rfl
  | [a, b, c], _, _ =>
    have e : c = 1 := h3
    subst e
    show [a, b, 1] = [ev ρ vX, ev ρ vY, ev ρ 1]
    rw [one, vx, vy, ← hρ]; rfl
  | [a, b, c, f], _, _ =>
    have e : f = 1 := h3
    subst e
    show [a, b, c, 1] = [ev ρ vX, ev ρ vY, ev ρ vZ, ev ρ 1]
    rw [one, vx, vy, vz, ← hρ]; rfl
  | [a, b, c, f, k], _, _ =>
    have e : k = 1 := h3
    subst e
    show [a, b, c, f, 1] = [ev ρ vX, ev ρ vY, ev ρ vZ, ev ρ vW, ev ρ 1]
    rw [one, vx, vy, vz, vw, ← hρ]; rfl
  | _ :: _ :: _ :: _ :: _ :: _ :: _, _, h => simp at h
end Ma
end
section
set_option Elab.async false
set_option linter.all false
set_option maxRecDepth 100000
set_option maxHeartbeats 2000000
set_option exponentiation.threshold 100000
namespace Ma
open Mi My
theorem all_at {f : Nat × Nat → Bool} (h : pairs.all f = true) {n many : Nat} (hp : (n, many) ∈ pairs) : f (n, many) = true := List.all_eq_true.mp h _ hp
theorem lawMath : LawMath := by
  intro d hd
  obtain ⟨ρ, g, n0, hn4, hlen, rfl⟩ := as_letters hd
  have bag : BagOk (eL ρ (pS n0)) := bagS_ok g (List.all_eq_true.mp bg_self n0 (by
    have : ∀ n ∈ List.range 5, n ∈ [0, 1, 2, 3, 4] := by decide
    exact this n0 (List.mem_range.mpr (by omega))))
  refine ⟨bag, fun n many hl h1 h4 => ?_⟩
  obtain rfl : n = n0 := by omega
  by_cases hm : n < many
  · have e1 : ∀ b, csR b (eL ρ (pS n)) n many = [1] := fun b => by unfold csR; rw [if_pos hm]
    have e2 : ∀ b, cpR b (eL ρ (pS n)) n many = [1] := fun b => by unfold cpR; rw [if_pos hm]
    have mk1 : ∀ b, CsOk b (eL ρ (pS n)) n many := fun b => ⟨bag, hl, hn4, h1, h4, fun z => by omega, fun z => by omega, by rw [e1]; exact bagOk_one⟩
    have mk2 : ∀ b, CpOk' b (eL ρ (pS n)) n many := fun b => ⟨bag, hl, hn4, h1, h4, fun z => by omega, fun z => by omega, by rw [e2]; exact bagOk_one⟩
    refine ⟨mk1 _, mk1 _, mk2 _, mk2 _, by rw [e1, e1], by rw [e2, e2], fun z => ?_⟩
    obtain rfl : n = 0 := by omega
    have e : eL ρ (pS 0) = [1] := by
      show [ev ρ 1] = [1]
      rw [ev_one]
    rw [e1, e2, e]
    exact ⟨rfl, rfl⟩
  · have hp := pair_mem n many hn4 h1 (by omega)
    have eq := all_at eq_all hp
    unfold eqB at eq
    simp only [Bool.and_eq_true, decide_eq_true_eq] at eq
    obtain ⟨q1, q2⟩ := eq
    have bg := all_at bg_all hp
    unfold bgB at bg
    obtain ⟨b1, b2⟩ := Bool.and_eq_true_iff.mp bg
    have ac := AcS.ok g (of_decide_eq_true (all_at ac_all hp))
    have mc := McS.ok g (of_decide_eq_true (all_at mc_all hp))
    have dv := DvS.ok g (of_decide_eq_true (all_at dv_all hp))
    have c1 := ChS.ok g (of_decide_eq_true (all_at cs_all hp))
    have c2 := ChS.ok g (of_decide_eq_true (all_at cp_all hp))
    obtain ⟨cm, ec⟩ := cpS_ok g (all_at cm_all hp)
    have eS : csR true (eL ρ (pS n)) n many = eL ρ (addChoices (pS n) n many) := by unfold csR; rw [if_neg hm, if_pos rfl, addChoices_ev]
    have eP : cpR true (eL ρ (pS n)) n many = eL ρ (mulChoices (pS n) n many) := by unfold cpR; rw [if_neg hm, if_pos rfl, mulChoices_ev]
    have eS2 : csR false (eL ρ (pS n)) n many = eL ρ (addChoices (pS n) n many) := by
      unfold csR
      rw [if_neg hm, if_neg (fun z => nomatch z), sumsMat_ev]
      exact congrArg (eL ρ) q1
    have eP2 : cpR false (eL ρ (pS n)) n many = eL ρ (mulChoices (pS n) n many) := by
      unfold cpR
      rw [if_neg hm, if_neg (fun z => nomatch z)]
      unfold mulMat
      rw [companion_ev, ec, charPoly_ev]
      exact congrArg (eL ρ) q2
    have bS := bagS_ok g b1
    have bP := bagS_ok g b2
    have cv : DvOk (companion (eL ρ (pS n)) n) n many ∧ ChOk (derivation (companion (eL ρ (pS n)) n) n many) (subsets n many).length := by
      rw [companion_ev, derivation_ev]
      exact ⟨dv, c1⟩
    have cw : CpOk (companion (eL ρ (pS n)) n) n many ∧ ChOk (compound isz (companion (eL ρ (pS n)) n) n many) (subsets n many).length := by
      rw [companion_ev, ec]
      exact ⟨cm, c2⟩
    refine ⟨⟨bag, hl, hn4, h1, h4, fun _ _ => ac, fun _ _ => cv, by rw [eS]; exact bS⟩, ⟨bag, hl, hn4, h1, h4, fun _ _ => ac, fun _ _ => cv, by rw [eS2]; exact bS⟩, ⟨bag, hl, hn4, h1, h4, fun _ _ => mc, fun _ _ => cw, by rw [eP]; exact bP⟩, ⟨bag, hl, hn4, h1, h4, fun _ _ => mc, fun _ _ => cw, by rw [eP2]; exact bP⟩, by rw [eS, eS2], by rw [eP, eP2], fun z => ?_⟩
    subst z
    have o : decide (addChoices (pS n) n 1 = pS n) && decide (mulChoices (pS n) n 1 = pS n) := List.all_eq_true.mp one_all n (by
      have : ∀ n ∈ List.range 5, 1 ≤ n → n ∈ [1, 2, 3, 4] := by decide
      exact this n (List.mem_range.mpr (by omega)) (by omega))
    simp only [Bool.and_eq_true, decide_eq_true_eq] at o
    rw [eS, eP, o.1, o.2]
    exact ⟨rfl, rfl⟩
end Ma
end
theorem PySem.Challenge.cw_rootbags_k21_whole_methods_agree_on_choi_holds : PySem.Challenge.rw_rootbags_k21_whole_methods_agree_on_choi.Holds :=
  My.holds_of Ma.lawMath
