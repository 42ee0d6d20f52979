import PyProof.Rows.All
import Wide.All
import OpenK.AllK
import Wide.FinOn
import HandS.ForMost
import HandS.Exc
import HandS.ExcOwn
import HandS.WordsExc
import HandS.TryOnly
import HandS.ExcIs
import HandS.Codes
import HandS.IsInst
import HandS.Wide
import PySem.Challenge.RW_formkeep_k91_texts_of_no_value
import HandS.ReplaceLit
import HandS.ReplaceList
import HandS.Conv
import HandS.Iter
import HandS.Keys
import PyProof.StrReplace2
import PyProof.ToksMono
/-! plain mathematics: the texts of values, read and shown, over lists of code points. -/
namespace K91
inductive PV where
  | non | int (i : Int) | str (s : List Nat) | lst (l : List PV) | tup (i : Int) (v : PV) | dct (kvs : List (List Nat × PV))

/-- what a reading comes to: a value, NoText, or nothing that is told here -/
inductive R (α : Type) where
  | ok (a : α) | no | bad

def R.map {α β : Type} (f : α → β) : R α → R β
  | .ok a => .ok (f a)
  | .no => .no
  | .bad => .bad

def skipB : List Nat → List Nat
  | [] => []
  | c :: r => if c = 32 then skipB r else c :: r
def sees (c : Nat) (l : List Nat) : Bool × List Nat :=
  match skipB l with
  | [] => (false, [])
  | x :: r => if x = c then (true, r) else (false, x :: r)
def isFig (c : Nat) : Bool := decide (48 ≤ c) && decide (c ≤ 57)
def isLet (c : Nat) : Bool := decide (97 ≤ c) && decide (c ≤ 122)
def headW (p : Nat → Bool) : List Nat → List Nat
  | [] => []
  | c :: r => if p c then c :: headW p r else []
def tailW (p : Nat → Bool) : List Nat → List Nat
  | [] => []
  | c :: r => if p c then tailW p r else c :: r
def numOf (l : List Nat) : Int := ((l.foldl (fun acc c => acc * 10 + (c - 48)) 0 : Nat) : Int)
def numberHere (l : List Nat) : R (Int × List Nat) :=
  let b := (sees 45 l).1
  let l1 := (sees 45 l).2
  let l2 := skipB l1
  let figs := headW isFig l2
  if (b = true ∧ l2.length ≠ l1.length) ∨ figs.length < 1 ∨ 12 < figs.length then .no
  else if figs.head? = some 48 ∧ (figs ≠ [48] ∨ b = true) then .no
  else .ok (if b then 0 - numOf figs else numOf figs, tailW isFig l2)
def quotedHere (acc : List Nat) : List Nat → R (List Nat × List Nat)
  | [] => .no
  | c :: r =>
    if c = 34 then .ok (acc, r)
    else if c = 92 then
      match r with
      | [] => .no
      | d :: r' => if d = 34 ∨ d = 92 then quotedHere (acc ++ [d]) r' else .no
    else if 32 ≤ c ∧ c ≤ 126 then quotedHere (acc ++ [c]) r else .no
theorem quo34 (acc r : List Nat) : quotedHere acc (34 :: r) = .ok (acc, r) := by
  rw [quotedHere.eq_def]
  rfl
theorem quo92n (acc : List Nat) : quotedHere acc [92] = .no := by
  rw [quotedHere.eq_def]
  rfl
theorem quo92 (acc : List Nat) (d : Nat) (r : List Nat) : quotedHere acc (92 :: d :: r) = if d = 34 ∨ d = 92 then quotedHere (acc ++ [d]) r else .no := by
  conv => lhs; rw [quotedHere.eq_def]
  rfl
theorem quoc (acc : List Nat) (c : Nat) (r : List Nat) (h1 : c ≠ 34) (h2 : c ≠ 92) : quotedHere acc (c :: r) = if 32 ≤ c ∧ c ≤ 126 then quotedHere (acc ++ [c]) r else .no := by
  conv => lhs; rw [quotedHere.eq_def]
  simp only [if_neg h1, if_neg h2]
def nameHere (l : List Nat) : R (List Nat × List Nat) :=
  let l2 := skipB l
  let n := headW isLet l2
  if n.length < 1 ∨ 8 < n.length then .no else .ok (n, tailW isLet l2)
def wants (c : Nat) (l : List Nat) : R (List Nat) := if (sees c l).1 then .ok (sees c l).2 else .no
section
variable (val : List Nat → R (PV × List Nat))
def moreItems : Nat → List PV → List Nat → R (List PV × List Nat)
  | 0, _, _ => .bad
  | n + 1, acc, l =>
    if (sees 44 l).1 then
      match val (sees 44 l).2 with
      | .ok (v, r') => moreItems n (acc ++ [v]) r'
      | .no => .no
      | .bad => .bad
    else .ok (acc, (sees 44 l).2)
theorem moreItems_succ (n : Nat) (acc : List PV) (l : List Nat) : moreItems val (n + 1) acc l =
    if (sees 44 l).1 then
      match val (sees 44 l).2 with
      | .ok (v, r') => moreItems val n (acc ++ [v]) r'
      | .no => .no
      | .bad => .bad
    else .ok (acc, (sees 44 l).2) := rfl
def endList : R (List PV × List Nat) → R (PV × List Nat)
  | .ok (vs, r2) => if (sees 93 r2).1 then .ok (.lst vs, (sees 93 r2).2) else .no
  | .no => .no
  | .bad => .bad
def listHere (l : List Nat) : R (PV × List Nat) :=
  if (sees 93 l).1 then .ok (.lst [], (sees 93 l).2) else
    match val (sees 93 l).2 with
    | .ok (v, r1) => endList (moreItems val (r1.length + 1) [v] r1)
    | .no => .no
    | .bad => .bad
def moreKeys : Nat → List (List Nat × PV) → List Nat → R (List (List Nat × PV) × List Nat)
  | 0, _, _ => .bad
  | n + 1, acc, l =>
    match nameHere l with
    | .ok (x, r1) =>
      if x ∈ acc.map (·.1) then .no else
      if (sees 58 r1).1 then
        match val (sees 58 r1).2 with
        | .ok (v, r3) => if (sees 44 r3).1 then moreKeys n (acc ++ [(x, v)]) (sees 44 r3).2 else .ok (acc ++ [(x, v)], (sees 44 r3).2)
        | .no => .no
        | .bad => .bad
      else .no
    | .no => .no
    | .bad => .bad
theorem moreKeys_succ (n : Nat) (acc : List (List Nat × PV)) (l : List Nat) : moreKeys val (n + 1) acc l =
    match nameHere l with
    | .ok (x, r1) =>
      if x ∈ acc.map (·.1) then .no else
      if (sees 58 r1).1 then
        match val (sees 58 r1).2 with
        | .ok (v, r3) => if (sees 44 r3).1 then moreKeys val n (acc ++ [(x, v)]) (sees 44 r3).2 else .ok (acc ++ [(x, v)], (sees 44 r3).2)
        | .no => .no
        | .bad => .bad
      else .no
    | .no => .no
    | .bad => .bad := rfl
def endDict : R (List (List Nat × PV) × List Nat) → R (PV × List Nat)
  | .ok (kvs, r2) => if (sees 125 r2).1 then .ok (.dct kvs, (sees 125 r2).2) else .no
  | .no => .no
  | .bad => .bad
def dictHere (l : List Nat) : R (PV × List Nat) :=
  if (sees 125 l).1 then .ok (.dct [], (sees 125 l).2) else endDict (moreKeys val ((sees 125 l).2.length + 1) [] (sees 125 l).2)
def tupHere (l : List Nat) : R (PV × List Nat) :=
  match numberHere l with
  | .ok (i, r1) =>
    if (sees 44 r1).1 then
      match val (sees 44 r1).2 with
      | .ok (v, r3) => if (sees 41 r3).1 then .ok (.tup i v, (sees 41 r3).2) else .no
      | .no => .no
      | .bad => .bad
    else .no
  | .no => .no
  | .bad => .bad
/-- none of the brackets: what follows them -/
def leafHere (l : List Nat) : R (PV × List Nat) :=
  if (sees 34 l).1 then (quotedHere [] (sees 34 l).2).map fun x => (.str x.1, x.2)
  else if (sees 110 (sees 34 l).2).1 then
    (if (sees 110 (sees 34 l).2).2.take 3 = [111, 110, 101] then .ok (.non, (sees 110 (sees 34 l).2).2.drop 3) else .no)
  else (numberHere (sees 110 (sees 34 l).2).2).map fun x => (.int x.1, x.2)
end
/-- so many brackets may still be opened -/
def valueHere : Nat → List Nat → R (PV × List Nat)
  | left, l =>
    if (sees 91 l).1 then (match left with
      | 0 => .no
      | n + 1 => listHere (valueHere n) (sees 91 l).2)
    else if (sees 123 (sees 91 l).2).1 then (match left with
      | 0 => .no
      | n + 1 => dictHere (valueHere n) (sees 123 (sees 91 l).2).2)
    else if (sees 40 (sees 123 (sees 91 l).2).2).1 then (match left with
      | 0 => .no
      | n + 1 => tupHere (valueHere n) (sees 40 (sees 123 (sees 91 l).2).2).2)
    else leafHere (sees 40 (sees 123 (sees 91 l).2).2).2
def under {α : Type} : Nat → (Nat → R α) → R α
  | 0, _ => .no
  | n + 1, m => m n
theorem valueHere_eq (left : Nat) (l : List Nat) : valueHere left l = (if (sees 91 l).1 then under left fun n => listHere (valueHere n) (sees 91 l).2
    else if (sees 123 (sees 91 l).2).1 then under left fun n => dictHere (valueHere n) (sees 123 (sees 91 l).2).2
    else if (sees 40 (sees 123 (sees 91 l).2).2).1 then under left fun n => tupHere (valueHere n) (sees 40 (sees 123 (sees 91 l).2).2).2
    else leafHere (sees 40 (sees 123 (sees 91 l).2).2).2) := by
  cases left <;> rfl
def valueOf (l : List Nat) : R PV :=
  match valueHere 40 l with
  | .ok (v, r) => if skipB r = [] then .ok v else .no
  | .no => .no
  | .bad => .bad

/-! shown again -/
def esc (c : Nat) (by_ : List Nat) (l : List Nat) : List Nat := l.flatMap fun x => if x = c then by_ else [x]
def digitsN : Nat → Nat → List Nat
  | 0, _ => []
  | f + 1, n => if n < 10 then [48 + n] else digitsN f (n / 10) ++ [48 + n % 10]
end K91

set_option Elab.async false
set_option linter.all false
set_option maxRecDepth 100000
set_option maxHeartbeats 4000000
/-! the readings, a head at a time -/
namespace Hd
open PySem L2
section
variable {σ : L2.St} {H : Hp} {Q : VK} {B : Bool → Hp → Prop} {L : List V → Hp → Prop} {D : Ends} {t u : TT} {s s' : TS} {e e1 e2 e3 : TE} {a : TA} {r r' : R2} {K : PySem.W.Frag} {i : Nat} {v v' : V} {z j : Int} {k : Bool}
theorem var (q : ∃ v, σ[i]? = some (some v) ∧ Q v H) : tVar i σ H Q := q
theorem c (q : Q v H) : tC v σ H Q := q
theorem and_ (q : t σ H fun c H1 => if c = true then u σ H1 B else B false H1) : tAnd t u σ H B := q
theorem or_ (q : t σ H fun c H1 => if c = true then B true H1 else u σ H1 B) : tOr t u σ H B := q
theorem not_ (q : t σ H fun c H1 => B (!c) H1) : tNot t σ H B := q
theorem test (q : e σ H fun x H' => ∃ k, x = .bl k ∧ B k H') : tTest e σ H B := q
theorem tb (q : e σ H fun x H' => ∃ k, x = .bl k ∧ B k H') : tB e σ H B := q
theorem bl {B : Bool → Prop} (q : B k) : ∃ k', V.bl k = .bl k' ∧ B k' := ⟨k, rfl, q⟩
theorem chain (q : e1 σ H fun x H1 => e2 σ H1 fun y H2 => r x y H2 fun z H3 => ∃ k, z = .bl k ∧ (if k = true then e3 σ H3 fun w' H4 => r' y w' H4 Q else Q (.bl false) H3)) : tChain r r' e1 e2 e3 σ H Q := q
theorem op (q : e1 σ H fun x H1 => e2 σ H1 fun y H2 => r x y H2 Q) : tOp r e1 e2 σ H Q := q
theorem un {f : V → Hp → VK → Prop} (q : e1 σ H fun x H1 => f x H1 Q) : tUn f e1 σ H Q := q
theorem cb {f : List V → Hp → VK → Prop} (q : a σ H fun vs H1 => f vs H1 Q) : tCB f a σ H Q := q
theorem nil (q : L [] H) : tNil σ H L := q
theorem cons (q : e σ H fun x H1 => a σ H1 fun xs H2 => L (x :: xs) H2) : tCons e a σ H L := q
theorem if_ (q : t σ H fun c H1 => if c = true then e1 σ H1 Q else e2 σ H1 Q) : tIf t e1 e2 σ H Q := q
theorem seq (q : s { D with nx := s' D } σ H) : tSeq s s' D σ H := q
theorem nx {n : L2.St → Hp → Prop} {rt : VK} {bk ct : L2.St → Hp → Prop} (q : n σ H) : tNext ⟨n, rt, bk, ct⟩ σ H := q
theorem ifs (q : t σ H fun b H1 => if b = true then s D σ H1 else s' D σ H1) : tIfS t s s' D σ H := q
theorem ret {n : L2.St → Hp → Prop} {rt : VK} {bk ct : L2.St → Hp → Prop} (q : e σ H rt) : tRet e ⟨n, rt, bk, ct⟩ σ H := q
theorem drop {n : L2.St → Hp → Prop} {rt : VK} {bk ct : L2.St → Hp → Prop} (q : e σ H fun _ H1 => n σ H1) : tDrop e ⟨n, rt, bk, ct⟩ σ H := q
theorem asg {g : TG} {n : L2.St → Hp → Prop} {rt : VK} {bk ct : L2.St → Hp → Prop} (q : e σ H fun x H1 => g x σ H1 n) : tAsg e g ⟨n, rt, bk, ct⟩ σ H := q
theorem name {n : L2.St → Hp → Prop} (q : n (σ.set i (some v)) H) : gName i v σ H n := q
theorem tup (q : a σ H fun xs H1 => xs.length ≤ sizeLine ∧ ∀ p, H1 p = none → Q (.ref p) (upd H1 p (.tup xs))) : tTup a σ H Q := q
theorem lst (q : a σ H fun xs H1 => xs.length ≤ sizeLine ∧ ∀ p, H1 p = none → Q (.ref p) (upd H1 p (.lst xs))) : tLst a σ H Q := q
theorem int0 {g : Int → Int → V} (q : Q (g z j) H) : rI0 g (.int z) (.int j) H Q := ⟨z, j, rfl, rfl, q⟩
theorem intC {g : Int → Int → V} {C : Int → Int → Prop} (q : Q (g z j) H) (h : C z j) : rI C g (.int z) (.int j) H Q := ⟨z, j, rfl, rfl, h, q⟩
theorem intU {g : Int → V} (q : Q (g z) H) : rU g (.int z) H Q := ⟨z, rfl, q⟩
theorem eqI (q : Q (.bl (decide (z = j))) H) : rEq (.int z) (.int j) H Q := ⟨rfl, by rw [show decide (V.int z = V.int j) = decide (z = j) by simp]; exact q⟩
theorem eqS {x y : Str} (q : Q (.bl (decide (x = y))) H) : rEq (.str x) (.str y) H Q := ⟨rfl, by rw [show decide (V.str x = V.str y) = decide (x = y) by simp]; exact q⟩
theorem eqB {x y : Bool} (q : Q (.bl (decide (x = y))) H) : rEq (.bl x) (.bl y) H Q := ⟨rfl, by rw [show decide (V.bl x = V.bl y) = decide (x = y) by simp]; exact q⟩
theorem neI (q : Q (.bl (!decide (z = j))) H) : rNe (.int z) (.int j) H Q := ⟨rfl, by rw [show decide (V.int z = V.int j) = decide (z = j) by simp]; exact q⟩
theorem neS {x y : Str} (q : Q (.bl (!decide (x = y))) H) : rNe (.str x) (.str y) H Q := ⟨rfl, by rw [show decide (V.str x = V.str y) = decide (x = y) by simp]; exact q⟩
theorem neB {x y : Bool} (q : Q (.bl (!decide (x = y))) H) : rNe (.bl x) (.bl y) H Q := ⟨rfl, by rw [show decide (V.bl x = V.bl y) = decide (x = y) by simp]; exact q⟩
theorem ifT {A B : Prop} (q : A) : if true = true then A else B := by rw [if_pos rfl]; exact q
theorem ifF {A B : Prop} (q : B) : if false = true then A else B := by rw [if_neg Bool.false_ne_true]; exact q
theorem split {b : Bool} {A B : Prop} (h1 : b = true → A) (h2 : b = false → B) : if b = true then A else B := by
  cases b with
  | true => exact ifT (h1 rfl)
  | false => exact ifF (h2 rfl)
theorem add (q : Q (.int (z + j)) H) : rAdd (.int z) (.int j) H Q := ⟨z, j, rfl, rfl, q⟩
theorem sub (q : Q (.int (z - j)) H) : rSub (.int z) (.int j) H Q := ⟨z, j, rfl, rfl, q⟩
theorem augE {rd : R2} {f : Str} {n : L2.St → Hp → Prop} {rt : VK} {bk ct : L2.St → Hp → Prop} (q : e1 σ H fun x H1 => ∃ a C dx fs v, x = .ref a ∧ H1 a = some (.ins C dx fs) ∧ Cls K C ∧ NoAttr K C f ∧ fs.lookup f = some v ∧
  e2 σ H1 fun y H2 => rd v y H2 fun z H3 => ∃ dx' fs', H3 a = some (.ins C dx' fs') ∧ fs'.length < 1000 ∧ n σ (upd H3 a (.ins C dx' (putF f z fs')))) : sFldAug K e1 e2 rd f ⟨n, rt, bk, ct⟩ σ H := q
theorem call {sp : Sp} {dvs : List V} {E : XK} (q : a σ H fun vs H1 => sp (vs ++ dvs) H1 Q E) : tCall sp dvs E a σ H Q := q
theorem callS {sp : Sp} {E : L2.St → XK} (q : a σ H fun vs H1 => sp vs H1 Q (E σ)) : tCallS sp E a σ H Q := q
end
end Hd
namespace Hd
open PySem L2
/-! readings are monotone -/
def MT (t : TT) : Prop := ∀ (σ : L2.St) (H : Hp) (B B' : Bool → Hp → Prop), (∀ b H1, B b H1 → B' b H1) → t σ H B → t σ H B'
def ME (t : TE) : Prop := ∀ (σ : L2.St) (H : Hp) (Q Q' : VK), (∀ v H1, Q v H1 → Q' v H1) → t σ H Q → t σ H Q'
def MA (t : TA) : Prop := ∀ (σ : L2.St) (H : Hp) (Q Q' : List V → Hp → Prop), (∀ v H1, Q v H1 → Q' v H1) → t σ H Q → t σ H Q'
def MR (r : R2) : Prop := ∀ (x y : V) (H : Hp) (Q Q' : VK), (∀ v H1, Q v H1 → Q' v H1) → r x y H Q → r x y H Q'
def MC (r : List V → Hp → VK → Prop) : Prop := ∀ (xs : List V) (H : Hp) (Q Q' : VK), (∀ v H1, Q v H1 → Q' v H1) → r xs H Q → r xs H Q'
theorem mAnd {t u : TT} (ht : MT t) (hu : MT u) : MT (tAnd t u) := fun σ H B B' h => ht σ H _ _ fun b H1 q => by
  cases b with
  | true => exact ifT (hu σ H1 _ _ h (by rw [if_pos rfl] at q; exact q))
  | false => exact ifF (h _ _ (by rw [if_neg Bool.false_ne_true] at q; exact q))
theorem mOr {t u : TT} (ht : MT t) (hu : MT u) : MT (tOr t u) := fun σ H B B' h => ht σ H _ _ fun b H1 q => by
  cases b with
  | true => exact ifT (h _ _ (by rw [if_pos rfl] at q; exact q))
  | false => exact ifF (hu σ H1 _ _ h (by rw [if_neg Bool.false_ne_true] at q; exact q))
theorem mNot {t : TT} (ht : MT t) : MT (tNot t) := fun σ H B B' h => ht σ H _ _ fun b H1 q => h _ _ q
theorem mTest {e : TE} (he : ME e) : MT (tTest e) := fun σ H B B' h => he σ H _ _ fun v H1 ⟨k, e, q⟩ => ⟨k, e, h _ _ q⟩
theorem mTb {e : TE} (he : ME e) : MT (tB e) := fun σ H B B' h => he σ H _ _ fun v H1 ⟨k, e, q⟩ => ⟨k, e, h _ _ q⟩
theorem mVar {i : Nat} : ME (tVar i) := fun σ H Q Q' h ⟨v, e, q⟩ => ⟨v, e, h _ _ q⟩
theorem mC {v : V} : ME (tC v) := fun σ H Q Q' h q => h _ _ q
theorem mOp {r : R2} {a b : TE} (hr : MR r) (ha : ME a) (hb : ME b) : ME (tOp r a b) := fun σ H Q Q' h => ha σ H _ _ fun v H1 => hb σ H1 _ _ fun u H2 => hr v u H2 _ _ h
theorem mFld {K : PySem.W.Frag} {a : TE} {f : Str} (ha : ME a) : ME (tFld K a f) := fun σ H Q Q' h => ha σ H _ _ fun x H1 ⟨p, C, dx, fs, v, e1, e2, e3, e4, e5, q⟩ => ⟨p, C, dx, fs, v, e1, e2, e3, e4, e5, h _ _ q⟩
theorem mCB {r : List V → Hp → VK → Prop} {t : TA} (hr : MC r) (ht : MA t) : ME (tCB r t) := fun σ H Q Q' h => ht σ H _ _ fun vs H1 => hr vs H1 _ _ h
theorem mNil : MA tNil := fun σ H Q Q' h q => h _ _ q
theorem mCons {e : TE} {t : TA} (he : ME e) (ht : MA t) : MA (tCons e t) := fun σ H Q Q' h => he σ H _ _ fun v H1 => ht σ H1 _ _ fun vs H2 q => h _ _ q
theorem mI0 {g : Int → Int → V} : MR (rI0 g) := fun x y H Q Q' h ⟨i, j, e1, e2, q⟩ => ⟨i, j, e1, e2, h _ _ q⟩
theorem mEq : MR rEq := fun x y H Q Q' h ⟨e, q⟩ => ⟨e, h _ _ q⟩
theorem mNe : MR rNe := fun x y H Q Q' h ⟨e, q⟩ => ⟨e, h _ _ q⟩
theorem mLen : MC (fun xs H Q => ∃ z : Str, xs = [V.str z] ∧ z.length ≤ sizeLine ∧ Q (V.int z.length) H) := fun xs H Q Q' h ⟨z, e1, e2, q⟩ => ⟨z, e1, e2, h _ _ q⟩
/-- a test whose answer is known -/
theorem known {t : TT} {σ : L2.St} {H : Hp} {B : Bool → Hp → Prop} (m : MT t) (c : Bool) (h : t σ H fun b H1 => b = c ∧ H1 = H) (q : B c H) : t σ H B :=
  m σ H _ _ (fun b H1 ⟨e1, e2⟩ => by subst e1; subst e2; exact q) h
end Hd
namespace Hd
open PySem L2
section
variable {σ : L2.St} {H : Hp} {Q : VK} {K : PySem.W.Frag} {T : String} {r : V → List V → Hp → VK → Prop} {e : TE} {t : TA}
theorem bm (q : e σ H fun x H1 => tyV K T x H1 ∧ t σ H1 fun xs H2 => r x xs H2 Q) : tBM K T r e t σ H Q := q
theorem bm0 (q : e σ H fun x H1 => tyV K T x H1 ∧ r x [] H1 Q) : tBM0 K T r e σ H Q := q
end
def MM (r : V → List V → Hp → VK → Prop) : Prop := ∀ (x : V) (xs : List V) (H : Hp) (Q Q' : VK), (∀ v H1, Q v H1 → Q' v H1) → r x xs H Q → r x xs H Q'
theorem mBM {K : PySem.W.Frag} {T : String} {r : V → List V → Hp → VK → Prop} {e : TE} {t : TA} (hr : MM r) (he : ME e) (ht : MA t) : ME (tBM K T r e t) := fun σ H Q Q' h => he σ H _ _ fun v H1 ⟨ty, q⟩ => ⟨ty, ht σ H1 _ _ (fun vs H2 => hr v vs H2 _ _ h) q⟩
theorem mStarts : MM (fun x xs H Q => ∃ a b : Str, x = V.str a ∧ xs = [V.str b] ∧ Q (V.bl (Txt.startswith a b)) H) := fun x xs H Q Q' h ⟨a, b, e1, e2, q⟩ => ⟨a, b, e1, e2, h _ _ q⟩
end Hd
namespace Hd
open PySem L2
section
variable {σ : L2.St} {H : Hp} {Q : VK} {O : Option Int → Hp → Prop} {r : V → Option Int → Option Int → Hp → VK → Prop} {e : TE} {l h : TO}
theorem sl (q : e σ H fun x H1 => l σ H1 fun a H2 => h σ H2 fun b H3 => r x a b H3 Q) : tSl r e l h σ H Q := q
theorem part (q : e σ H fun x H1 => ∃ i, x = .int i ∧ O (some i) H1) : tPart e σ H O := q
theorem nopart (q : O none H) : tNoPart σ H O := q
end
end Hd
namespace Hd
theorem ifNT {A B : Prop} (q : B) : if (!true) = true then A else B := ifF q
theorem ifNF {A B : Prop} (q : A) : if (!false) = true then A else B := ifT q
end Hd
namespace Hd
open PySem L2
section
variable {σ : L2.St} {H : Hp} {Q : VK} {td ty tv : TE}
theorem dput {n : L2.St → Hp → Prop} {rt : VK} {bk ct : L2.St → Hp → Prop} (q : tv σ H fun v H1 => td σ H1 fun x H2 => ty σ H2 fun y H3 => ∃ a H4, x = .ref a ∧ DPut H3 a y v H4 ∧ n σ H4) : sDPut td ty tv ⟨n, rt, bk, ct⟩ σ H := q
theorem din (q : ty σ H fun y H1 => td σ H1 fun x H2 => ∃ a o, x = .ref a ∧ DGet H2 a y o ∧ Q (.bl o.isSome) H2) : tDIn ty td σ H Q := q
theorem dget (q : td σ H fun x H1 => ty σ H1 fun y H2 => ∃ a v, x = .ref a ∧ DGet H2 a y (some v) ∧ Q v H2) : tDGet td ty σ H Q := q
theorem dnew (q : ∀ p, H p = none → Q (.ref p) (upd H p (.dK []))) : tDNewK σ H Q := q
end
end Hd
namespace Hd
open PySem L2
theorem make {σ : L2.St} {H : Hp} {Q : VK} {a : TA} {C : Addr} {sp : Sp} {dvs : List V} {E : XK} (q : a σ H fun vs H1 => ∀ x dx, H1 x = none → H1 dx = none → dx ≠ x → sp (.ref x :: (vs ++ dvs)) (upd (upd H1 dx (.own x)) x (.ins C dx [])) (fun v H2 => v = .non ∧ Q (.ref x) H2) E) : tMake C sp dvs E a σ H Q := q
end Hd
namespace Hd
open PySem L2
section
variable {σ : L2.St} {H : Hp} {Q : VK} {K : PySem.W.Frag} {p : Addr} {xs : List V} {i : Int} {v : V}
theorem gsub {to ti : TE} {t : TSet} {n : L2.St → Hp → Prop} (q : to σ H fun o H1 => ti σ H1 fun i H2 => t o i v H2 fun H3 => n σ H3) : gSub to ti t v σ H n := q
theorem ixL (e : SqL K H p xs) (h : atI xs i = some v) (q : Q v H) : rIxL K (.ref p) (.int i) H Q := ⟨p, xs, i, v, rfl, rfl, e, h, q⟩
theorem ixT (e : SqT K H p xs) (h : atI xs i = some v) (q : Q v H) : rIxT K (.ref p) (.int i) H Q := ⟨p, xs, i, v, rfl, rfl, e, h, q⟩
theorem setL {j : Nat} {N : Hp → Prop} (e : H p = some (.lst xs)) (h : ixN xs.length i = some j) (q : N (upd H p (.lst (xs.set j v)))) : rSetL (.ref p) (.int i) v H N := ⟨p, xs, i, j, rfl, rfl, e, h, q⟩
end
end Hd

set_option Elab.async false
set_option linter.all false
set_option maxRecDepth 100000
set_option maxHeartbeats 4000000
namespace K91
open PySem L2
def top (i : Nat) : Stmt := PySem.Challenge.pw_formkeep_k91_texts_of_no_value.main.body.getD i (.Pass ⟨0, 0, 0, 0⟩)
abbrev sInit : Stmt := inClass (top 12) 0
abbrev sSees : Stmt := inClass (top 12) 1
abbrev sWants : Stmt := inClass (top 12) 2
abbrev sRun : Stmt := inClass (top 12) 3

/-! ### the object -/
def flds (T : Str) (n : Nat) : List (Str × V) := [(("text" : Str), V.str T), (("at" : Str), V.int (n : Int))]
theorem kta : ¬ (("text" : Str) = "at") := by decide +kernel
theorem flds_text (T : Str) (n : Nat) : (flds T n).lookup ("text" : Str) = some (.str T) := by
  simp [flds, List.lookup]
theorem flds_at (T : Str) (n : Nat) : (flds T n).lookup ("at" : Str) = some (.int (n : Int)) := by
  have e : (("at" : Str) == ("text" : Str)) = false := by decide +kernel
  simp [flds, List.lookup, e]
theorem flds_no (T : Str) (n : Nat) {m : Str} (h1 : (m == ("text" : Str)) = false) (h2 : (m == ("at" : Str)) = false) : (flds T n).lookup m = none := by
  simp [flds, List.lookup, h1, h2]
theorem flds_put (T : Str) (n m : Nat) : putF "at" (.int (m : Int)) (flds T n) = flds T m := by
  show (if ("text" : Str) = "at" then _ else (("text" : Str), V.str T) :: (if ("at" : Str) = "at" then [(("at" : Str), V.int (m : Int))] else _)) = _
  rw [if_neg kta, if_pos rfl]
  rfl
/-- a Signs of the text T, gone to n -/
def SgAt (C : Addr) (H : Hp) (p : Addr) (T : Str) (n : Nat) : Prop := ∃ dx, H p = some (.ins C dx (flds T n))
/-- all but the object at p is as it was -/
def Kp (p : Addr) (H H' : Hp) : Prop := ∀ b o, H b = some o → b ≠ p → H' b = some o
theorem Kp.refl (p : Addr) (H : Hp) : Kp p H H := fun _ _ h _ => h
theorem Kp.trans {p : Addr} {H H1 H2 : Hp} (a : Kp p H H1) (b : Kp p H1 H2) : Kp p H H2 := fun c o h n => b c o (a c o h n) n
theorem Kp.put (p : Addr) (H : Hp) (o : HO) : Kp p H (upd H p o) := fun b u h n => by rw [upd_ne n]; exact h
theorem Kp.new {p : Addr} {H : Hp} {l : Addr} (h : H l = none) (o : HO) : Kp p H (upd H l o) := fun b u q _ => by rw [upd_ne (ne_of_none q h)]; exact q

structure Txt (K : PySem.W.Frag) (mg : Str → Option Value) (C : Addr) : Prop where
  cl : Cls K C
  nT : NoAttr K C "text"
  nA : NoAttr K C "at"
  len : mg "len" = none

abbrev cds (T : Str) : List Nat := T.cps.toList
theorem len_cds (T : Str) : T.length = (cds T).length := by simp [Str.length]

section
variable {K : PySem.W.Frag} {C p : Addr} {T : Str} {n : Nat} {mg : Str → Option Value} {σ : St} {H : Hp} {i : Nat} {Q : VK}
theorem rd_at (T' : Txt K mg C) (S : SgAt C H p T n) (q : Q (.int (n : Int)) H) (e : σ[i]? = some (some (.ref p)) := by rfl) : tFld K (tVar i) "at" σ H Q := by
  obtain ⟨dx, h⟩ := S
  exact ⟨_, e, p, C, dx, _, _, rfl, h, T'.cl, T'.nA, flds_at _ _, q⟩
theorem aug_at {nxt : L2.St → Hp → Prop} {rt : VK} {bk ct : L2.St → Hp → Prop} {k : Nat} (T' : Txt K mg C) (S : SgAt C H p T n) (e : σ[i]? = some (some (.ref p))) (q : ∀ H', SgAt C H' p T (n + k) → Kp p H H' → nxt σ H') :
    sFldAug K (tVar i) (tC (.int (k : Int))) rAdd "at" ⟨nxt, rt, bk, ct⟩ σ H := by
  obtain ⟨dx, h⟩ := S
  refine ⟨_, e, p, C, dx, _, _, rfl, h, T'.cl, T'.nA, flds_at _ _, _, _, rfl, rfl, dx, _, h, (by show 2 < 1000; decide), ?_⟩
  have z : putF "at" (.int ((n : Int) + (k : Int))) (flds T n) = flds T (n + k) := flds_put T n (n + k)
  rw [z]
  exact q _ ⟨dx, upd_same⟩ (Kp.put _ _ _)
theorem rd_text (T' : Txt K mg C) (S : SgAt C H p T n) (q : Q (.str T) H) (e : σ[i]? = some (some (.ref p)) := by rfl) : tFld K (tVar i) "text" σ H Q := by
  obtain ⟨dx, h⟩ := S
  exact ⟨_, e, p, C, dx, _, _, rfl, h, T'.cl, T'.nT, flds_text _ _, q⟩
end

/-! ### lists of codes -/
theorem item1 {T : Str} {n : Nat} (h : n < (cds T).length) (hT : T.length ≤ 2000) : (0 : Int) ≤ (n : Int) ∧ (n : Int) < 2 ^ 63 ∧ (n : Int) < T.length ∧ T.cps[((n : Int)).toNat]? = some (cds T)[n] := by
  have h' : n < T.length := by rw [len_cds]; exact h
  refine ⟨by omega, by omega, by omega, ?_⟩
  have h2 : n < T.cps.size := h'
  rw [Int.toNat_natCast, Array.getElem?_eq_getElem h2]
  simp
theorem drop_cons {l : List Nat} {n : Nat} (h : n < l.length) : l.drop n = l[n] :: l.drop (n + 1) := List.drop_eq_getElem_cons h
theorem cps_get {T : Str} {n : Nat} (h : n < (cds T).length) : T.cps[n]? = some (cds T)[n] := by
  have h' : n < T.cps.size := by simpa using h
  rw [Array.getElem?_eq_getElem h']
  simp
theorem str1 (c d : Nat) : (V.str (⟨#[c]⟩ : Str) = V.str ⟨#[d]⟩) ↔ c = d := by
  constructor
  · intro h; injection h with h; injection h with h; simpa using h
  · intro h; rw [h]

/-- sees, of a sign's codes -/
def seesC (c : List Nat) (l : List Nat) : Bool × List Nat :=
  match skipB l with
  | [] => (false, [])
  | x :: r => if c = [x] then (true, r) else (false, x :: r)
theorem seesC_one (c : Nat) (l : List Nat) : seesC [c] l = sees c l := by
  unfold seesC sees
  cases skipB l with
  | nil => rfl
  | cons x r =>
    by_cases h : x = c
    · simp [h]
    · simp [h, Ne.symm h]
theorem seesC_nil (l : List Nat) : seesC [] l = (false, skipB l) := by
  unfold seesC
  cases skipB l with
  | nil => rfl
  | cons x r => simp
theorem skipB_len : ∀ l : List Nat, (skipB l).length ≤ l.length
  | [] => Nat.le_refl _
  | c :: r => by
    unfold skipB
    split
    · exact Nat.le_succ_of_le (skipB_len r)
    · exact Nat.le_refl _
/-- what is left of l begins at the place m -/
def Left (l : List Nat) (m : Nat) (r : List Nat) : Prop := m ≤ l.length ∧ l.drop m = r
theorem Left.len {l r : List Nat} {m : Nat} (h : Left l m r) : m + r.length = l.length := by
  obtain ⟨h1, rfl⟩ := h
  rw [List.length_drop]
  omega

/-- a while by a measure that the word tells, and what holds behind it -/
theorem while_X {c : TT} {tb : TS} {D : Ends} {σ : L2.St} {H : Hp} (W : Nat → L2.St → Hp → Prop) (Ex : L2.St → Hp → Prop) (m : Nat) (h0 : W m σ H)
    (hs : (∀ σ H, Ex σ H → D.nx σ H) → ∀ m σ H, W m σ H → c σ H fun b H1 => if b = true then ∃ N : L2.St → Hp → Prop, (∀ σ' H', N σ' H' → ∃ m', m' < m ∧ W m' σ' H') ∧ tb { D with nx := N, ct := N, bk := D.nx } σ H1 else D.nx σ H1)
    (hex : ∀ σ H, Ex σ H → D.nx σ H) : tWhile c tb D σ H := ⟨W, ⟨m, h0⟩, hs hex⟩

/-- sees(self, sign) -/
def spSees (C : Addr) : Sp := fun vs H Q _ => ∃ (p : Addr) (T : Str) (n : Nat) (c : List Nat), vs = [.ref p, .str ⟨c.toArray⟩] ∧ c.length ≤ 1 ∧ SgAt C H p T n ∧ n ≤ (cds T).length ∧ T.length ≤ 2000 ∧
  ∀ (n' : Nat) (H' : Hp), Left (cds T) n' (seesC c ((cds T).drop n)).2 → SgAt C H' p T n' → Kp p H H' → Q (.bl (seesC c ((cds T).drop n)).1) H'

local macro_rules | `(tactic| walk_at "s") => `(tactic| (with_reducible first
  | refine Hd.and_ ?_ | refine Hd.or_ ?_ | refine Hd.not_ ?_ | refine Hd.test ?_ | refine Hd.tb ?_ | refine Hd.bl ?_ | refine Hd.chain ?_ | refine Hd.op ?_ | refine Hd.un ?_
  | refine Hd.cb ?_ | refine Hd.nil ?_ | refine Hd.cons ?_ | refine Hd.if_ ?_ | refine Hd.seq ?_ | refine Hd.nx ?_ | refine Hd.ifs ?_ | refine Hd.ret ?_ | refine Hd.drop ?_
  | refine Hd.asg ?_ | refine Hd.name ?_ | refine Hd.tup ?_ | refine Hd.lst ?_ | refine Hd.int0 ?_ | refine Hd.intU ?_ | refine Hd.eqI ?_ | refine Hd.eqS ?_ | refine Hd.eqB ?_ | refine Hd.neI ?_ | refine Hd.neS ?_ | refine Hd.neB ?_
  | refine Hd.add ?_ | refine Hd.sub ?_ | refine Hd.call ?_ | refine Hd.callS ?_ | refine Hd.c ?_ | refine Hd.ifT ?_ | refine Hd.ifF ?_))
local macro_rules | `(tactic| walk_at "v") => `(tactic| (with_reducible refine Hd.var ?_; refine ⟨_, rfl, ?_⟩))
local macro_rules | `(tactic| walk_at "ss") => `(tactic| (repeat first | walk_at "s" | walk_at "v"))
section
variable {P : Program} {w : World} {K : PySem.W.Frag} {mg : Str → Option Value} {base : Heap} {f C : Addr} {fd : FuncData}
theorem small {n : Nat} (h : n ≤ 2000) : n ≤ sizeLine := Nat.le_trans h (by decide)
theorem scSees : FnScope ["self", "sign"] ["self", "sign"] (defScope sSees) := ⟨rfl, rfl, rfl, by decide +kernel, rfl, by decide +kernel, by decide +kernel⟩
theorem ok_sees (F : Fun K "sees" "Signs.sees" sSees f fd) (T : Txt K mg C) : FnOk P w K mg base CX0 1 f fd ["self", "sign"] (spSees C) := by
  refine F.ok scSees (fun vs H Q E h => ?_) (fun cdv A outer s H vs Q E hr h => ?_)
  · obtain ⟨p, T', n, c, rfl, _⟩ := h
    rfl
  obtain ⟨p, T', n, c, rfl, hc, S, hn, hT, k⟩ := h
  refine ⟨_, pss_cons (ps_while PassesOwn.never (PW.pt (pw_and (pt_cmpR op_lt (pe_fld (pv 0) rfl) (pe_callB call_len_str (by rfl) T.len PySem.boot_len (pa_cons (pe_fld (pv 0) rfl) pa_nil)) (nomark _))
        (pw_and1 (pt_cmpR op_eq (pe_item_str (pe_fld (pv 0) rfl) (pe_fld (pv 0) rfl) (fun _ _ => rfl)) pe_str (nomark _)))))
      (pss_one (ps_fldaug (pv 0) pe_int in_add)))
    (pss_cons (ps_if (PW.pt (pw_or (pt_cmpR op_eq (pe_fld (pv 0) rfl) (pe_callB call_len_str (by rfl) T.len PySem.boot_len (pa_cons (pe_fld (pv 0) rfl) pa_nil)) (nomark _))
        (pw_or1 (pt_cmpR op_ne (pe_item_str (pe_fld (pv 0) rfl) (pe_fld (pv 0) rfl) (fun _ _ => rfl)) (pv 1) (nomark _))))) (pss_one (ps_ret pe_bl)) pss_nil)
    (pss_cons (ps_fldaug (pv 0) pe_int in_add) (pss_one (ps_ret pe_bl)))), ?_⟩
  have hT2 : (cds T').length ≤ 2000 := by rw [← len_cds]; exact hT
  refine while_X (fun m σ H1 => ∃ j, σ = [some (.ref p), some (.str ⟨c.toArray⟩)] ∧ SgAt C H1 p T' j ∧ Kp p H H1 ∧ j ≤ (cds T').length ∧ skipB ((cds T').drop j) = skipB ((cds T').drop n) ∧ m = (cds T').length - j)
    (fun σ H1 => ∃ j, σ = [some (.ref p), some (.str ⟨c.toArray⟩)] ∧ SgAt C H1 p T' j ∧ Kp p H H1 ∧ j ≤ (cds T').length ∧ skipB ((cds T').drop n) = (cds T').drop j)
    ((cds T').length - n) ⟨n, rfl, S, Kp.refl _ _, hn, rfl, rfl⟩ ?_ ?_
  · rintro hex m σ H1 ⟨j, rfl, S1, k1, hj, e1, rfl⟩
    walk_at "ss"
    refine rd_at T S1 ?_
    walk_at "ss"
    refine rd_text T S1 ?_
    walk_at "ss"
    refine ⟨_, rfl, small hT, ?_⟩
    walk_at "ss"
    rw [len_cds]
    refine Hd.split (fun q1 => ?_) (fun q1 => ?_)
    · have q1' : j < (cds T').length := by simpa using q1
      obtain ⟨f1, f2, f3, f4⟩ := item1 q1' hT
      walk_at "ss"
      refine rd_text T S1 ?_
      walk_at "ss"
      refine rd_at T S1 ?_
      refine ⟨_, _, _, rfl, rfl, f1, f2, f3, f4, ?_⟩
      walk_at "ss"
      refine Hd.split (fun q2 => ?_) (fun q2 => ?_)
      · refine ⟨_, fun _ _ z => z, ?_⟩
        refine aug_at (k := 1) T S1 rfl fun H2 S2 k2 => ?_
        refine ⟨_, ?_, j + 1, rfl, S2, k1.trans k2, q1', ?_, rfl⟩
        · omega
        · rw [← e1, drop_cons q1']
          have e32 : (cds T')[j] = 32 := by
            have z := of_decide_eq_true q2
            have z2 : (⟨#[(cds T')[j]]⟩ : Str) = ⟨#[32]⟩ := z.trans (by decide +kernel)
            injection z2 with z3
            simpa using z3
          rw [e32]
          rfl
      · refine hex _ _ ⟨j, rfl, S1, k1, hj, ?_⟩
        rw [← e1, drop_cons q1']
        have ne : ¬ (cds T')[j] = 32 := by
          intro z
          have z2 := of_decide_eq_false q2
          exact z2 (by rw [z]; decide +kernel)
        unfold skipB
        rw [if_neg ne]
    · walk_at "ss"
      refine hex _ _ ⟨j, rfl, S1, k1, hj, ?_⟩
      have z : ¬ j < (cds T').length := by simpa using q1
      rw [← e1, List.drop_eq_nil_of_le (by omega)]
      rfl
  · rintro σ H1 ⟨j, rfl, S1, k1, hj, e1⟩
    walk_at "ss"
    refine rd_at T S1 ?_
    walk_at "ss"
    refine rd_text T S1 ?_
    walk_at "ss"
    refine ⟨_, rfl, small hT, ?_⟩
    walk_at "ss"
    rw [len_cds]
    refine Hd.split (fun q1 => ?_) (fun q1 => ?_)
    · have q1' : j = (cds T').length := by have z := of_decide_eq_true q1; omega
      walk_at "ss"
      have z : seesC c ((cds T').drop n) = (false, []) := by
        unfold seesC
        rw [e1, List.drop_eq_nil_of_le (by omega)]
      have k' := k j H1
      rw [z] at k'
      exact k' ⟨hj, List.drop_eq_nil_of_le (by omega)⟩ S1 k1
    · have q1' : j < (cds T').length := by have z := of_decide_eq_false q1; omega
      obtain ⟨f1, f2, f3, f4⟩ := item1 q1' hT
      walk_at "ss"
      refine rd_text T S1 ?_
      walk_at "ss"
      refine rd_at T S1 ?_
      refine ⟨_, _, _, rfl, rfl, f1, f2, f3, f4, ?_⟩
      walk_at "ss"
      walk_at "ss"
      have e2 : skipB ((cds T').drop n) = (cds T')[j] :: (cds T').drop (j + 1) := e1.trans (drop_cons q1')
      refine Hd.split (fun q2 => ?_) (fun q2 => ?_)
      · walk_at "ss"
        have ne : ¬ c = [(cds T')[j]] := by
          intro z
          rw [z] at q2
          simp at q2
        have z : seesC c ((cds T').drop n) = (false, (cds T')[j] :: (cds T').drop (j + 1)) := by
          unfold seesC
          rw [e2]
          exact if_neg ne
        have k' := k j H1
        rw [z] at k'
        exact k' ⟨hj, drop_cons q1'⟩ S1 k1
      · walk_at "ss"
        have ne : c = [(cds T')[j]] := by
          have z : decide ((⟨#[(cds T')[j]]⟩ : Str) = ⟨c.toArray⟩) = true := by simpa using q2
          have z2 := of_decide_eq_true z
          injection z2 with z3
          have z4 := congrArg Array.toList z3
          simpa using z4.symm
        refine aug_at (k := 1) T S1 rfl fun H2 S2 k2 => ?_
        walk_at "ss"
        have z : seesC c ((cds T').drop n) = (true, (cds T').drop (j + 1)) := by
          unfold seesC
          rw [e2]
          exact if_pos ne
        have k' := k (j + 1) H2
        rw [z] at k'
        exact k' ⟨q1', rfl⟩ S2 (k1.trans k2)
end
end K91

set_option Elab.async false
set_option linter.all false
set_option maxRecDepth 100000
set_option maxHeartbeats 4000000
namespace K91
open PySem L2
local macro_rules | `(tactic| walk_at "s") => `(tactic| (with_reducible first
  | refine Hd.and_ ?_ | refine Hd.or_ ?_ | refine Hd.not_ ?_ | refine Hd.test ?_ | refine Hd.tb ?_ | refine Hd.bl ?_ | refine Hd.chain ?_ | refine Hd.op ?_ | refine Hd.un ?_
  | refine Hd.cb ?_ | refine Hd.nil ?_ | refine Hd.cons ?_ | refine Hd.if_ ?_ | refine Hd.seq ?_ | refine Hd.nx ?_ | refine Hd.ifs ?_ | refine Hd.ret ?_ | refine Hd.drop ?_
  | refine Hd.asg ?_ | refine Hd.name ?_ | refine Hd.tup ?_ | refine Hd.lst ?_ | refine Hd.int0 ?_ | refine Hd.intU ?_ | refine Hd.eqI ?_ | refine Hd.eqS ?_ | refine Hd.eqB ?_ | refine Hd.neI ?_ | refine Hd.neS ?_ | refine Hd.neB ?_
  | refine Hd.add ?_ | refine Hd.sub ?_ | refine Hd.call ?_ | refine Hd.callS ?_ | refine Hd.ifNT ?_ | refine Hd.ifNF ?_ | refine Hd.dput ?_ | refine Hd.din ?_ | refine Hd.dget ?_ | refine Hd.dnew ?_ | refine Hd.make ?_ | refine Hd.gsub ?_ | refine Hd.bm ?_ | refine Hd.sl ?_ | refine Hd.part ?_ | refine Hd.nopart ?_ | refine Hd.bm0 ?_ | refine Hd.c ?_ | refine Hd.ifT ?_ | refine Hd.ifF ?_))
local macro_rules | `(tactic| walk_at "v") => `(tactic| (with_reducible refine Hd.var ?_; refine ⟨_, rfl, ?_⟩))
local macro_rules | `(tactic| walk_at "ss") => `(tactic| (repeat first | walk_at "s" | walk_at "v"))

local macro_rules | `(tactic| walk_at "t") => `(tactic| (repeat with_reducible first | refine Hd.seq ?_ | refine Hd.nx ?_ | refine Hd.asg ?_ | refine Hd.name ?_ | refine Hd.ifT ?_ | refine Hd.ifF ?_))
local macro_rules | `(tactic| walk_at "m") => `(tactic| (repeat with_reducible first | exact Hd.mVar | exact Hd.mC | exact Hd.mNil | exact Hd.mI0 | exact Hd.mEq | exact Hd.mNe | exact Hd.mLen | exact Hd.mStarts | refine Hd.mBM ?_ ?_ ?_ | refine Hd.mOr ?_ ?_ | refine Hd.mAnd ?_ ?_ | refine Hd.mNot ?_ | refine Hd.mTest ?_ | refine Hd.mTb ?_ | refine Hd.mOp ?_ ?_ ?_ | refine Hd.mFld ?_ | refine Hd.mCB ?_ ?_ | refine Hd.mCons ?_ ?_))

/-- NoText, as the top has made it -/
structure TxtN (K : PySem.W.Frag) (mg : Str → Option Value) (NT : Addr) : Prop where
  gN : mg "NoText" = some (.ref NT)
  xN : PySem.W.excIn K NT [.type "ValueError", .type "Exception", .type "BaseException", .type "object"] "ValueError.__new__" = true
  kN : PySem.W.keepIn K (.ref NT) = true
  bN : PySem.W.subIn K (.ref NT) (.type "BaseException") = some true
  tN : PySem.W.typeIn K (.ref NT) = some (.type "type")

/-- a method of signs: told its result, or refused -/
def Told (C NT : Addr) (p : Addr) (T : Str) (H : Hp) (Q : VK) (E : XK) : R (V × List Nat) → Prop
  | .ok (v, r) => ∀ (n' : Nat) (H' : Hp), Left (cds T) n' r → SgAt C H' p T n' → Kp p H H' → Q v H'
  | .no => ∀ H', Kp p H H' → E (.ref NT) none H'
  | .bad => False

def spInit (C : Addr) : Sp := fun vs H Q _ => ∃ (p dx : Addr) (T : Str), vs = [.ref p, .str T] ∧ H p = some (.ins C dx []) ∧ ∀ H', SgAt C H' p T 0 → Kp p H H' → Q .non H'
/-- wants(self, sign) -/
def spWants (C NT : Addr) : Sp := fun vs H Q E => ∃ (p : Addr) (T : Str) (n : Nat) (c : List Nat), vs = [.ref p, .str ⟨c.toArray⟩] ∧ c.length ≤ 1 ∧ SgAt C H p T n ∧ n ≤ (cds T).length ∧ T.length ≤ 2000 ∧
  Told C NT p T H Q E (if (seesC c ((cds T).drop n)).1 then .ok (.non, (seesC c ((cds T).drop n)).2) else .no)
abbrev inOf (z : Str) (c : Nat) : Bool := decide (c ∈ cds z)
/-- run(self, signs) -/
def spRun (C : Addr) : Sp := fun vs H Q _ => ∃ (p : Addr) (T : Str) (n : Nat) (z : Str), vs = [.ref p, .str z] ∧ SgAt C H p T n ∧ n ≤ (cds T).length ∧ T.length ≤ 2000 ∧
  ∀ (n' : Nat) (H' : Hp), Left (cds T) n' (tailW (inOf z) (skipB ((cds T).drop n))) → SgAt C H' p T n' → Kp p H H' → Q (.str ⟨(headW (inOf z) (skipB ((cds T).drop n))).toArray⟩) H'

theorem rd_meth {C p : Addr} {T : Str} {n i : Nat} {m : Str} {sp : Sp} {dvs : List V} {E : XK} {t : TA} {σ : L2.St} {H : Hp} {Q : VK} (S : SgAt C H p T n) (e : σ[i]? = some (some (.ref p))) (h1 : (m == ("text" : Str)) = false) (h2 : (m == ("at" : Str)) = false)
    (q : t σ H fun vs H2 => sp (.ref p :: (vs ++ dvs)) H2 Q E) : tMeth C m sp dvs E (tVar i) t σ H Q := by
  obtain ⟨dx, h⟩ := S
  exact ⟨_, e, p, dx, _, rfl, h, flds_no _ _ h1 h2, q⟩
section
variable {P : Program} {w : World} {K : PySem.W.Frag} {mg : Str → Option Value} {base : Heap} {f g C NT : Addr} {fd gd : FuncData}
theorem scInit : FnScope ["self", "text"] ["self", "text"] (defScope sInit) := ⟨rfl, rfl, rfl, by decide +kernel, rfl, by decide +kernel, by decide +kernel⟩
theorem ok_init (F : Fun K "__init__" "Signs.__init__" sInit f fd) (T : Txt K mg C) : FnOk P w K mg base CX0 1 f fd ["self", "text"] (spInit C) := by
  refine F.ok scInit (fun vs H Q E h => ?_) (fun cdv A outer s H vs Q E hr h => ?_)
  · obtain ⟨p, dx, T', rfl, _⟩ := h
    rfl
  obtain ⟨p, dx, T', rfl, hp, k⟩ := h
  refine ⟨_, pss_cons (ps_fld (pv 0) (pv 1) rfl) (pss_one (ps_fld (pv 0) pe_int rfl)), ?_⟩
  refine ⟨_, rfl, _, rfl, p, C, dx, [], rfl, hp, T.cl, T.nT, (by show 0 < 1000; decide), _, rfl, p, C, dx, _, rfl, upd_same, T.cl, T.nA, (by show 1 < 1000; decide), ?_⟩
  have z : putF "at" (V.int 0) (putF "text" (V.str T') []) = flds T' 0 := by
    show (if ("text" : Str) = "at" then _ else (("text" : Str), V.str T') :: putF "at" (V.int 0) []) = _
    rw [if_neg kta]
    rfl
  rw [z, upd_upd]
  exact k _ ⟨dx, upd_same⟩ (Kp.put _ _ _)
theorem scWants : FnScope ["self", "sign"] ["self", "sign"] (defScope sWants) := ⟨rfl, rfl, rfl, by decide +kernel, rfl, by decide +kernel, by decide +kernel⟩
theorem ok_wants (F : Fun K "wants" "Signs.wants" sWants f fd) (T : Txt K mg C) (N : TxtN K mg NT) (G : FnOk P w K mg base CX0 1 g gd ["self", "sign"] (spSees C)) (mG : Meth K C "sees" g) (bG : Binds K gd ["self", "sign"] []) :
    FnOk P w K mg base (L2.CX P w) 2 f fd ["self", "sign"] (spWants C NT) := by
  refine F.okX scWants (fun vs H Q E h => ?_) (fun cdv A outer s H vs Q E hr h => ?_)
  · obtain ⟨p, T', n, c, rfl, _⟩ := h
    rfl
  obtain ⟨p, T', n, c, rfl, hc, S, hn, hT, k⟩ := h
  refine ⟨_, pss_one (ps_if (pt_not (pt_val (pe_meth (pv 0) T.cl mG G hr bG .nil pass0 (pa_cons (pv 1) pa_nil)) (by intro _; rfl)))
      (pss_one (ps_raise rfl (takes_of rfl rfl rfl rfl) (pmk_own PySem.F.excBase_ValueError N.xN N.gN N.kN (raises_own N.bN N.tN) rfl))) pss_nil), ?_⟩
  walk_at "ss"
  refine rd_meth S rfl (by decide +kernel) (by decide +kernel) ?_
  walk_at "ss"
  refine ⟨p, T', n, c, rfl, hc, S, hn, hT, fun n' H' l S' k' => ?_⟩
  walk_at "ss"
  cases q : (seesC c ((cds T').drop n)).1 with
  | true =>
    rw [q, if_pos rfl] at k
    walk_at "ss"
    exact k n' H' l S' k'
  | false =>
    rw [q, if_neg Bool.false_ne_true] at k
    walk_at "ss"
    exact k H' k'
theorem cut_nn {T : Str} {n m : Nat} (h : n ≤ m) (h2 : m ≤ (cds T).length) : cutS T (some (n : Int)) (some (m : Int)) = ⟨(((cds T).drop n).take (m - n)).toArray⟩ := by
  have e : T.length = (cds T).length := len_cds T
  unfold cutS
  rw [HT.sIx_nat, HT.sIx_nat, e, Nat.min_eq_left h2, Nat.min_eq_left (Nat.le_trans h h2)]
theorem take_step {l : List Nat} {a b : Nat} (h : a ≤ b) (hb : b < l.length) : (l.drop a).take (b + 1 - a) = (l.drop a).take (b - a) ++ [l[b]] := by
  have e : b + 1 - a = (b - a) + 1 := by omega
  rw [e, List.take_add_one]
  have e2 : (l.drop a)[b - a]? = some l[b] := by
    rw [List.getElem?_drop, show a + (b - a) = b by omega, List.getElem?_eq_getElem hb]
  rw [e2]
  rfl
theorem scRun : FnScope ["self", "signs", "begun"] ["self", "signs"] (defScope sRun) := ⟨rfl, rfl, rfl, by decide +kernel, rfl, by decide +kernel, by decide +kernel⟩
theorem nil_str : (Str.ofString "" : Str) = ⟨([] : List Nat).toArray⟩ := by decide +kernel
theorem ok_run (F : Fun K "run" "Signs.run" sRun f fd) (T : Txt K mg C) (G : FnOk P w K mg base CX0 1 g gd ["self", "sign"] (spSees C)) (mG : Meth K C "sees" g) (bG : Binds K gd ["self", "sign"] []) :
    FnOk P w K mg base CX0 2 f fd ["self", "signs"] (spRun C) := by
  refine F.ok scRun (fun vs H Q E h => ?_) (fun cdv A outer s H vs Q E hr h => ?_)
  · obtain ⟨p, T', n, z, rfl, _⟩ := h
    rfl
  obtain ⟨p, T', n, z, rfl, S, hn, hT, k⟩ := h
  refine ⟨_, pss_cons (ps_expr (pe_meth (pv 0) T.cl mG G hr bG .nil pass0 (pa_cons pe_str pa_nil)))
    (pss_cons (ps_set (i := 2) scRun.nd rfl (Or.inl rfl) (pe_fld (pv 0) rfl))
    (pss_cons (ps_while PassesOwn.never (PW.pt (pw_and (pt_cmpR op_lt (pe_fld (pv 0) rfl) (pe_callB call_len_str (by rfl) T.len PySem.boot_len (pa_cons (pe_fld (pv 0) rfl) pa_nil)) (nomark _))
        (pw_and1 (pt_cmpR op_in_sign (pe_item_str (pe_fld (pv 0) rfl) (pe_fld (pv 0) rfl) (fun _ _ => rfl)) (pv 1) rfl))))
      (pss_one (ps_fldaug (pv 0) pe_int in_add)))
    (pss_one (ps_ret (pe_slice sl_str (pe_fld (pv 0) rfl) (po_some (pv 2)) (po_some (pe_fld (pv 0) rfl))))))), ?_⟩
  walk_at "ss"
  refine rd_meth S rfl (by decide +kernel) (by decide +kernel) ?_
  walk_at "ss"
  rw [nil_str]
  refine ⟨p, T', n, [], rfl, Nat.zero_le 1, S, hn, hT, fun n1 H1 l1 S1 k1 => ?_⟩
  walk_at "ss"
  refine rd_at T S1 ?_
  walk_at "ss"
  have e0 : (cds T').drop n1 = skipB ((cds T').drop n) := by rw [l1.2, seesC_nil]
  refine while_X (fun m σ H2 => ∃ j, σ = [some (.ref p), some (.str z), some (.int (n1 : Int))] ∧ SgAt C H2 p T' j ∧ Kp p H H2 ∧ n1 ≤ j ∧ j ≤ (cds T').length ∧
      headW (inOf z) ((cds T').drop n1) = ((cds T').drop n1).take (j - n1) ++ headW (inOf z) ((cds T').drop j) ∧ tailW (inOf z) ((cds T').drop n1) = tailW (inOf z) ((cds T').drop j) ∧ m = (cds T').length - j)
    (fun σ H2 => ∃ j, σ = [some (.ref p), some (.str z), some (.int (n1 : Int))] ∧ SgAt C H2 p T' j ∧ Kp p H H2 ∧ n1 ≤ j ∧ j ≤ (cds T').length ∧
      headW (inOf z) ((cds T').drop n1) = ((cds T').drop n1).take (j - n1) ∧ tailW (inOf z) ((cds T').drop n1) = (cds T').drop j)
    ((cds T').length - n1) ⟨n1, rfl, S1, k1, Nat.le_refl _, l1.1, ?_, rfl, rfl⟩ ?_ ?_
  · rw [Nat.sub_self]
    rfl
  · rintro hex m σ H2 ⟨j, rfl, S2, k2, hj1, hj, e1, e2, rfl⟩
    walk_at "ss"
    refine rd_at T S2 ?_
    walk_at "ss"
    refine rd_text T S2 ?_
    walk_at "ss"
    refine ⟨_, rfl, small hT, ?_⟩
    walk_at "ss"
    rw [len_cds]
    refine Hd.split (fun q1 => ?_) (fun q1 => ?_)
    · have q1' : j < (cds T').length := by simpa using q1
      obtain ⟨f1, f2, f3, f4⟩ := item1 q1' hT
      walk_at "ss"
      refine rd_text T S2 ?_
      walk_at "ss"
      refine rd_at T S2 ?_
      refine ⟨_, _, _, rfl, rfl, f1, f2, f3, f4, ?_⟩
      walk_at "ss"
      refine ⟨_, _, rfl, rfl, ?_⟩
      walk_at "ss"
      refine Hd.split (fun q2 => ?_) (fun q2 => ?_)
      · refine ⟨_, fun _ _ z => z, ?_⟩
        refine aug_at (k := 1) T S2 rfl fun H3 S3 k3 => ?_
        refine ⟨_, ?_, j + 1, rfl, S3, k2.trans k3, by omega, q1', ?_, ?_, rfl⟩
        · omega
        · rw [e1, take_step hj1 q1', drop_cons q1']
          show _ ++ (if inOf z (cds T')[j] = true then _ else _) = _
          rw [if_pos q2, List.append_assoc]
          rfl
        · rw [e2, drop_cons q1']
          show (if inOf z (cds T')[j] = true then _ else _) = _
          rw [if_pos q2]
      · refine hex _ _ ⟨j, rfl, S2, k2, hj1, hj, ?_, ?_⟩
        · rw [e1, drop_cons q1']
          show _ ++ (if inOf z (cds T')[j] = true then _ else _) = _
          rw [if_neg (by rw [show inOf z (cds T')[j] = false from q2]; exact Bool.false_ne_true), List.append_nil]
        · rw [e2, drop_cons q1']
          show (if inOf z (cds T')[j] = true then _ else _) = _
          rw [if_neg (by rw [show inOf z (cds T')[j] = false from q2]; exact Bool.false_ne_true)]
    · walk_at "ss"
      have z0 : ¬ j < (cds T').length := by simpa using q1
      have z1 : (cds T').drop j = [] := List.drop_eq_nil_of_le (by omega)
      refine hex _ _ ⟨j, rfl, S2, k2, hj1, hj, ?_, ?_⟩
      · rw [e1, z1]
        exact List.append_nil _
      · rw [e2, z1]
        rfl
  · rintro σ H2 ⟨j, rfl, S2, k2, hj1, hj, e1, e2⟩
    walk_at "ss"
    refine rd_text T S2 ?_
    walk_at "ss"
    refine ⟨_, rfl, ?_⟩
    walk_at "ss"
    refine rd_at T S2 ?_
    refine ⟨_, rfl, _, rfl, small hT, ?_⟩
    have k' := k j H2 ⟨hj, by rw [← e0, e2]⟩ S2 k2
    rw [← e0, e1] at k'
    rw [cut_nn hj1 hj]
    exact k'
end
end K91

set_option Elab.async false
set_option linter.all false
set_option maxRecDepth 100000
set_option maxHeartbeats 4000000
namespace K91
open PySem L2
local macro_rules | `(tactic| walk_at "s") => `(tactic| (with_reducible first
  | refine Hd.and_ ?_ | refine Hd.or_ ?_ | refine Hd.not_ ?_ | refine Hd.test ?_ | refine Hd.tb ?_ | refine Hd.bl ?_ | refine Hd.chain ?_ | refine Hd.op ?_ | refine Hd.un ?_
  | refine Hd.cb ?_ | refine Hd.nil ?_ | refine Hd.cons ?_ | refine Hd.if_ ?_ | refine Hd.seq ?_ | refine Hd.nx ?_ | refine Hd.ifs ?_ | refine Hd.ret ?_ | refine Hd.drop ?_
  | refine Hd.asg ?_ | refine Hd.name ?_ | refine Hd.tup ?_ | refine Hd.lst ?_ | refine Hd.int0 ?_ | refine Hd.intU ?_ | refine Hd.eqI ?_ | refine Hd.eqS ?_ | refine Hd.eqB ?_ | refine Hd.neI ?_ | refine Hd.neS ?_ | refine Hd.neB ?_
  | refine Hd.add ?_ | refine Hd.sub ?_ | refine Hd.call ?_ | refine Hd.callS ?_ | refine Hd.ifNT ?_ | refine Hd.ifNF ?_ | refine Hd.dput ?_ | refine Hd.din ?_ | refine Hd.dget ?_ | refine Hd.dnew ?_ | refine Hd.make ?_ | refine Hd.gsub ?_ | refine Hd.bm ?_ | refine Hd.sl ?_ | refine Hd.part ?_ | refine Hd.nopart ?_ | refine Hd.bm0 ?_ | refine Hd.c ?_ | refine Hd.ifT ?_ | refine Hd.ifF ?_))
local macro_rules | `(tactic| walk_at "v") => `(tactic| (with_reducible refine Hd.var ?_; refine ⟨_, rfl, ?_⟩))
local macro_rules | `(tactic| walk_at "ss") => `(tactic| (repeat first | walk_at "s" | walk_at "v"))

local macro_rules | `(tactic| walk_at "t") => `(tactic| (repeat with_reducible first | refine Hd.seq ?_ | refine Hd.nx ?_ | refine Hd.asg ?_ | refine Hd.name ?_ | refine Hd.ifT ?_ | refine Hd.ifF ?_))
local macro_rules | `(tactic| walk_at "m") => `(tactic| (repeat with_reducible first | exact Hd.mVar | exact Hd.mC | exact Hd.mNil | exact Hd.mI0 | exact Hd.mEq | exact Hd.mNe | exact Hd.mLen | exact Hd.mStarts | refine Hd.mBM ?_ ?_ ?_ | refine Hd.mOr ?_ ?_ | refine Hd.mAnd ?_ ?_ | refine Hd.mNot ?_ | refine Hd.mTest ?_ | refine Hd.mTb ?_ | refine Hd.mOp ?_ ?_ ?_ | refine Hd.mFld ?_ | refine Hd.mCB ?_ ?_ | refine Hd.mCons ?_ ?_))

abbrev sNum : Stmt := top 13
abbrev sQuo : Stmt := top 14
abbrev sName : Stmt := top 16
structure TxtG (mg : Str → Option Value) : Prop where
  figs : ∃ t, mg "FIGURES" = some (.str "0123456789" t)
  lets : ∃ t, mg "LETTERS" = some (.str "abcdefghijklmnopqrstuvwxyz" t)
  mf : ∃ t, mg "MOST_FIGURES" = some (.int 12 t)
  ml : ∃ t, mg "MOST_LETTERS" = some (.int 8 t)
  md : ∃ t, mg "MOST_DEEP" = some (.int 40 t)
/-- the methods of Signs, proved -/
structure Mths (P : Program) (w : World) (K : PySem.W.Frag) (mg : Str → Option Value) (base : Heap) (C NT fS fW fR : Addr) (dS dW dR : FuncData) : Prop where
  mS : Meth K C "sees" fS
  mW : Meth K C "wants" fW
  mR : Meth K C "run" fR
  bS : Binds K dS ["self", "sign"] []
  bW : Binds K dW ["self", "sign"] []
  bR : Binds K dR ["self", "signs"] []
  gS : FnOk P w K mg base CX0 1 fS dS ["self", "sign"] (spSees C)
  gW : FnOk P w K mg base (L2.CX P w) 2 fW dW ["self", "sign"] (spWants C NT)
  gR : FnOk P w K mg base CX0 2 fR dR ["self", "signs"] (spRun C)
/-- a def of signs alone -/
def spOf (C NT : Addr) (m : List Nat → R (V × List Nat)) : Sp := fun vs H Q E => ∃ (p : Addr) (T : Str) (n : Nat), vs = [.ref p] ∧ SgAt C H p T n ∧ n ≤ (cds T).length ∧ T.length ≤ 2000 ∧ Told C NT p T H Q E (m ((cds T).drop n))
theorem figs_in : inOf "0123456789" = isFig := by
  funext c
  have e : cds "0123456789" = [48, 49, 50, 51, 52, 53, 54, 55, 56, 57] := by decide +kernel
  show decide (c ∈ cds "0123456789") = _
  rw [e, Bool.eq_iff_iff]
  simp [isFig]
  omega
theorem lets_in : inOf "abcdefghijklmnopqrstuvwxyz" = isLet := by
  funext c
  have e : cds "abcdefghijklmnopqrstuvwxyz" = [97, 98, 99, 100, 101, 102, 103, 104, 105, 106, 107, 108, 109, 110, 111, 112, 113, 114, 115, 116, 117, 118, 119, 120, 121, 122] := by decide +kernel
  show decide (c ∈ cds "abcdefghijklmnopqrstuvwxyz") = _
  rw [e, Bool.eq_iff_iff]
  simp [isLet]
  omega
theorem headW_len (q : Nat → Bool) : ∀ l : List Nat, (headW q l).length + (tailW q l).length = l.length
  | [] => rfl
  | c :: r => by
    have ih := headW_len q r
    unfold headW tailW
    split
    · simp only [List.length_cons]
      omega
    · simp
theorem headW_all (q : Nat → Bool) : ∀ l : List Nat, (headW q l).all q = true
  | [] => rfl
  | c :: r => by
    unfold headW
    split
    · rename_i h
      rw [List.all_cons, h, headW_all q r]
      rfl
    · rfl
theorem Left.of {l : List Nat} {n : Nat} (h : n ≤ l.length) : Left l n (l.drop n) := ⟨h, rfl⟩
theorem starts1 (fg : List Nat) : Txt.startswith ⟨fg.toArray⟩ ⟨#[48]⟩ = decide (fg.head? = some 48) := by
  unfold Txt.startswith Builtin.Str.subAt
  cases fg with
  | nil => rfl
  | cons c r =>
    have e : ((c :: r).toArray.extract 0 1) = #[c] := by simp
    simp [Str.length, e]
    have e2 : ((c :: r).toArray.extract 0 (#[48].size)) = #[c] := e
    first | rfl | (rw [Bool.eq_iff_iff]; simp [e2])
theorem sg48 : (Str.ofString "0") = ⟨([48] : List Nat).toArray⟩ := by decide +kernel
theorem sg45 : (Str.ofString "-") = ⟨([45] : List Nat).toArray⟩ := by decide +kernel
section
variable {P : Program} {w : World} {K : PySem.W.Frag} {mg : Str → Option Value} {base : Heap} {f g C NT fS fW fR : Addr} {fd gd dS dW dR : FuncData}
theorem scNum : FnScope ["signs", "is_below", "begun", "figures"] ["signs"] (defScope sNum) := ⟨rfl, rfl, rfl, by decide +kernel, rfl, by decide +kernel, by decide +kernel⟩
theorem ok_num (F : Fun K "number_here" "number_here" sNum f fd) (T : Txt K mg C) (N : TxtN K mg NT) (G : TxtG mg) (z1 : mg "int" = none) (M : Mths P w K mg base C NT fS fW fR dS dW dR) :
    FnOk P w K mg base (L2.CX P w) 3 f fd ["signs"] (spOf C NT fun l => (numberHere l).map fun x => (.int x.1, x.2)) := by
  refine F.okX scNum (fun vs H Q E h => ?_) (fun cdv A outer s H vs Q E hr h => ?_)
  · obtain ⟨p, T', n, rfl, _⟩ := h
    rfl
  obtain ⟨p, T', n, rfl, S, hn, hT, k⟩ := h
  dsimp only at k
  obtain ⟨t1, g1⟩ := G.figs
  obtain ⟨t2, g2⟩ := G.mf
  refine ⟨_, pss_cons (ps_set (i := 1) scNum.nd rfl (Or.inl rfl) (pe_meth (pv 0) T.cl M.mS M.gS (hr.mono (by decide)) M.bS .nil pass0 (pa_cons pe_str pa_nil)))
    (pss_cons (ps_set (i := 2) scNum.nd rfl (Or.inl rfl) (pe_fld (pv 0) rfl))
    (pss_cons (ps_set (i := 3) scNum.nd rfl (Or.inl rfl) (pe_meth (pv 0) T.cl M.mR M.gR (hr.mono (by decide)) M.bR .nil pass0 (pa_cons (pe_glob (v := .str "0123456789") rfl g1 ⟨_, rfl⟩) pa_nil)))
    (pss_cons (ps_if (PW.pt (pw_or (PW.pt (pw_and (pt_val (pv 1)) (pw_and1 (pt_cmpR op_ne (pe_op op_sub (pe_fld (pv 0) rfl) (pe_callB call_len_str (by rfl) T.len PySem.boot_len (pa_cons (pv 3) pa_nil))) (pv 2) (nomark _)))))
        (pw_or (pt_cmpR op_lt (pe_callB call_len_str (by rfl) T.len PySem.boot_len (pa_cons (pv 3) pa_nil)) pe_int (nomark _))
        (pw_or1 (pt_cmpR op_gt (pe_callB call_len_str (by rfl) T.len PySem.boot_len (pa_cons (pv 3) pa_nil)) (pe_glob (v := .int 12) rfl g2 ⟨_, rfl⟩) (nomark _))))))
      (pss_one (ps_raise rfl (takes_of rfl rfl rfl rfl) (pmk_own PySem.F.excBase_ValueError N.xN N.gN N.kN (raises_own N.bN N.tN) rfl))) pss_nil)
    (pss_cons (ps_if (PW.pt (pw_and (pt_val (pe_bm PySem.F.plainAttrs_str PySem.F.slot_str_startswith PySem.F.type_str_startswith mt_startswith (pv 3) (pa_cons pe_str pa_nil)))
        (pw_and1 (PW.pt (pw_or (pt_cmpR op_ne (pv 3) pe_str (nomark _)) (pw_or1 (pt_val (pv 1))))))))
      (pss_one (ps_raise rfl (takes_of rfl rfl rfl rfl) (pmk_own PySem.F.excBase_ValueError N.xN N.gN N.kN (raises_own N.bN N.tN) rfl))) pss_nil)
    (pss_cons (ps_if (pt_val (pv 1)) (pss_one (ps_ret (pe_op op_sub pe_int (pe_callTy call_int_str (by rfl) z1 (by decide +kernel) (pa_cons (pv 3) pa_nil))))) pss_nil)
    (pss_one (ps_ret (pe_callTy call_int_str (by rfl) z1 (by decide +kernel) (pa_cons (pv 3) pa_nil))))))))), ?_⟩
  walk_at "ss"
  refine rd_meth S rfl (by decide +kernel) (by decide +kernel) ?_
  walk_at "ss"
  refine ⟨p, T', n, [45], congrArg (fun x => [V.ref p, V.str x]) sg45, Nat.le_refl 1, S, hn, hT, fun n1 H1 l1 S1 k1 => ?_⟩
  walk_at "ss"
  refine rd_at T S1 ?_
  walk_at "ss"
  refine rd_meth S1 rfl (by decide +kernel) (by decide +kernel) ?_
  walk_at "ss"
  refine ⟨p, T', n1, _, rfl, S1, l1.1, hT, fun n2 H2 l2 S2 k2 => ?_⟩
  walk_at "t"
  generalize eb : (seesC [45] ((cds T').drop n)).1 = b
  generalize ef : headW (inOf (Str.ofString "0123456789")) (skipB ((cds T').drop n1)) = fg at l2
  have el : (cds T').drop n1 = (sees 45 ((cds T').drop n)).2 := by rw [l1.2, seesC_one]
  have eb' : (sees 45 ((cds T').drop n)).1 = b := by rw [← eb, seesC_one]
  have ef' : headW isFig (skipB ((cds T').drop n1)) = fg := by rw [← figs_in]; exact ef
  have et : tailW (inOf "0123456789") (skipB ((cds T').drop n1)) = tailW isFig (skipB ((cds T').drop n1)) := by rw [figs_in]
  have q1 := l1.len
  have q2 := l2.len
  have q3 := headW_len isFig (skipB ((cds T').drop n1))
  rw [ef'] at q3
  rw [et] at q2
  have q4 := skipB_len ((cds T').drop n1)
  have q5 : ((cds T').drop n1).length = (cds T').length - n1 := List.length_drop
  have l1' := l1.1
  have l2' := l2.1
  have efl : (⟨fg.toArray⟩ : Str).length = fg.length := by simp [Str.length]
  have ft : fg.length ≤ 2000 := by rw [← efl, efl]; rw [len_cds] at hT; omega
  have nh : numberHere ((cds T').drop n) = if (b = true ∧ (skipB ((cds T').drop n1)).length ≠ ((cds T').drop n1).length) ∨ fg.length < 1 ∨ 12 < fg.length then .no
      else if fg.head? = some 48 ∧ (fg ≠ [48] ∨ b = true) then .no
      else .ok (if b then 0 - numOf fg else numOf fg, tailW isFig (skipB ((cds T').drop n1))) := by
    unfold numberHere
    simp only [← el, eb', ef']
  refine Hd.ifs ?_
  refine Hd.known (c := decide ((b = true ∧ (skipB ((cds T').drop n1)).length ≠ ((cds T').drop n1).length) ∨ fg.length < 1 ∨ 12 < fg.length)) ?_ ?_ ?_
  · walk_at "m"
  · walk_at "ss"
    refine Hd.split (fun c1 => ?_) (fun c1 => ?_)
    · walk_at "ss"
      refine rd_at T S2 ?_
      walk_at "ss"
      refine ⟨_, rfl, by rw [efl]; exact small ft, ?_⟩
      walk_at "ss"
      rw [efl]
      refine Hd.split (fun c2 => ?_) (fun c2 => ?_)
      · walk_at "ss"
        refine ⟨(decide_eq_true ?_).symm, rfl⟩
        refine .inl ⟨c1, ?_⟩
        simp at c2
        omega
      · walk_at "ss"
        refine ⟨_, rfl, by rw [efl]; exact small ft, ?_⟩
        walk_at "ss"
        rw [efl]
        simp at c2
        refine Hd.split (fun c3 => ?_) (fun c3 => ?_)
        · simp at c3
          exact ⟨(decide_eq_true (.inr (.inl (by omega)))).symm, rfl⟩
        · walk_at "ss"
          refine ⟨_, rfl, by rw [efl]; exact small ft, ?_⟩
          walk_at "ss"
          rw [efl]
          refine ⟨?_, rfl⟩
          simp at c3
          have z : ((b = true ∧ (skipB ((cds T').drop n1)).length ≠ ((cds T').drop n1).length) ∨ fg.length < 1 ∨ 12 < fg.length) ↔ 12 < fg.length := ⟨fun h => by rcases h with ⟨_, h⟩ | h | h <;> omega, fun h => .inr (.inr h)⟩
          rw [decide_eq_decide, z]
          omega
    · walk_at "ss"
      refine ⟨_, rfl, by rw [efl]; exact small ft, ?_⟩
      walk_at "ss"
      rw [efl]
      refine Hd.split (fun c3 => ?_) (fun c3 => ?_)
      · simp at c3
        exact ⟨(decide_eq_true (.inr (.inl (by omega)))).symm, rfl⟩
      · walk_at "ss"
        refine ⟨_, rfl, by rw [efl]; exact small ft, ?_⟩
        walk_at "ss"
        rw [efl]
        refine ⟨?_, rfl⟩
        simp at c3
        have z : ((b = true ∧ (skipB ((cds T').drop n1)).length ≠ ((cds T').drop n1).length) ∨ fg.length < 1 ∨ 12 < fg.length) ↔ 12 < fg.length := ⟨fun h => by
          rcases h with ⟨h, _⟩ | h | h
          · rw [c1] at h
            cases h
          · omega
          · exact h, fun h => .inr (.inr h)⟩
        rw [decide_eq_decide, z]
        omega
  · refine Hd.split (fun d1 => ?_) (fun d1 => ?_)
    · have k' := k
      rw [nh, if_pos (of_decide_eq_true d1)] at k'
      exact k' H2 (k1.trans k2)
    · rw [if_neg (of_decide_eq_false d1)] at nh
      walk_at "t"
      refine Hd.ifs ?_
      rw [sg48]
      refine Hd.known (c := decide (fg.head? = some 48 ∧ (fg ≠ [48] ∨ b = true))) ?_ ?_ ?_
      · walk_at "m"
      · walk_at "ss"
        refine ⟨rfl, ?_⟩
        walk_at "ss"
        refine ⟨_, _, rfl, rfl, ?_⟩
        rw [starts1]
        walk_at "ss"
        refine Hd.split (fun c1 => ?_) (fun c1 => ?_)
        · walk_at "ss"
          refine Hd.split (fun c2 => ?_) (fun c2 => ?_)
          · refine ⟨(decide_eq_true ⟨of_decide_eq_true c1, .inl ?_⟩).symm, rfl⟩
            intro z
            rw [z] at c2
            simp at c2
          · walk_at "ss"
            have z : fg = [48] := by
              have z1 : (⟨fg.toArray⟩ : Str) = ⟨([48] : List Nat).toArray⟩ := by simpa using c2
              injection z1 with z2
              simpa using congrArg Array.toList z2
            refine ⟨?_, rfl⟩
            cases b with
            | true => exact (decide_eq_true ⟨of_decide_eq_true c1, .inr rfl⟩).symm
            | false => exact (decide_eq_false fun h => h.2.elim (fun u => u z) (fun u => by cases u)).symm
        · exact ⟨(decide_eq_false fun h => of_decide_eq_false c1 h.1).symm, rfl⟩
      · refine Hd.split (fun d2 => ?_) (fun d2 => ?_)
        · rw [if_pos (of_decide_eq_true d2)] at nh
          rw [nh] at k
          exact k H2 (k1.trans k2)
        · rw [if_neg (of_decide_eq_false d2)] at nh
          rw [nh] at k
          have k' : Q (.int (if b then 0 - numOf fg else numOf fg)) H2 := k n2 H2 (by rw [et] at l2; exact l2) S2 (k1.trans k2)
          have A := of_decide_eq_false d1
          have hne : fg ≠ [] := fun z => A (.inr (.inl (by rw [z]; exact Nat.zero_lt_one)))
          have h12 : fg.length ≤ 12 := Nat.not_lt.mp fun z => A (.inr (.inr z))
          have hall : fg.all (fun c => decide (48 ≤ c) && decide (c ≤ 57)) = true := by
            rw [← ef']
            exact headW_all isFig _
          have hi : intText? (⟨fg.toArray⟩ : Str) = some (numOf fg) := SX.int_S hall hne (by omega)
          walk_at "ss"
          cases b with
          | true =>
            walk_at "ss"
            refine ⟨_, _, rfl, hi, by rw [efl]; omega, ?_⟩
            walk_at "ss"
            exact k'
          | false =>
            walk_at "ss"
            exact ⟨_, _, rfl, hi, by rw [efl]; omega, k'⟩
end
end K91

set_option Elab.async false
set_option linter.all false
set_option maxRecDepth 100000
set_option maxHeartbeats 4000000
namespace K91
open PySem L2
local macro_rules | `(tactic| walk_at "s") => `(tactic| (with_reducible first
  | refine Hd.and_ ?_ | refine Hd.or_ ?_ | refine Hd.not_ ?_ | refine Hd.test ?_ | refine Hd.tb ?_ | refine Hd.bl ?_ | refine Hd.chain ?_ | refine Hd.op ?_ | refine Hd.un ?_
  | refine Hd.cb ?_ | refine Hd.nil ?_ | refine Hd.cons ?_ | refine Hd.if_ ?_ | refine Hd.seq ?_ | refine Hd.nx ?_ | refine Hd.ifs ?_ | refine Hd.ret ?_ | refine Hd.drop ?_
  | refine Hd.asg ?_ | refine Hd.name ?_ | refine Hd.tup ?_ | refine Hd.lst ?_ | refine Hd.int0 ?_ | refine Hd.intU ?_ | refine Hd.eqI ?_ | refine Hd.eqS ?_ | refine Hd.eqB ?_ | refine Hd.neI ?_ | refine Hd.neS ?_ | refine Hd.neB ?_
  | refine Hd.add ?_ | refine Hd.sub ?_ | refine Hd.call ?_ | refine Hd.callS ?_ | refine Hd.ifNT ?_ | refine Hd.ifNF ?_ | refine Hd.dput ?_ | refine Hd.din ?_ | refine Hd.dget ?_ | refine Hd.dnew ?_ | refine Hd.make ?_ | refine Hd.gsub ?_ | refine Hd.bm ?_ | refine Hd.sl ?_ | refine Hd.part ?_ | refine Hd.nopart ?_ | refine Hd.bm0 ?_ | refine Hd.c ?_ | refine Hd.ifT ?_ | refine Hd.ifF ?_))
local macro_rules | `(tactic| walk_at "v") => `(tactic| (with_reducible refine Hd.var ?_; refine ⟨_, rfl, ?_⟩))
local macro_rules | `(tactic| walk_at "ss") => `(tactic| (repeat first | walk_at "s" | walk_at "v"))

local macro_rules | `(tactic| walk_at "t") => `(tactic| (repeat with_reducible first | refine Hd.seq ?_ | refine Hd.nx ?_ | refine Hd.asg ?_ | refine Hd.name ?_ | refine Hd.ifT ?_ | refine Hd.ifF ?_))
local macro_rules | `(tactic| walk_at "m") => `(tactic| (repeat with_reducible first | exact Hd.mVar | exact Hd.mC | exact Hd.mNil | exact Hd.mI0 | exact Hd.mEq | exact Hd.mNe | exact Hd.mLen | exact Hd.mStarts | refine Hd.mBM ?_ ?_ ?_ | refine Hd.mOr ?_ ?_ | refine Hd.mAnd ?_ ?_ | refine Hd.mNot ?_ | refine Hd.mTest ?_ | refine Hd.mTb ?_ | refine Hd.mOp ?_ ?_ ?_ | refine Hd.mFld ?_ | refine Hd.mCB ?_ ?_ | refine Hd.mCons ?_ ?_))

def spNew (C NT : Addr) (m : List Nat → R (V × List Nat)) : Sp := spOf C NT m
theorem le_str1 (a b : Nat) : decide (([a] : List Nat) < [b]) = decide (a < b) := by
  rw [decide_eq_decide]
  constructor
  · intro h
    cases h with
    | rel h => exact h
    | cons h => cases h
  · intro h
    exact List.Lex.rel h
theorem sg34 : (Str.ofString "\"") = ⟨([34] : List Nat).toArray⟩ := by decide +kernel
theorem sg92 : (Str.ofString "\\") = ⟨([92] : List Nat).toArray⟩ := by decide +kernel
theorem sg32 : (Str.ofString " ") = ⟨([32] : List Nat).toArray⟩ := by decide +kernel
theorem sg126 : (Str.ofString "~") = ⟨([126] : List Nat).toArray⟩ := by decide +kernel
theorem cut_one (T : Str) (j : Nat) : cutS T (some (j : Int)) (some ((j : Int) + 1)) = ⟨(((cds T).drop j).take 1).toArray⟩ := by
  have e : T.length = (cds T).length := len_cds T
  have e1 : ((j : Int) + 1) = ((j + 1 : Nat) : Int) := by omega
  unfold cutS
  rw [e1, HT.sIx_nat, HT.sIx_nat, e]
  by_cases h : j < (cds T).length
  · rw [Nat.min_eq_left (by omega), Nat.min_eq_left (by omega), show j + 1 - j = 1 by omega]
  · rw [Nat.min_eq_right (by omega), Nat.min_eq_right (by omega), List.drop_eq_nil_of_le (as := cds T) (i := j) (by omega), List.drop_eq_nil_of_le (Nat.le_refl _)]
    simp
theorem in2 (x : List Nat) : inV (.str ⟨x.toArray⟩) [.str ⟨([34] : List Nat).toArray⟩, .str ⟨([92] : List Nat).toArray⟩] = decide (x = [34] ∨ x = [92]) := by
  show ((⟨([34] : List Nat).toArray⟩ : Str) == ⟨x.toArray⟩ || ((⟨([92] : List Nat).toArray⟩ : Str) == ⟨x.toArray⟩ || false)) = _
  rw [Bool.eq_iff_iff]
  simp only [Bool.or_eq_true, beq_iff_eq, decide_eq_true_eq, Bool.or_false]
  constructor
  · rintro (h | h)
    · exact .inl (SX.S_inj h).symm
    · exact .inr (SX.S_inj h).symm
  · rintro (h | h) <;> subst h <;> simp
section
variable {P : Program} {w : World} {K : PySem.W.Frag} {mg : Str → Option Value} {base : Heap} {f g C NT fS fW fR : Addr} {fd gd dS dW dR : FuncData}
theorem scQuo : FnScope ["signs", "found", "sign"] ["signs"] (defScope sQuo) := ⟨rfl, rfl, rfl, by decide +kernel, rfl, by decide +kernel, by decide +kernel⟩
theorem ok_quo (F : Fun K "quoted_here" "quoted_here" sQuo f fd) (T : Txt K mg C) (N : TxtN K mg NT) :
    FnOk P w K mg base (L2.CX P w) 2 f fd ["signs"] (spOf C NT fun l => (quotedHere [] l).map fun x => (.str ⟨x.1.toArray⟩, x.2)) := by
  refine F.okX scQuo (fun vs H Q E h => ?_) (fun cdv A outer s H vs Q E hr h => ?_)
  · obtain ⟨p, T', n, rfl, _⟩ := h
    rfl
  obtain ⟨p, T', n, rfl, S, hn, hT, k⟩ := h
  dsimp only at k
  have hT2 : (cds T').length ≤ 2000 := by rw [← len_cds]; exact hT
  refine ⟨_, pss_cons (ps_set (i := 1) scQuo.nd rfl (Or.inl rfl) pe_str)
    (pss_cons (ps_while (passes_of rfl) (pt_cmpR op_lt (pe_fld (pv 0) rfl) (pe_callB call_len_str (by rfl) T.len PySem.boot_len (pa_cons (pe_fld (pv 0) rfl) pa_nil)) (nomark _))
      (pss_cons (ps_set (i := 2) scQuo.nd rfl (Or.inl rfl) (pe_item_str (pe_fld (pv 0) rfl) (pe_fld (pv 0) rfl) (fun _ _ => rfl)))
      (pss_cons (ps_fldaug (pv 0) pe_int in_add)
      (pss_cons (ps_if (pt_cmpR op_eq (pv 2) pe_str (nomark _)) (pss_one (ps_ret (pv 1))) pss_nil)
      (pss_cons (ps_if (pt_cmpR op_eq (pv 2) pe_str (nomark _))
        (pss_cons (ps_set (i := 2) scQuo.nd rfl (Or.inl rfl) (pe_slice sl_str (pe_fld (pv 0) rfl) (po_some (pe_fld (pv 0) rfl)) (po_some (pe_op op_add (pe_fld (pv 0) rfl) pe_int))))
        (pss_cons (ps_fldaug (pv 0) pe_int in_add)
        (pss_one (ps_if (pt_cmpR op_notIn_seq (pv 2) (pe_tup (pa_cons pe_str (pa_cons pe_str pa_nil))) (by rfl))
          (pss_one (ps_raise rfl (takes_of rfl rfl rfl rfl) (pmk_own PySem.F.excBase_ValueError N.xN N.gN N.kN (raises_own N.bN N.tN) rfl))) pss_nil)))) pss_nil)
      (pss_cons (ps_if (pt_not (pt_chain op_le_str op_le_str pe_str (pv 2) pe_str))
          (pss_one (ps_raise rfl (takes_of rfl rfl rfl rfl) (pmk_own PySem.F.excBase_ValueError N.xN N.gN N.kN (raises_own N.bN N.tN) rfl))) pss_nil)
      (pss_one (ps_aug (i := 1) scQuo.nd rfl (Or.inl rfl) (pv 2) iop_add_str))))))))
    (pss_one (ps_raise rfl (takes_of rfl rfl rfl rfl) (pmk_own PySem.F.excBase_ValueError N.xN N.gN N.kN (raises_own N.bN N.tN) rfl)))), ?_⟩
  walk_at "t"
  rw [nil_str]
  walk_at "ss"
  refine while_X (fun m σ H1 => ∃ (j : Nat) (acc : List Nat) (x : Option V), σ = [some (.ref p), some (.str ⟨acc.toArray⟩), x] ∧ SgAt C H1 p T' j ∧ Kp p H H1 ∧ j ≤ (cds T').length ∧ acc.length ≤ j ∧
      quotedHere [] ((cds T').drop n) = quotedHere acc ((cds T').drop j) ∧ m = (cds T').length - j)
    (fun σ H1 => Kp p H H1 ∧ quotedHere [] ((cds T').drop n) = .no)
    ((cds T').length - n) ⟨n, [], none, rfl, S, Kp.refl _ _, hn, Nat.zero_le _, rfl, rfl⟩ ?_ ?_
  · rintro hex m σ H1 ⟨j, acc, x, rfl, S1, k1, hj, ha, e1, rfl⟩
    walk_at "ss"
    refine rd_at T S1 ?_
    walk_at "ss"
    refine rd_text T S1 ?_
    walk_at "ss"
    refine ⟨_, rfl, small hT, ?_⟩
    walk_at "ss"
    rw [len_cds]
    refine Hd.split (fun q1 => ?_) (fun q1 => ?_)
    · have q1' : j < (cds T').length := by simpa using q1
      obtain ⟨f1, f2, f3, f4⟩ := item1 q1' hT
      refine ⟨_, fun _ _ z => z, ?_⟩
      walk_at "ss"
      refine rd_text T S1 ?_
      walk_at "ss"
      refine rd_at T S1 ?_
      refine ⟨_, _, _, rfl, rfl, f1, f2, f3, f4, ?_⟩
      walk_at "ss"
      refine aug_at (k := 1) T S1 rfl fun H2 S2 k2 => ?_
      rw [drop_cons q1'] at e1
      generalize hc : (cds T')[j] = c at *
      rw [sg34, sg92, sg32, sg126]
      walk_at "ss"
      refine Hd.split (fun q2 => ?_) (fun q2 => ?_)
      · have q2' : c = 34 := by simpa using q2
        subst q2'
        rw [e1, quo34] at k
        walk_at "ss"
        exact k (j + 1) H2 ⟨q1', rfl⟩ S2 (k1.trans k2)
      · have q2' : c ≠ 34 := by simpa using q2
        walk_at "ss"
        refine Hd.split (fun q3 => ?_) (fun q3 => ?_)
        · have q3' : c = 92 := by simpa using q3
          subst q3'
          walk_at "ss"
          refine rd_text T S2 ?_
          walk_at "ss"
          refine rd_at T S2 ?_
          refine ⟨_, rfl, ?_⟩
          walk_at "ss"
          refine rd_at T S2 ?_
          walk_at "ss"
          refine ⟨_, rfl, ?_⟩
          refine ⟨_, rfl, small hT, ?_⟩
          rw [cut_one]
          walk_at "ss"
          refine aug_at (k := 1) T S2 rfl fun H3 S3 k3 => ?_
          walk_at "ss"
          refine ⟨by show 2 ≤ sizeLine; decide, fun t ht => ?_⟩
          have k4 : Kp p H (upd H3 t (.tup [.str ⟨([34] : List Nat).toArray⟩, .str ⟨([92] : List Nat).toArray⟩])) := ((k1.trans k2).trans k3).trans (Kp.new ht _)
          have S4 : SgAt C (upd H3 t (.tup [.str ⟨([34] : List Nat).toArray⟩, .str ⟨([92] : List Nat).toArray⟩])) p T' (j + 1 + 1) := by
            obtain ⟨dx, h3⟩ := S3
            exact ⟨dx, by rw [upd_ne (ne_of_none h3 ht)]; exact h3⟩
          refine ⟨t, _, rfl, .inr (SqT.of upd_same), rfl, rfl, ?_⟩
          rw [if_pos rfl, in2]
          walk_at "ss"
          by_cases hl : j + 1 < (cds T').length
          · have ed : (cds T').drop (j + 1) = (cds T')[j + 1] :: (cds T').drop (j + 1 + 1) := drop_cons hl
            generalize (cds T')[j + 1] = d at ed
            rw [ed] at e1 ⊢
            rw [quo92] at e1
            refine Hd.split (fun q4 => ?_) (fun q4 => ?_)
            · have q4' : ¬ (d = 34 ∨ d = 92) := by simpa using q4
              rw [if_neg q4'] at e1
              rw [e1] at k
              exact k _ k4
            · have q4' : d = 34 ∨ d = 92 := by
                have z := q4
                simp at z
                omega
              rw [if_pos q4'] at e1
              walk_at "ss"
              refine ⟨_, _, rfl, rfl, ?_⟩
              walk_at "ss"
              refine Hd.split (fun q5 => ?_) (fun q5 => ?_)
              · walk_at "ss"
                refine ⟨_, _, rfl, rfl, ?_⟩
                walk_at "ss"
                refine Hd.split (fun q6 => ?_) (fun q6 => ?_)
                · exfalso
                  have z : (!(!decide (([126] : List Nat) < [d]))) = true := q6
                  rw [le_str1] at z
                  simp at z
                  omega
                · walk_at "ss"
                  refine ⟨_, rfl, ?_⟩
                  walk_at "ss"
                  refine ⟨_, _, rfl, rfl, ?_, ?_⟩
                  · rw [SX.S_len]
                    exact Nat.le_trans (Nat.add_le_add (Nat.le_trans ha (Nat.le_trans hj hT2)) (Nat.le_refl 1)) (by decide)
                  · refine ⟨_, ?_, j + 1 + 1, acc ++ [d], some (.str ⟨([d] : List Nat).toArray⟩), ?_, S4, k4, by omega, by simp; omega, e1, rfl⟩
                    · omega
                    · show [some (V.ref p), some (V.str ((⟨acc.toArray⟩ : Str) ++ ⟨([d] : List Nat).toArray⟩)), some (V.str ⟨([d] : List Nat).toArray⟩)] = _
                      rw [show (⟨acc.toArray⟩ : Str) ++ ⟨([d] : List Nat).toArray⟩ = ⟨(acc ++ [d]).toArray⟩ from SX.S_cat acc [d]]
              · exfalso
                have z : (!decide (([d] : List Nat) < [32])) = false := q5
                rw [le_str1] at z
                simp at z
                omega
          · have ed : (cds T').drop (j + 1) = [] := List.drop_eq_nil_of_le (by omega)
            rw [ed] at e1 ⊢
            rw [quo92n] at e1
            refine Hd.split (fun q4 => ?_) (fun q4 => ?_)
            · rw [e1] at k
              exact k _ k4
            · simp at q4
        · have q3' : c ≠ 92 := by simpa using q3
          rw [quoc acc c _ q2' q3'] at e1
          walk_at "ss"
          refine ⟨_, _, rfl, rfl, ?_⟩
          walk_at "ss"
          refine Hd.split (fun q5 => ?_) (fun q5 => ?_)
          · have z5 : (!decide (([c] : List Nat) < [32])) = true := q5
            rw [le_str1] at z5
            simp at z5
            walk_at "ss"
            refine ⟨_, _, rfl, rfl, ?_⟩
            walk_at "ss"
            refine Hd.split (fun q6 => ?_) (fun q6 => ?_)
            · have z6 : (!(!decide (([126] : List Nat) < [c]))) = true := q6
              rw [le_str1] at z6
              simp at z6
              rw [if_neg (by omega)] at e1
              rw [e1] at k
              exact k _ (k1.trans k2)
            · have z6 : (!(!decide (([126] : List Nat) < [c]))) = false := q6
              rw [le_str1] at z6
              simp at z6
              rw [if_pos (by omega)] at e1
              walk_at "ss"
              refine ⟨_, rfl, ?_⟩
              walk_at "ss"
              refine ⟨_, _, rfl, rfl, ?_, ?_⟩
              · rw [SX.S_len]
                exact Nat.le_trans (Nat.add_le_add (Nat.le_trans ha (Nat.le_trans hj hT2)) (Nat.le_refl 1)) (by decide)
              · refine ⟨_, ?_, j + 1, acc ++ [c], some (.str ⟨([c] : List Nat).toArray⟩), ?_, S2, k1.trans k2, q1', by simp; omega, e1, rfl⟩
                · omega
                · show [some (V.ref p), some (V.str ((⟨acc.toArray⟩ : Str) ++ ⟨([c] : List Nat).toArray⟩)), some (V.str ⟨([c] : List Nat).toArray⟩)] = _
                  rw [show (⟨acc.toArray⟩ : Str) ++ ⟨([c] : List Nat).toArray⟩ = ⟨(acc ++ [c]).toArray⟩ from SX.S_cat acc [c]]
          · have z5 : (!decide (([c] : List Nat) < [32])) = false := q5
            rw [le_str1] at z5
            simp at z5
            rw [if_neg (by omega)] at e1
            rw [e1] at k
            walk_at "ss"
            exact k _ (k1.trans k2)
    · have z : ¬ j < (cds T').length := by simpa using q1
      refine hex _ _ ⟨k1, ?_⟩
      rw [e1, List.drop_eq_nil_of_le (by omega)]
      rfl
  · rintro σ H1 ⟨k1, e1⟩
    rw [e1] at k
    exact k _ k1
end
end K91

set_option Elab.async false
set_option linter.all false
set_option maxRecDepth 100000
set_option maxHeartbeats 4000000
namespace K91
open PySem L2
local macro_rules | `(tactic| walk_at "s") => `(tactic| (with_reducible first
  | refine Hd.and_ ?_ | refine Hd.or_ ?_ | refine Hd.not_ ?_ | refine Hd.test ?_ | refine Hd.tb ?_ | refine Hd.bl ?_ | refine Hd.chain ?_ | refine Hd.op ?_ | refine Hd.un ?_
  | refine Hd.cb ?_ | refine Hd.nil ?_ | refine Hd.cons ?_ | refine Hd.if_ ?_ | refine Hd.seq ?_ | refine Hd.nx ?_ | refine Hd.ifs ?_ | refine Hd.ret ?_ | refine Hd.drop ?_
  | refine Hd.asg ?_ | refine Hd.name ?_ | refine Hd.tup ?_ | refine Hd.lst ?_ | refine Hd.int0 ?_ | refine Hd.intU ?_ | refine Hd.eqI ?_ | refine Hd.eqS ?_ | refine Hd.eqB ?_ | refine Hd.neI ?_ | refine Hd.neS ?_ | refine Hd.neB ?_
  | refine Hd.add ?_ | refine Hd.sub ?_ | refine Hd.call ?_ | refine Hd.callS ?_ | refine Hd.ifNT ?_ | refine Hd.ifNF ?_ | refine Hd.dput ?_ | refine Hd.din ?_ | refine Hd.dget ?_ | refine Hd.dnew ?_ | refine Hd.make ?_ | refine Hd.gsub ?_ | refine Hd.bm ?_ | refine Hd.sl ?_ | refine Hd.part ?_ | refine Hd.nopart ?_ | refine Hd.bm0 ?_ | refine Hd.c ?_ | refine Hd.ifT ?_ | refine Hd.ifF ?_))
local macro_rules | `(tactic| walk_at "v") => `(tactic| (with_reducible refine Hd.var ?_; refine ⟨_, rfl, ?_⟩))
local macro_rules | `(tactic| walk_at "ss") => `(tactic| (repeat first | walk_at "s" | walk_at "v"))

local macro_rules | `(tactic| walk_at "t") => `(tactic| (repeat with_reducible first | refine Hd.seq ?_ | refine Hd.nx ?_ | refine Hd.asg ?_ | refine Hd.name ?_ | refine Hd.ifT ?_ | refine Hd.ifF ?_))
local macro_rules | `(tactic| walk_at "m") => `(tactic| (repeat with_reducible first | exact Hd.mVar | exact Hd.mC | exact Hd.mNil | exact Hd.mI0 | exact Hd.mEq | exact Hd.mNe | exact Hd.mLen | exact Hd.mStarts | refine Hd.mBM ?_ ?_ ?_ | refine Hd.mOr ?_ ?_ | refine Hd.mAnd ?_ ?_ | refine Hd.mNot ?_ | refine Hd.mTest ?_ | refine Hd.mTb ?_ | refine Hd.mOp ?_ ?_ ?_ | refine Hd.mFld ?_ | refine Hd.mCB ?_ ?_ | refine Hd.mCons ?_ ?_))

abbrev sOpens : Stmt := top 18
/-- opens(signs, bracket, deep) -/
def spOpens (C NT : Addr) : Sp := fun vs H Q E => ∃ (p : Addr) (T : Str) (n : Nat) (c : List Nat) (d : Int), vs = [.ref p, .str ⟨c.toArray⟩, .int d] ∧ c.length ≤ 1 ∧ SgAt C H p T n ∧ n ≤ (cds T).length ∧ T.length ≤ 2000 ∧
  Told C NT p T H Q E (if (seesC c ((cds T).drop n)).1 then (if d = 40 then .no else .ok (.bl true, (seesC c ((cds T).drop n)).2)) else .ok (.bl false, (seesC c ((cds T).drop n)).2))
section
variable {P : Program} {w : World} {K : PySem.W.Frag} {mg : Str → Option Value} {base : Heap} {f g C NT fS fW fR : Addr} {fd gd dS dW dR : FuncData}
theorem scName : FnScope ["signs", "name"] ["signs"] (defScope sName) := ⟨rfl, rfl, rfl, by decide +kernel, rfl, by decide +kernel, by decide +kernel⟩
theorem ok_name (F : Fun K "name_here" "name_here" sName f fd) (T : Txt K mg C) (N : TxtN K mg NT) (G : TxtG mg) (M : Mths P w K mg base C NT fS fW fR dS dW dR) :
    FnOk P w K mg base (L2.CX P w) 3 f fd ["signs"] (spOf C NT fun l => (nameHere l).map fun x => (.str ⟨x.1.toArray⟩, x.2)) := by
  refine F.okX scName (fun vs H Q E h => ?_) (fun cdv A outer s H vs Q E hr h => ?_)
  · obtain ⟨p, T', n, rfl, _⟩ := h
    rfl
  obtain ⟨p, T', n, rfl, S, hn, hT, k⟩ := h
  dsimp only at k
  obtain ⟨t1, g1⟩ := G.lets
  obtain ⟨t2, g2⟩ := G.ml
  refine ⟨_, pss_cons (ps_set (i := 1) scName.nd rfl (Or.inl rfl) (pe_meth (pv 0) T.cl M.mR M.gR (hr.mono (by decide)) M.bR .nil pass0 (pa_cons (pe_glob (v := .str "abcdefghijklmnopqrstuvwxyz") rfl g1 ⟨_, rfl⟩) pa_nil)))
    (pss_cons (ps_if (PW.pt (pw_or (pt_cmpR op_lt (pe_callB call_len_str (by rfl) T.len PySem.boot_len (pa_cons (pv 1) pa_nil)) pe_int (nomark _))
        (pw_or1 (pt_cmpR op_gt (pe_callB call_len_str (by rfl) T.len PySem.boot_len (pa_cons (pv 1) pa_nil)) (pe_glob (v := .int 8) rfl g2 ⟨_, rfl⟩) (nomark _)))))
      (pss_one (ps_raise rfl (takes_of rfl rfl rfl rfl) (pmk_own PySem.F.excBase_ValueError N.xN N.gN N.kN (raises_own N.bN N.tN) rfl))) pss_nil)
    (pss_one (ps_ret (pv 1)))), ?_⟩
  walk_at "ss"
  refine rd_meth S rfl (by decide +kernel) (by decide +kernel) ?_
  walk_at "ss"
  refine ⟨p, T', n, _, rfl, S, hn, hT, fun n2 H2 l2 S2 k2 => ?_⟩
  walk_at "ss"
  rw [lets_in] at l2 ⊢
  have q2 := l2.len
  have q3 := headW_len isLet (skipB ((cds T').drop n))
  have q4 := skipB_len ((cds T').drop n)
  have q5 : ((cds T').drop n).length = (cds T').length - n := List.length_drop
  have nh : nameHere ((cds T').drop n) = if (headW isLet (skipB ((cds T').drop n))).length < 1 ∨ 8 < (headW isLet (skipB ((cds T').drop n))).length then .no
      else .ok (headW isLet (skipB ((cds T').drop n)), tailW isLet (skipB ((cds T').drop n))) := rfl
  generalize headW isLet (skipB ((cds T').drop n)) = fg at *
  have efl : (⟨fg.toArray⟩ : Str).length = fg.length := by simp [Str.length]
  have ft : fg.length ≤ 2000 := by rw [len_cds] at hT; omega
  refine ⟨_, rfl, by rw [efl]; exact small ft, ?_⟩
  walk_at "ss"
  rw [efl]
  refine Hd.split (fun c1 => ?_) (fun c1 => ?_)
  · simp at c1
    rw [nh, if_pos (by omega)] at k
    walk_at "ss"
    exact k H2 k2
  · simp at c1
    walk_at "ss"
    refine ⟨_, rfl, by rw [efl]; exact small ft, ?_⟩
    walk_at "ss"
    rw [efl]
    refine Hd.split (fun c2 => ?_) (fun c2 => ?_)
    · simp at c2
      rw [nh, if_pos (by omega)] at k
      walk_at "ss"
      exact k H2 k2
    · simp at c2
      rw [nh, if_neg (by omega)] at k
      walk_at "ss"
      exact k n2 H2 l2 S2 k2
theorem scOpens : FnScope ["signs", "bracket", "deep"] ["signs", "bracket", "deep"] (defScope sOpens) := ⟨rfl, rfl, rfl, by decide +kernel, rfl, by decide +kernel, by decide +kernel⟩
theorem ok_opens (F : Fun K "opens" "opens" sOpens f fd) (T : Txt K mg C) (N : TxtN K mg NT) (G : TxtG mg) (M : Mths P w K mg base C NT fS fW fR dS dW dR) :
    FnOk P w K mg base (L2.CX P w) 3 f fd ["signs", "bracket", "deep"] (spOpens C NT) := by
  refine F.okX scOpens (fun vs H Q E h => ?_) (fun cdv A outer s H vs Q E hr h => ?_)
  · obtain ⟨p, T', n, c, d, rfl, _⟩ := h
    rfl
  obtain ⟨p, T', n, c, d, rfl, hc, S, hn, hT, k⟩ := h
  obtain ⟨t2, g2⟩ := G.md
  refine ⟨_, pss_cons (ps_if (pt_not (pt_val (pe_meth (pv 0) T.cl M.mS M.gS (hr.mono (by decide)) M.bS .nil pass0 (pa_cons (pv 1) pa_nil)) (by intro _; rfl))) (pss_one (ps_ret pe_bl)) pss_nil)
    (pss_cons (ps_if (pt_cmpR op_eq (pv 2) (pe_glob (v := .int 40) rfl g2 ⟨_, rfl⟩) (nomark _))
      (pss_one (ps_raise rfl (takes_of rfl rfl rfl rfl) (pmk_own PySem.F.excBase_ValueError N.xN N.gN N.kN (raises_own N.bN N.tN) rfl))) pss_nil)
    (pss_one (ps_ret pe_bl))), ?_⟩
  walk_at "ss"
  refine rd_meth S rfl (by decide +kernel) (by decide +kernel) ?_
  walk_at "ss"
  refine ⟨p, T', n, c, rfl, hc, S, hn, hT, fun n2 H2 l2 S2 k2 => ?_⟩
  cases eb : (seesC c ((cds T').drop n)).1 with
  | false =>
    rw [eb, if_neg Bool.false_ne_true] at k
    walk_at "ss"
    exact k n2 H2 l2 S2 k2
  | true =>
    rw [eb, if_pos rfl] at k
    walk_at "ss"
    refine Hd.split (fun c2 => ?_) (fun c2 => ?_)
    · rw [if_pos (of_decide_eq_true c2)] at k
      walk_at "ss"
      exact k H2 k2
    · rw [if_neg (of_decide_eq_false c2)] at k
      walk_at "ss"
      exact k n2 H2 l2 S2 k2
end
end K91

set_option Elab.async false
set_option linter.all false
set_option maxRecDepth 100000
set_option maxHeartbeats 4000000
namespace K91
open PySem L2
local macro_rules | `(tactic| walk_at "s") => `(tactic| (with_reducible first
  | refine Hd.and_ ?_ | refine Hd.or_ ?_ | refine Hd.not_ ?_ | refine Hd.test ?_ | refine Hd.tb ?_ | refine Hd.bl ?_ | refine Hd.chain ?_ | refine Hd.op ?_ | refine Hd.un ?_
  | refine Hd.cb ?_ | refine Hd.nil ?_ | refine Hd.cons ?_ | refine Hd.if_ ?_ | refine Hd.seq ?_ | refine Hd.nx ?_ | refine Hd.ifs ?_ | refine Hd.ret ?_ | refine Hd.drop ?_
  | refine Hd.asg ?_ | refine Hd.name ?_ | refine Hd.tup ?_ | refine Hd.lst ?_ | refine Hd.int0 ?_ | refine Hd.intU ?_ | refine Hd.eqI ?_ | refine Hd.eqS ?_ | refine Hd.eqB ?_ | refine Hd.neI ?_ | refine Hd.neS ?_ | refine Hd.neB ?_
  | refine Hd.add ?_ | refine Hd.sub ?_ | refine Hd.call ?_ | refine Hd.callS ?_ | refine Hd.ifNT ?_ | refine Hd.ifNF ?_ | refine Hd.dput ?_ | refine Hd.din ?_ | refine Hd.dget ?_ | refine Hd.dnew ?_ | refine Hd.make ?_ | refine Hd.gsub ?_ | refine Hd.bm ?_ | refine Hd.sl ?_ | refine Hd.part ?_ | refine Hd.nopart ?_ | refine Hd.bm0 ?_ | refine Hd.c ?_ | refine Hd.ifT ?_ | refine Hd.ifF ?_))
local macro_rules | `(tactic| walk_at "v") => `(tactic| (with_reducible refine Hd.var ?_; refine ⟨_, rfl, ?_⟩))
local macro_rules | `(tactic| walk_at "ss") => `(tactic| (repeat first | walk_at "s" | walk_at "v"))

local macro_rules | `(tactic| walk_at "t") => `(tactic| (repeat with_reducible first | refine Hd.seq ?_ | refine Hd.nx ?_ | refine Hd.asg ?_ | refine Hd.name ?_ | refine Hd.ifT ?_ | refine Hd.ifF ?_))
local macro_rules | `(tactic| walk_at "m") => `(tactic| (repeat with_reducible first | exact Hd.mVar | exact Hd.mC | exact Hd.mNil | exact Hd.mI0 | exact Hd.mEq | exact Hd.mNe | exact Hd.mLen | exact Hd.mStarts | refine Hd.mBM ?_ ?_ ?_ | refine Hd.mOr ?_ ?_ | refine Hd.mAnd ?_ ?_ | refine Hd.mNot ?_ | refine Hd.mTest ?_ | refine Hd.mTb ?_ | refine Hd.mOp ?_ ?_ ?_ | refine Hd.mFld ?_ | refine Hd.mCB ?_ ?_ | refine Hd.mCons ?_ ?_))

mutual
/-- v stands for x; all its objects lie in S -/
inductive Is (S : Addr → Prop) (H : Hp) : V → PV → Prop
  | non : Is S H .non .non
  | int (i : Int) : Is S H (.int i) (.int i)
  | str (s : List Nat) : Is S H (.str ⟨s.toArray⟩) (.str s)
  | lst {a : Addr} {vs : List V} {l : List PV} : S a → H a = some (.lst vs) → IsL S H vs l → Is S H (.ref a) (.lst l)
  | tup {a : Addr} {i : Int} {v : V} {x : PV} : S a → H a = some (.tup [.int i, v]) → Is S H v x → Is S H (.ref a) (.tup i x)
  | dct {a : Addr} {kv : List (Key × V)} {kvs : List (List Nat × PV)} : S a → H a = some (.dK kv) → IsD S H kv kvs → Is S H (.ref a) (.dct kvs)
inductive IsL (S : Addr → Prop) (H : Hp) : List V → List PV → Prop
  | nil : IsL S H [] []
  | cons {v : V} {x : PV} {vs : List V} {l : List PV} : Is S H v x → IsL S H vs l → IsL S H (v :: vs) (x :: l)
inductive IsD (S : Addr → Prop) (H : Hp) : List (Key × V) → List (List Nat × PV) → Prop
  | nil : IsD S H [] []
  | cons {s : List Nat} {v : V} {x : PV} {kv : List (Key × V)} {kvs : List (List Nat × PV)} : Is S H v x → IsD S H kv kvs → IsD S H ((.inr ⟨s.toArray⟩, v) :: kv) ((s, x) :: kvs)
end
mutual
theorem Is.imp {S S' : Addr → Prop} {H H' : Hp} (h1 : ∀ a, S a → S' a) (h2 : ∀ a o, S a → H a = some o → H' a = some o) : ∀ {v : V} {x : PV}, Is S H v x → Is S' H' v x
  | _, _, .non => .non
  | _, _, .int i => .int i
  | _, _, .str s => .str s
  | _, _, .lst s e l => .lst (h1 _ s) (h2 _ _ s e) (IsL.imp h1 h2 l)
  | _, _, .tup s e l => .tup (h1 _ s) (h2 _ _ s e) (Is.imp h1 h2 l)
  | _, _, .dct s e l => .dct (h1 _ s) (h2 _ _ s e) (IsD.imp h1 h2 l)
theorem IsL.imp {S S' : Addr → Prop} {H H' : Hp} (h1 : ∀ a, S a → S' a) (h2 : ∀ a o, S a → H a = some o → H' a = some o) : ∀ {v : List V} {x : List PV}, IsL S H v x → IsL S' H' v x
  | _, _, .nil => .nil
  | _, _, .cons a b => .cons (Is.imp h1 h2 a) (IsL.imp h1 h2 b)
theorem IsD.imp {S S' : Addr → Prop} {H H' : Hp} (h1 : ∀ a, S a → S' a) (h2 : ∀ a o, S a → H a = some o → H' a = some o) : ∀ {v : List (Key × V)} {x : List (List Nat × PV)}, IsD S H v x → IsD S' H' v x
  | _, _, .nil => .nil
  | _, _, .cons a b => .cons (Is.imp h1 h2 a) (IsD.imp h1 h2 b)
end
theorem IsL.snoc {S : Addr → Prop} {H : Hp} {v : V} {x : PV} (h : Is S H v x) : ∀ {vs : List V} {l : List PV}, IsL S H vs l → IsL S H (vs ++ [v]) (l ++ [x])
  | _, _, .nil => .cons h .nil
  | _, _, .cons a b => .cons a (IsL.snoc h b)
theorem IsD.snoc {S : Addr → Prop} {H : Hp} {s : List Nat} {v : V} {x : PV} (h : Is S H v x) : ∀ {vs : List (Key × V)} {l : List (List Nat × PV)}, IsD S H vs l → IsD S H (vs ++ [(.inr ⟨s.toArray⟩, v)]) (l ++ [(s, x)])
  | _, _, .nil => .cons h .nil
  | _, _, .cons a b => .cons a (IsD.snoc h b)
theorem IsL.len {S : Addr → Prop} {H : Hp} : ∀ {vs : List V} {l : List PV}, IsL S H vs l → vs.length = l.length
  | _, _, .nil => rfl
  | _, _, .cons _ b => congrArg (· + 1) (IsL.len b)
theorem IsD.keys {S : Addr → Prop} {H : Hp} : ∀ {vs : List (Key × V)} {l : List (List Nat × PV)}, IsD S H vs l → vs.map (·.1) = l.map fun x => Sum.inr ⟨x.1.toArray⟩
  | _, _, .nil => rfl
  | _, _, .cons (s := s) _ b => congrArg ((Sum.inr (⟨s.toArray⟩ : Str) : Key) :: ·) (IsD.keys b)
/-- a def of signs and deep: a value, or refused -/
def spVal (C NT : Addr) (m : List Nat → R (PV × List Nat)) (d : Int) : Sp := fun vs H Q E => ∃ (p : Addr) (T : Str) (n : Nat), vs = [.ref p, .int d] ∧ SgAt C H p T n ∧ n ≤ (cds T).length ∧ T.length ≤ 2000 ∧
  match m ((cds T).drop n) with
  | .ok (x, r) => ∀ (v : V) (n' : Nat) (H' : Hp), Left (cds T) n' r → SgAt C H' p T n' → Kp p H H' → Is (fun a => H a = none) H' v x → Q v H'
  | .no => ∀ H', Kp p H H' → E (.ref NT) none H'
  | .bad => False
abbrev sList : Stmt := top 15
abbrev sDict : Stmt := top 17
theorem sg93 : (Str.ofString "]") = ⟨([93] : List Nat).toArray⟩ := by decide +kernel
theorem sg44 : (Str.ofString ",") = ⟨([44] : List Nat).toArray⟩ := by decide +kernel
/-- what a list under construction at l keeps -/
structure Bld (C p : Addr) (T : Str) (H : Hp) (l : Addr) (H' : Hp) (j : Nat) : Prop where
  nl : H l = none
  hp : ∃ o, H p = some o
  sg : SgAt C H' p T j
  kp : Kp p H H'
  lj : j ≤ (cds T).length
theorem Bld.old {C p : Addr} {T : Str} {H H' : Hp} {l : Addr} {j : Nat} (B : Bld C p T H l H' j) {a : Addr} (h : H' a = none) : H a = none := by
  cases e : H a with
  | none => rfl
  | some o =>
    by_cases ap : a = p
    · subst ap
      obtain ⟨dx, h2⟩ := B.sg
      rw [h] at h2
      cases h2
    · rw [B.kp a o e ap] at h
      cases h
theorem Bld.np {C p : Addr} {T : Str} {H H' : Hp} {l : Addr} {j : Nat} (B : Bld C p T H l H' j) {a : Addr} (h : H a = none) : a ≠ p := by
  intro z
  subst z
  obtain ⟨o, e⟩ := B.hp
  rw [h] at e
  cases e
abbrev Rg (H : Hp) (l : Addr) : Addr → Prop := fun a => H a = none ∧ a ≠ l
theorem Bld.step {C p : Addr} {T : Str} {H H' H3 : Hp} {l : Addr} {j j' : Nat} (B : Bld C p T H l H' j) (S3 : SgAt C H3 p T j') (k3 : Kp p H' H3) (h : j' ≤ (cds T).length) : Bld C p T H l H3 j' := ⟨B.nl, B.hp, S3, B.kp.trans k3, h⟩
theorem Bld.nl' {C p : Addr} {T : Str} {H H' : Hp} {l : Addr} {j : Nat} (B : Bld C p T H l H' j) : l ≠ p := B.np B.nl
theorem Bld.put {C p : Addr} {T : Str} {H H3 : Hp} {l : Addr} {j : Nat} (B : Bld C p T H l H3 j) (o : HO) : Bld C p T H l (upd H3 l o) j := by
  refine ⟨B.nl, B.hp, ?_, fun b u e n => ?_, B.lj⟩
  · obtain ⟨dx, e⟩ := B.sg
    exact ⟨dx, by rw [upd_ne B.nl'.symm]; exact e⟩
  · rw [upd_ne (ne_of_none e B.nl)]
    exact B.kp b u e n
theorem Bld.start {C p : Addr} {T : Str} {H : Hp} {l : Addr} {n : Nat} (S : SgAt C H p T n) (hl : H l = none) (hn : n ≤ (cds T).length) (o : HO) : Bld C p T H l (upd H l o) n := by
  obtain ⟨dx, e⟩ := S
  exact ⟨hl, ⟨_, e⟩, ⟨dx, by rw [upd_ne (ne_of_none e hl)]; exact e⟩, Kp.new hl _, hn⟩
/-- what was built stays, where the object under construction is left as it is or changed -/
theorem Bld.keepL {C p : Addr} {T : Str} {H H' H3 : Hp} {l : Addr} {j : Nat} {vs : List V} {acc : List PV} (B : Bld C p T H l H' j) (k3 : Kp p H' H3) (I : IsL (Rg H l) H' vs acc) (o : HO) : IsL (Rg H l) (upd H3 l o) vs acc :=
  I.imp (fun _ h => h) fun a u s e => by
    rw [upd_ne s.2]
    exact k3 a u e (B.np s.1)
theorem Bld.newV {C p : Addr} {T : Str} {H H' H3 : Hp} {l : Addr} {j : Nat} {v : V} {x : PV} {o : HO} (B : Bld C p T H l H' j) (e : H' l = some o) (I : Is (fun a => H' a = none) H3 v x) (o' : HO) : Is (Rg H l) (upd H3 l o') v x :=
  I.imp (fun a s => ⟨B.old s, fun z => by subst z; rw [e] at s; cases s⟩) fun a u s e2 => by
    rw [upd_ne (fun z => by subst z; rw [e] at s; cases s)]
    exact e2
section
variable {P : Program} {w : World} {K : PySem.W.Frag} {mg : Str → Option Value} {base : Heap} {f g C NT fS fW fR : Addr} {fd gd dS dW dR : FuncData} {m : List Nat → R (PV × List Nat)} {d : Int} {kV : Nat}
theorem scList : FnScope ["signs", "deep", "found"] ["signs", "deep"] (defScope sList) := ⟨rfl, rfl, rfl, by decide +kernel, rfl, by decide +kernel, by decide +kernel⟩
theorem ok_list (F : Fun K "list_here" "list_here" sList f fd) (T : Txt K mg C) (M : Mths P w K mg base C NT fS fW fR dS dW dR) (h3 : 3 ≤ kV)
    (GV : FnOk P w K mg base (L2.CX P w) kV g gd ["signs", "deep"] (spVal C NT m d)) (mV : mg "value_here" = some (.ref g)) (kpV : PySem.W.keepIn K (.ref g) = true) (bV : Binds K gd ["signs", "deep"] []) :
    FnOk P w K mg base (L2.CX P w) (kV + 1) f fd ["signs", "deep"] (spVal C NT (listHere m) d) := by
  refine F.okX scList (fun vs H Q E h => ?_) (fun cdv A outer s H vs Q E hr h => ?_)
  · obtain ⟨p, T', n, rfl, _⟩ := h
    rfl
  obtain ⟨p, T', n, rfl, S, hn, hT, k⟩ := h
  have hT2 : (cds T').length ≤ 2000 := by rw [← len_cds]; exact hT
  refine ⟨_, pss_cons (ps_set (i := 2) scList.nd rfl (Or.inl rfl) (pe_lst pa_nil))
    (pss_cons (ps_if (pt_val (pe_meth (pv 0) T.cl M.mS M.gS (hr.mono (by omega)) M.bS .nil pass0 (pa_cons pe_str pa_nil)) (by intro _; rfl)) (pss_one (ps_ret (pv 2))) pss_nil)
    (pss_cons (ps_expr (pe_bm PySem.F.plainAttrs_list PySem.F.slot_list_append PySem.F.type_list_append mt_append (pv 2)
        (pa_cons (pe_call GV hr rfl mV kpV bV .nil (passes_call (takes_of rfl rfl rfl rfl) (fun _ _ _ _ h => h)) (pa_cons (pv 0) (pa_cons (pv 1) pa_nil))) pa_nil)))
    (pss_cons (ps_while (passes_of rfl) (pt_val (pe_meth (pv 0) T.cl M.mS M.gS (hr.mono (by omega)) M.bS .nil pass0 (pa_cons pe_str pa_nil)) (by intro _; rfl))
      (pss_one (ps_expr (pe_bm PySem.F.plainAttrs_list PySem.F.slot_list_append PySem.F.type_list_append mt_append (pv 2)
        (pa_cons (pe_call GV hr rfl mV kpV bV .nil (passes_call (takes_of rfl rfl rfl rfl) (fun _ _ _ _ h => h)) (pa_cons (pv 0) (pa_cons (pv 1) pa_nil))) pa_nil)))))
    (pss_cons (ps_expr (pe_meth (pv 0) T.cl M.mW M.gW (hr.mono (by omega)) M.bW .nil (passes_call (takes_of rfl rfl rfl rfl) (fun _ _ _ _ h => h)) (pa_cons pe_str pa_nil)))
    (pss_one (ps_ret (pv 2))))))), ?_⟩
  walk_at "ss"
  refine ⟨Nat.zero_le _, fun l hl => ?_⟩
  have B0 := Bld.start S hl hn (.lst [])
  walk_at "ss"
  refine rd_meth B0.sg rfl (by decide +kernel) (by decide +kernel) ?_
  walk_at "ss"
  refine ⟨p, T', n, [93], congrArg (fun x => [V.ref p, V.str x]) sg93, Nat.le_refl 1, B0.sg, hn, hT, fun n1 H1 l1 S1 k1 => ?_⟩
  have B1 := B0.step S1 k1 l1.1
  have e1 : H1 l = some (.lst []) := k1 _ _ upd_same B0.nl'
  rw [seesC_one] at l1 ⊢
  have el : (sees 93 ((cds T').drop n)).2 = (cds T').drop n1 := l1.2.symm
  cases eb : (sees 93 ((cds T').drop n)).1 with
  | true =>
    have er : listHere m ((cds T').drop n) = .ok (.lst [], (cds T').drop n1) := by unfold listHere; rw [eb, el]; rfl
    rw [er] at k
    walk_at "ss"
    exact k (.ref l) n1 H1 ⟨l1.1, rfl⟩ S1 B1.kp (.lst hl e1 .nil)
  | false =>
    have er : listHere m ((cds T').drop n) = (match m ((cds T').drop n1) with
        | .ok (v, r1) => endList (moreItems m (r1.length + 1) [v] r1)
        | .no => .no
        | .bad => .bad) := by unfold listHere; rw [eb, el]; rfl
    walk_at "ss"
    refine ⟨.inl ⟨rfl, _, SqL.of e1⟩, ?_⟩
    walk_at "ss"
    refine ⟨p, T', n1, rfl, S1, l1.1, hT, ?_⟩
    cases e2 : m ((cds T').drop n1) with
    | bad =>
      rw [e2] at er
      rw [er] at k
      exact k.elim
    | no =>
      rw [e2] at er
      rw [er] at k
      exact fun H2 k2 => k H2 (B1.kp.trans k2)
    | ok xr =>
      obtain ⟨x, r1⟩ := xr
      rw [e2] at er
      dsimp only at er
      intro v n2 H2 l2 S2 k2 V2
      have B2 := B1.step S2 k2 l2.1
      have e3 : H2 l = some (.lst []) := k2 _ _ e1 B0.nl'
      have lr := l2.len
      walk_at "ss"
      refine ⟨l, _, v, rfl, rfl, e3, by decide, ?_⟩
      walk_at "t"
      refine while_X (fun fu σ Hc => ∃ (j : Nat) (acc : List PV) (vs : List V), σ = [some (.ref p), some (.int d), some (.ref l)] ∧ Bld C p T' H l Hc j ∧ Hc l = some (.lst vs) ∧ IsL (Rg H l) Hc vs acc ∧
          listHere m ((cds T').drop n) = endList (moreItems m fu acc ((cds T').drop j)) ∧ fu + acc.length ≤ 2010)
        (fun σ Hc => ∃ (j : Nat) (acc : List PV) (vs : List V), σ = [some (.ref p), some (.int d), some (.ref l)] ∧ Bld C p T' H l Hc j ∧ Hc l = some (.lst vs) ∧ IsL (Rg H l) Hc vs acc ∧
          listHere m ((cds T').drop n) = endList (.ok (acc, (cds T').drop j)))
        (r1.length + 1) ⟨n2, [x], [v], rfl, B2.put _, upd_same, .cons (B1.newV e1 V2 _) .nil, by rw [l2.2]; exact er, by simp; omega⟩ ?_ ?_
      · rintro hex fu σ Hc ⟨j, acc, vs, rfl, B, ec, Ic, er2, hf⟩
        walk_at "ss"
        refine rd_meth B.sg rfl (by decide +kernel) (by decide +kernel) ?_
        walk_at "ss"
        refine ⟨p, T', j, [44], congrArg (fun x => [V.ref p, V.str x]) sg44, Nat.le_refl 1, B.sg, B.lj, hT, fun n3 H3 l3 S3 k3 => ?_⟩
        rw [seesC_one] at l3 ⊢
        have el3 : (sees 44 ((cds T').drop j)).2 = (cds T').drop n3 := l3.2.symm
        have B3 := B.step S3 k3 l3.1
        have e4 : H3 l = some (.lst vs) := k3 _ _ ec B0.nl'
        cases fu with
        | zero =>
          rw [er2] at k
          exact k.elim
        | succ fu =>
        have I3 : IsL (Rg H l) H3 vs acc := Ic.imp (fun _ h => h) fun a u s e => k3 a u e (B.np s.1)
        cases eb3 : (sees 44 ((cds T').drop j)).1 with
        | false =>
          walk_at "ss"
          refine hex _ _ ⟨n3, acc, vs, rfl, B3, e4, I3, ?_⟩
          rw [er2, moreItems_succ, eb3, el3, if_neg Bool.false_ne_true]
        | true =>
          have er3 : listHere m ((cds T').drop n) = endList (match m ((cds T').drop n3) with
            | .ok (v, r') => moreItems m fu (acc ++ [v]) r'
            | .no => .no
            | .bad => .bad) := by
            rw [er2, moreItems_succ, eb3, el3, if_pos rfl]
            all_goals rfl
          walk_at "ss"
          refine ⟨_, fun _ _ z => z, ?_⟩
          walk_at "ss"
          refine ⟨.inl ⟨rfl, _, SqL.of e4⟩, ?_⟩
          walk_at "ss"
          refine ⟨p, T', n3, rfl, S3, l3.1, hT, ?_⟩
          cases e5 : m ((cds T').drop n3) with
          | bad =>
            rw [e5] at er3
            rw [er3] at k
            exact k.elim
          | no =>
            rw [e5] at er3
            rw [er3] at k
            exact fun H4 k4 => k H4 (B3.kp.trans k4)
          | ok xr =>
            obtain ⟨x2, r2⟩ := xr
            rw [e5] at er3
            dsimp only at er3
            intro v2 n4 H4 l4 S4 k4 V4
            have B4 := B3.step S4 k4 l4.1
            have e6 : H4 l = some (.lst vs) := k4 _ _ e4 B0.nl'
            walk_at "ss"
            have hl2 := Ic.len
            refine ⟨l, _, v2, rfl, rfl, e6, Nat.lt_of_lt_of_le (show vs.length < 2010 by omega) (by decide), ?_⟩
            refine ⟨fu, Nat.lt_succ_self fu, n4, acc ++ [x2], vs ++ [v2], rfl, B4.put _, upd_same, (B3.keepL k4 I3 _).snoc (B3.newV e4 V4 _), by rw [l4.2]; exact er3, by simp; omega⟩
      · rintro σ Hc ⟨j, acc, vs, rfl, B, ec, Ic, er2⟩
        walk_at "ss"
        refine rd_meth B.sg rfl (by decide +kernel) (by decide +kernel) ?_
        walk_at "ss"
        refine ⟨p, T', j, [93], congrArg (fun x => [V.ref p, V.str x]) sg93, Nat.le_refl 1, B.sg, B.lj, hT, ?_⟩
        rw [seesC_one]
        rw [er2] at k
        unfold endList at k
        dsimp only at k
        cases eb3 : (sees 93 ((cds T').drop j)).1 with
        | false =>
          rw [eb3, if_neg Bool.false_ne_true] at k
          rw [if_neg Bool.false_ne_true]
          exact fun H3 k3 => k H3 (B.kp.trans k3)
        | true =>
          rw [eb3, if_pos rfl] at k
          rw [if_pos rfl]
          intro n3 H3 l3 S3 k3
          walk_at "ss"
          exact k (.ref l) n3 H3 l3 S3 (B.kp.trans k3) (.lst hl (k3 _ _ ec B0.nl') (Ic.imp (fun _ h => h.1) fun a u s e => k3 a u e (B.np s.1)))
end
end K91

set_option Elab.async false
set_option linter.all false
set_option maxRecDepth 100000
set_option maxHeartbeats 4000000
namespace K91
open PySem L2
local macro_rules | `(tactic| walk_at "s") => `(tactic| (with_reducible first
  | refine Hd.and_ ?_ | refine Hd.or_ ?_ | refine Hd.not_ ?_ | refine Hd.test ?_ | refine Hd.tb ?_ | refine Hd.bl ?_ | refine Hd.chain ?_ | refine Hd.op ?_ | refine Hd.un ?_
  | refine Hd.cb ?_ | refine Hd.nil ?_ | refine Hd.cons ?_ | refine Hd.if_ ?_ | refine Hd.seq ?_ | refine Hd.nx ?_ | refine Hd.ifs ?_ | refine Hd.ret ?_ | refine Hd.drop ?_
  | refine Hd.asg ?_ | refine Hd.name ?_ | refine Hd.tup ?_ | refine Hd.lst ?_ | refine Hd.int0 ?_ | refine Hd.intU ?_ | refine Hd.eqI ?_ | refine Hd.eqS ?_ | refine Hd.eqB ?_ | refine Hd.neI ?_ | refine Hd.neS ?_ | refine Hd.neB ?_
  | refine Hd.add ?_ | refine Hd.sub ?_ | refine Hd.call ?_ | refine Hd.callS ?_ | refine Hd.ifNT ?_ | refine Hd.ifNF ?_ | refine Hd.dput ?_ | refine Hd.din ?_ | refine Hd.dget ?_ | refine Hd.dnew ?_ | refine Hd.make ?_ | refine Hd.gsub ?_ | refine Hd.bm ?_ | refine Hd.sl ?_ | refine Hd.part ?_ | refine Hd.nopart ?_ | refine Hd.bm0 ?_ | refine Hd.c ?_ | refine Hd.ifT ?_ | refine Hd.ifF ?_))
local macro_rules | `(tactic| walk_at "v") => `(tactic| (with_reducible refine Hd.var ?_; refine ⟨_, rfl, ?_⟩))
local macro_rules | `(tactic| walk_at "ss") => `(tactic| (repeat first | walk_at "s" | walk_at "v"))

local macro_rules | `(tactic| walk_at "t") => `(tactic| (repeat with_reducible first | refine Hd.seq ?_ | refine Hd.nx ?_ | refine Hd.asg ?_ | refine Hd.name ?_ | refine Hd.ifT ?_ | refine Hd.ifF ?_))
local macro_rules | `(tactic| walk_at "m") => `(tactic| (repeat with_reducible first | exact Hd.mVar | exact Hd.mC | exact Hd.mNil | exact Hd.mI0 | exact Hd.mEq | exact Hd.mNe | exact Hd.mLen | exact Hd.mStarts | refine Hd.mBM ?_ ?_ ?_ | refine Hd.mOr ?_ ?_ | refine Hd.mAnd ?_ ?_ | refine Hd.mNot ?_ | refine Hd.mTest ?_ | refine Hd.mTb ?_ | refine Hd.mOp ?_ ?_ ?_ | refine Hd.mFld ?_ | refine Hd.mCB ?_ ?_ | refine Hd.mCons ?_ ?_))

theorem sg125 : (Str.ofString "}") = ⟨([125] : List Nat).toArray⟩ := by decide +kernel
theorem sg58 : (Str.ofString ":") = ⟨([58] : List Nat).toArray⟩ := by decide +kernel
theorem IsD.look {S : Addr → Prop} {H : Hp} (s : List Nat) : ∀ {kv : List (Key × V)} {l : List (List Nat × PV)}, IsD S H kv l → (valV kv (Sum.inr (⟨s.toArray⟩ : Str) : Key)).isSome = decide (s ∈ l.map (·.1))
  | _, _, .nil => rfl
  | _, _, .cons (s := s0) (v := v0) (kv := kv0) (kvs := kvs0) a b => by
    have ih := IsD.look s b
    show (valV ((Sum.inr (⟨s0.toArray⟩ : Str), v0) :: kv0) (Sum.inr (⟨s.toArray⟩ : Str) : Key)).isSome = decide (s ∈ s0 :: kvs0.map (·.1))
    unfold valV at ih ⊢
    rw [List.find?_cons]
    by_cases e : s0 = s
    · subst e
      simp
    · have e2 : ¬ ((Sum.inr (⟨s0.toArray⟩ : Str) : Key) = Sum.inr (⟨s.toArray⟩ : Str)) := fun z => e (SX.S_inj (Sum.inr.inj z))
      rw [decide_eq_false e2]
      dsimp only
      rw [ih, Bool.eq_iff_iff]
      simp [Ne.symm e]
theorem Bld.keepD {C p : Addr} {T : Str} {H H' H3 : Hp} {l : Addr} {j : Nat} {vs : List (Key × V)} {acc : List (List Nat × PV)} (B : Bld C p T H l H' j) (k3 : Kp p H' H3) (I : IsD (Rg H l) H' vs acc) (o : HO) : IsD (Rg H l) (upd H3 l o) vs acc :=
  I.imp (fun _ h => h) fun a u s e => by
    rw [upd_ne s.2]
    exact k3 a u e (B.np s.1)
theorem Bld.keepD' {C p : Addr} {T : Str} {H H' H3 : Hp} {l : Addr} {j : Nat} {vs : List (Key × V)} {acc : List (List Nat × PV)} (B : Bld C p T H l H' j) (k3 : Kp p H' H3) (I : IsD (Rg H l) H' vs acc) : IsD (Rg H l) H3 vs acc :=
  I.imp (fun _ h => h) fun a u s e => k3 a u e (B.np s.1)
section
variable {P : Program} {w : World} {K : PySem.W.Frag} {mg : Str → Option Value} {base : Heap} {f g C NT fS fW fR fN : Addr} {fd gd dS dW dR dN : FuncData} {m : List Nat → R (PV × List Nat)} {d : Int} {kV : Nat}
theorem scDict : FnScope ["signs", "deep", "found", "goes_on", "name"] ["signs", "deep"] (defScope sDict) := ⟨rfl, rfl, rfl, by decide +kernel, rfl, by decide +kernel, by decide +kernel⟩
theorem ok_dict (F : Fun K "dict_here" "dict_here" sDict f fd) (T : Txt K mg C) (N : TxtN K mg NT) (M : Mths P w K mg base C NT fS fW fR dS dW dR) (h3 : 3 ≤ kV)
    (GN : FnOk P w K mg base (L2.CX P w) 3 fN dN ["signs"] (spOf C NT fun l => (nameHere l).map fun x => (.str ⟨x.1.toArray⟩, x.2))) (mN : mg "name_here" = some (.ref fN)) (kpN : PySem.W.keepIn K (.ref fN) = true) (bN : Binds K dN ["signs"] [])
    (GV : FnOk P w K mg base (L2.CX P w) kV g gd ["signs", "deep"] (spVal C NT m d)) (mV : mg "value_here" = some (.ref g)) (kpV : PySem.W.keepIn K (.ref g) = true) (bV : Binds K gd ["signs", "deep"] []) :
    FnOk P w K mg base (L2.CX P w) (kV + 1) f fd ["signs", "deep"] (spVal C NT (dictHere m) d) := by
  refine F.okX scDict (fun vs H Q E h => ?_) (fun cdv A outer s H vs Q E hr h => ?_)
  · obtain ⟨p, T', n, rfl, _⟩ := h
    rfl
  obtain ⟨p, T', n, rfl, S, hn, hT, k⟩ := h
  have hT2 : (cds T').length ≤ 2000 := by rw [← len_cds]; exact hT
  have hu := hu_of hr
  refine ⟨_, pss_cons (ps_set (i := 2) scDict.nd rfl (Or.inl rfl) pe_dnewK)
    (pss_cons (ps_if (pt_val (pe_meth (pv 0) T.cl M.mS M.gS (hr.mono (by omega)) M.bS .nil pass0 (pa_cons pe_str pa_nil)) (by intro _; rfl)) (pss_one (ps_ret (pv 2))) pss_nil)
    (pss_cons (ps_set (i := 3) scDict.nd rfl (Or.inl rfl) pe_bl)
    (pss_cons (ps_while (passes_of rfl) (pt_val (pv 3))
      (pss_cons (ps_set (i := 4) scDict.nd rfl (Or.inl rfl) (pe_call GN (hr.mono (by omega)) rfl mN kpN bN .nil (passes_call (takes_of rfl rfl rfl rfl) (fun _ _ _ _ h => h)) (pa_cons (pv 0) pa_nil)))
      (pss_cons (ps_if (pt_cmp (pc_din hu (pv 4) (pv 2))) (pss_one (ps_raise rfl (takes_of rfl rfl rfl rfl) (pmk_own PySem.F.excBase_ValueError N.xN N.gN N.kN (raises_own N.bN N.tN) rfl))) pss_nil)
      (pss_cons (ps_expr (pe_meth (pv 0) T.cl M.mW M.gW (hr.mono (by omega)) M.bW .nil (passes_call (takes_of rfl rfl rfl rfl) (fun _ _ _ _ h => h)) (pa_cons pe_str pa_nil)))
      (pss_cons (ps_dput hu (pv 2) (pv 4) (pe_call GV hr rfl mV kpV bV .nil (passes_call (takes_of rfl rfl rfl rfl) (fun _ _ _ _ h => h)) (pa_cons (pv 0) (pa_cons (pv 1) pa_nil))) rfl)
      (pss_one (ps_set (i := 3) scDict.nd rfl (Or.inl rfl) (pe_meth (pv 0) T.cl M.mS M.gS (hr.mono (by omega)) M.bS .nil pass0 (pa_cons pe_str pa_nil)))))))))
    (pss_cons (ps_expr (pe_meth (pv 0) T.cl M.mW M.gW (hr.mono (by omega)) M.bW .nil (passes_call (takes_of rfl rfl rfl rfl) (fun _ _ _ _ h => h)) (pa_cons pe_str pa_nil)))
    (pss_one (ps_ret (pv 2))))))), ?_⟩
  walk_at "ss"
  intro l hl
  have B0 := Bld.start S hl hn (.dK [])
  walk_at "ss"
  refine rd_meth B0.sg rfl (by decide +kernel) (by decide +kernel) ?_
  walk_at "ss"
  refine ⟨p, T', n, [125], congrArg (fun x => [V.ref p, V.str x]) sg125, Nat.le_refl 1, B0.sg, hn, hT, fun n1 H1 l1 S1 k1 => ?_⟩
  have B1 := B0.step S1 k1 l1.1
  have e1 : H1 l = some (.dK []) := k1 _ _ upd_same B0.nl'
  rw [seesC_one] at l1 ⊢
  have el : (sees 125 ((cds T').drop n)).2 = (cds T').drop n1 := l1.2.symm
  cases eb : (sees 125 ((cds T').drop n)).1 with
  | true =>
    have er : dictHere m ((cds T').drop n) = .ok (.dct [], (cds T').drop n1) := by unfold dictHere; rw [eb, el]; rfl
    rw [er] at k
    walk_at "ss"
    exact k (.ref l) n1 H1 ⟨l1.1, rfl⟩ S1 B1.kp (.dct hl e1 .nil)
  | false =>
    have er : dictHere m ((cds T').drop n) = endDict (moreKeys m (((cds T').drop n1).length + 1) [] ((cds T').drop n1)) := by unfold dictHere; rw [eb, el]; rfl
    have lr := List.length_drop (i := n1) (l := cds T')
    walk_at "ss"
    refine while_X (fun fu σ Hc => ∃ (b : Bool) (j : Nat) (acc : List (List Nat × PV)) (kv : List (Key × V)) (nm : Option V), σ = [some (.ref p), some (.int d), some (.ref l), some (.bl b), nm] ∧ Bld C p T' H l Hc j ∧ Hc l = some (.dK kv) ∧ IsD (Rg H l) Hc kv acc ∧
          fu + acc.length ≤ 2010 ∧ dictHere m ((cds T').drop n) = endDict (if b then moreKeys m fu acc ((cds T').drop j) else .ok (acc, (cds T').drop j)))
        (fun σ Hc => ∃ (j : Nat) (acc : List (List Nat × PV)) (kv : List (Key × V)) (nm : Option V), σ = [some (.ref p), some (.int d), some (.ref l), some (.bl false), nm] ∧ Bld C p T' H l Hc j ∧ Hc l = some (.dK kv) ∧ IsD (Rg H l) Hc kv acc ∧
          dictHere m ((cds T').drop n) = endDict (.ok (acc, (cds T').drop j)))
        (((cds T').drop n1).length + 1) ⟨true, n1, [], [], none, rfl, B1, e1, .nil, by simp only [List.length_nil]; omega, by rw [if_pos rfl]; exact er⟩ ?_ ?_
    · rintro hex fu σ Hc ⟨b, j, acc, kv, nm, rfl, B, ec, Ic, hf, er2⟩
      walk_at "ss"
      cases b with
      | false =>
        walk_at "ss"
        exact hex _ _ ⟨j, acc, kv, nm, rfl, B, ec, Ic, by rw [er2, if_neg Bool.false_ne_true]⟩
      | true =>
        rw [if_pos rfl] at er2
        walk_at "ss"
        cases fu with
        | zero =>
          rw [er2] at k
          exact k.elim
        | succ fu =>
        rw [moreKeys_succ] at er2
        refine ⟨_, fun _ _ z => z, ?_⟩
        walk_at "ss"
        refine ⟨p, T', j, rfl, B.sg, B.lj, hT, ?_⟩
        dsimp only
        cases e2 : nameHere ((cds T').drop j) with
        | bad =>
          rw [e2] at er2
          rw [er2] at k
          exact k.elim
        | no =>
          rw [e2] at er2
          rw [er2] at k
          exact fun H2 k2 => k H2 (B.kp.trans k2)
        | ok xr =>
          obtain ⟨x, r1⟩ := xr
          rw [e2] at er2
          dsimp only at er2
          intro n2 H2 l2 S2 k2
          have B2 := B.step S2 k2 l2.1
          have e3 : H2 l = some (.dK kv) := k2 _ _ ec B0.nl'
          have I2 : IsD (Rg H l) H2 kv acc := B.keepD' k2 Ic
          have el2 : r1 = (cds T').drop n2 := l2.2.symm
          subst el2
          walk_at "ss"
          refine ⟨l, _, rfl, DGet.k (k := Sum.inr (⟨x.toArray⟩ : Str)) e3, ?_⟩
          rw [IsD.look x I2]
          walk_at "ss"
          refine Hd.split (fun c1 => ?_) (fun c1 => ?_)
          · rw [if_pos (of_decide_eq_true c1)] at er2
            rw [er2] at k
            exact k H2 B2.kp
          · have c1' := of_decide_eq_false c1
            rw [if_neg c1'] at er2
            have nv : valV kv (Sum.inr (⟨x.toArray⟩ : Str) : Key) = none := by
              have z := IsD.look x I2
              rw [decide_eq_false c1'] at z
              exact Option.isNone_iff_eq_none.mp (by rw [← Option.not_isSome, z]; rfl)
            walk_at "ss"
            refine rd_meth B2.sg rfl (by decide +kernel) (by decide +kernel) ?_
            walk_at "ss"
            refine ⟨p, T', n2, [58], congrArg (fun x => [V.ref p, V.str x]) sg58, Nat.le_refl 1, B2.sg, B2.lj, hT, ?_⟩
            rw [seesC_one]
            cases eb3 : (sees 58 ((cds T').drop n2)).1 with
            | false =>
              rw [eb3, if_neg Bool.false_ne_true] at er2
              rw [er2] at k
              rw [if_neg Bool.false_ne_true]
              exact fun H3 k3 => k H3 (B2.kp.trans k3)
            | true =>
              rw [eb3, if_pos rfl] at er2
              rw [if_pos rfl]
              intro n3 H3 l3 S3 k3
              have el3 : (sees 58 ((cds T').drop n2)).2 = (cds T').drop n3 := l3.2.symm
              rw [el3] at er2
              have B3 := B2.step S3 k3 l3.1
              have e4 : H3 l = some (.dK kv) := k3 _ _ e3 B0.nl'
              have I3 : IsD (Rg H l) H3 kv acc := B2.keepD' k3 I2
              walk_at "ss"
              refine ⟨p, T', n3, rfl, S3, l3.1, hT, ?_⟩
              cases e5 : m ((cds T').drop n3) with
              | bad =>
                rw [e5] at er2
                rw [er2] at k
                exact k.elim
              | no =>
                rw [e5] at er2
                rw [er2] at k
                exact fun H4 k4 => k H4 (B3.kp.trans k4)
              | ok xr =>
                obtain ⟨x2, r2⟩ := xr
                rw [e5] at er2
                dsimp only at er2
                intro v2 n4 H4 l4 S4 k4 V4
                have el4 : r2 = (cds T').drop n4 := l4.2.symm
                subst el4
                have B4 := B3.step S4 k4 l4.1
                have e6 : H4 l = some (.dK kv) := k4 _ _ e4 B0.nl'
                have hlen : kv.length = acc.length := by
                  have z := congrArg List.length (IsD.keys I3)
                  simpa using z
                walk_at "ss"
                refine ⟨l, _, rfl, DPut.k (k := Sum.inr (⟨x.toArray⟩ : Str)) e6 (Nat.lt_of_lt_of_le (show kv.length < 2010 by omega) (by decide)), ?_⟩
                rw [putK_new _ nv]
                have B5 := B4.put (.dK (kv ++ [(Sum.inr (⟨x.toArray⟩ : Str), v2)]))
                have I5 : IsD (Rg H l) (upd H4 l (.dK (kv ++ [(Sum.inr (⟨x.toArray⟩ : Str), v2)]))) (kv ++ [(Sum.inr (⟨x.toArray⟩ : Str), v2)]) (acc ++ [(x, x2)]) := (B3.keepD k4 I3 _).snoc (B3.newV e4 V4 _)
                walk_at "ss"
                refine rd_meth B5.sg rfl (by decide +kernel) (by decide +kernel) ?_
                walk_at "ss"
                refine ⟨p, T', n4, [44], congrArg (fun x => [V.ref p, V.str x]) sg44, Nat.le_refl 1, B5.sg, B5.lj, hT, fun n6 H6 l6 S6 k6 => ?_⟩
                rw [seesC_one] at l6 ⊢
                have el6 : (sees 44 ((cds T').drop n4)).2 = (cds T').drop n6 := l6.2.symm
                walk_at "ss"
                refine ⟨fu, Nat.lt_succ_self fu, (sees 44 ((cds T').drop n4)).1, n6, acc ++ [(x, x2)], _, _, rfl, B5.step S6 k6 l6.1, k6 _ _ upd_same B0.nl', B5.keepD' k6 I5, by simp; omega, ?_⟩
                rw [er2, el6]
    · rintro σ Hc ⟨j, acc, kv, nm, rfl, B, ec, Ic, er2⟩
      walk_at "ss"
      refine rd_meth B.sg rfl (by decide +kernel) (by decide +kernel) ?_
      walk_at "ss"
      refine ⟨p, T', j, [125], congrArg (fun x => [V.ref p, V.str x]) sg125, Nat.le_refl 1, B.sg, B.lj, hT, ?_⟩
      rw [seesC_one]
      rw [er2] at k
      unfold endDict at k
      dsimp only at k
      cases eb3 : (sees 125 ((cds T').drop j)).1 with
      | false =>
        rw [eb3, if_neg Bool.false_ne_true] at k
        rw [if_neg Bool.false_ne_true]
        exact fun H3 k3 => k H3 (B.kp.trans k3)
      | true =>
        rw [eb3, if_pos rfl] at k
        rw [if_pos rfl]
        intro n3 H3 l3 S3 k3
        walk_at "ss"
        exact k (.ref l) n3 H3 l3 S3 (B.kp.trans k3) (.dct hl (k3 _ _ ec B0.nl') ((B.keepD' k3 Ic).imp (fun _ h => h.1) fun _ _ _ e => e))
end
end K91

set_option Elab.async false
set_option linter.all false
set_option maxRecDepth 100000
set_option maxHeartbeats 4000000
namespace K91
open PySem L2
local macro_rules | `(tactic| walk_at "s") => `(tactic| (with_reducible first
  | refine Hd.and_ ?_ | refine Hd.or_ ?_ | refine Hd.not_ ?_ | refine Hd.test ?_ | refine Hd.tb ?_ | refine Hd.bl ?_ | refine Hd.chain ?_ | refine Hd.op ?_ | refine Hd.un ?_
  | refine Hd.cb ?_ | refine Hd.nil ?_ | refine Hd.cons ?_ | refine Hd.if_ ?_ | refine Hd.seq ?_ | refine Hd.nx ?_ | refine Hd.ifs ?_ | refine Hd.ret ?_ | refine Hd.drop ?_
  | refine Hd.asg ?_ | refine Hd.name ?_ | refine Hd.tup ?_ | refine Hd.lst ?_ | refine Hd.int0 ?_ | refine Hd.intU ?_ | refine Hd.eqI ?_ | refine Hd.eqS ?_ | refine Hd.eqB ?_ | refine Hd.neI ?_ | refine Hd.neS ?_ | refine Hd.neB ?_
  | refine Hd.add ?_ | refine Hd.sub ?_ | refine Hd.call ?_ | refine Hd.callS ?_ | refine Hd.ifNT ?_ | refine Hd.ifNF ?_ | refine Hd.dput ?_ | refine Hd.din ?_ | refine Hd.dget ?_ | refine Hd.dnew ?_ | refine Hd.make ?_ | refine Hd.gsub ?_ | refine Hd.bm ?_ | refine Hd.sl ?_ | refine Hd.part ?_ | refine Hd.nopart ?_ | refine Hd.bm0 ?_ | refine Hd.c ?_ | refine Hd.ifT ?_ | refine Hd.ifF ?_))
local macro_rules | `(tactic| walk_at "v") => `(tactic| (with_reducible refine Hd.var ?_; refine ⟨_, rfl, ?_⟩))
local macro_rules | `(tactic| walk_at "ss") => `(tactic| (repeat first | walk_at "s" | walk_at "v"))

local macro_rules | `(tactic| walk_at "t") => `(tactic| (repeat with_reducible first | refine Hd.seq ?_ | refine Hd.nx ?_ | refine Hd.asg ?_ | refine Hd.name ?_ | refine Hd.ifT ?_ | refine Hd.ifF ?_))
local macro_rules | `(tactic| walk_at "m") => `(tactic| (repeat with_reducible first | exact Hd.mVar | exact Hd.mC | exact Hd.mNil | exact Hd.mI0 | exact Hd.mEq | exact Hd.mNe | exact Hd.mLen | exact Hd.mStarts | refine Hd.mBM ?_ ?_ ?_ | refine Hd.mOr ?_ ?_ | refine Hd.mAnd ?_ ?_ | refine Hd.mNot ?_ | refine Hd.mTest ?_ | refine Hd.mTb ?_ | refine Hd.mOp ?_ ?_ ?_ | refine Hd.mFld ?_ | refine Hd.mCB ?_ ?_ | refine Hd.mCons ?_ ?_))

abbrev sVal : Stmt := top 19
abbrev sOf : Stmt := top 20
theorem sg91 : (Str.ofString "[") = ⟨([91] : List Nat).toArray⟩ := by decide +kernel
theorem sg123 : (Str.ofString "{") = ⟨([123] : List Nat).toArray⟩ := by decide +kernel
theorem sg40 : (Str.ofString "(") = ⟨([40] : List Nat).toArray⟩ := by decide +kernel
theorem sg41 : (Str.ofString ")") = ⟨([41] : List Nat).toArray⟩ := by decide +kernel
theorem sg110 : (Str.ofString "n") = ⟨([110] : List Nat).toArray⟩ := by decide +kernel
theorem sgone : (Str.ofString "one") = ⟨([111, 110, 101] : List Nat).toArray⟩ := by decide +kernel
theorem cut_few (T : Str) (j k : Nat) : cutS T (some (j : Int)) (some ((j : Int) + (k : Int))) = ⟨(((cds T).drop j).take k).toArray⟩ := by
  have e : T.length = (cds T).length := len_cds T
  have e1 : ((j : Int) + (k : Int)) = ((j + k : Nat) : Int) := by omega
  unfold cutS
  rw [e1, HT.sIx_nat, HT.sIx_nat, e]
  by_cases h : j ≤ (cds T).length
  · rw [Nat.min_eq_left h]
    by_cases h2 : j + k ≤ (cds T).length
    · rw [Nat.min_eq_left h2, show j + k - j = k by omega]
    · rw [Nat.min_eq_right (by omega), List.take_of_length_le (by rw [List.length_drop]; exact Nat.le_refl _), List.take_of_length_le (by rw [List.length_drop]; omega)]
  · rw [Nat.min_eq_right (by omega), Nat.min_eq_right (by omega), List.drop_eq_nil_of_le (as := cds T) (i := j) (by omega), List.drop_eq_nil_of_le (Nat.le_refl _)]
    simp
theorem Kp.old {C p : Addr} {T : Str} {H H' : Hp} {j : Nat} (S : SgAt C H' p T j) (k : Kp p H H') {a : Addr} (h : H' a = none) : H a = none := by
  cases e : H a with
  | none => rfl
  | some o =>
    by_cases ap : a = p
    · subst ap
      obtain ⟨dx, h2⟩ := S
      rw [h] at h2
      cases h2
    · rw [k a o e ap] at h
      cases h
/-- the promise of a deeper one, where a bracket may still be opened -/
def inn (C NT : Addr) (m : Nat → List Nat → R (PV × List Nat)) : Nat → Sp
  | 0 => fun _ _ _ _ => False
  | n + 1 => spVal C NT (m n) (40 - (n : Int))
theorem rd_opens {C NT p : Addr} {T : Str} {H : Hp} {j left : Nat} {Q : VK} {E : XK} {x : Str} (c : Nat) (hx : x = ⟨([c] : List Nat).toArray⟩) (S : SgAt C H p T j) (hj : j ≤ (cds T).length) (hT : T.length ≤ 2000)
    (hz : (sees c ((cds T).drop j)).1 = true → left = 0 → ∀ H', Kp p H H' → E (.ref NT) none H')
    (hy : ∀ n, (sees c ((cds T).drop j)).1 = true → left = n + 1 → ∀ (n' : Nat) (H' : Hp), n' ≤ (cds T).length → (sees c ((cds T).drop j)).2 = (cds T).drop n' → SgAt C H' p T n' → Kp p H H' → Q (.bl true) H')
    (hn : (sees c ((cds T).drop j)).1 = false → ∀ (n' : Nat) (H' : Hp), n' ≤ (cds T).length → (sees c ((cds T).drop j)).2 = (cds T).drop n' → SgAt C H' p T n' → Kp p H H' → Q (.bl false) H') :
    spOpens C NT ([.ref p, .str x, .int (40 - (left : Int))] ++ []) H Q E := by
  subst hx
  refine ⟨p, T, j, [c], _, rfl, Nat.le_refl 1, S, hj, hT, ?_⟩
  rw [seesC_one]
  cases eb : (sees c ((cds T).drop j)).1 with
  | false =>
    rw [if_neg Bool.false_ne_true]
    exact fun n' H' l S' k' => hn eb n' H' l.1 l.2.symm S' k'
  | true =>
    rw [if_pos rfl]
    cases left with
    | zero =>
      rw [if_pos (by omega)]
      exact hz eb rfl
    | succ n =>
      rw [if_neg (by omega)]
      exact fun n' H' l S' k' => hy n eb rfl n' H' l.1 l.2.symm S' k'
theorem deeper (n : Nat) : V.int (40 - ((n + 1 : Nat) : Int) + 1) = V.int (40 - (n : Int)) := congrArg V.int (by omega)
section
variable {P : Program} {w : World} {K : PySem.W.Frag} {mg : Str → Option Value} {base : Heap} {f g C NT fS fW fR fN fO fQ fL fD : Addr} {fd gd dS dW dR dN dO dQ dL dD : FuncData} {left kV : Nat}
theorem scVal : FnScope ["signs", "deep", "number", "value"] ["signs", "deep"] (defScope sVal) := ⟨rfl, rfl, rfl, by decide +kernel, rfl, by decide +kernel, by decide +kernel⟩
structure Defs (P : Program) (w : World) (K : PySem.W.Frag) (mg : Str → Option Value) (base : Heap) (C NT fN fO fQ : Addr) (dN dO dQ : FuncData) : Prop where
  gN : FnOk P w K mg base (L2.CX P w) 3 fN dN ["signs"] (spOf C NT fun l => (numberHere l).map fun x => (.int x.1, x.2))
  mN : mg "number_here" = some (.ref fN)
  kN : PySem.W.keepIn K (.ref fN) = true
  bN : Binds K dN ["signs"] []
  gO : FnOk P w K mg base (L2.CX P w) 3 fO dO ["signs", "bracket", "deep"] (spOpens C NT)
  mO : mg "opens" = some (.ref fO)
  kO : PySem.W.keepIn K (.ref fO) = true
  bO : Binds K dO ["signs", "bracket", "deep"] []
  gQ : FnOk P w K mg base (L2.CX P w) 2 fQ dQ ["signs"] (spOf C NT fun l => (quotedHere [] l).map fun x => (.str ⟨x.1.toArray⟩, x.2))
  mQ : mg "quoted_here" = some (.ref fQ)
  kQ : PySem.W.keepIn K (.ref fQ) = true
  bQ : Binds K dQ ["signs"] []
theorem ok_val (F : Fun K "value_here" "value_here" sVal f fd) (T : Txt K mg C) (N : TxtN K mg NT) (M : Mths P w K mg base C NT fS fW fR dS dW dR) (D : Defs P w K mg base C NT fN fO fQ dN dO dQ) (h3 : 3 ≤ kV)
    (GL : FnOk P w K mg base (L2.CX P w) kV fL dL ["signs", "deep"] (inn C NT (fun n => listHere (valueHere n)) left)) (mL : mg "list_here" = some (.ref fL)) (kpL : PySem.W.keepIn K (.ref fL) = true) (bL : Binds K dL ["signs", "deep"] [])
    (GD : FnOk P w K mg base (L2.CX P w) kV fD dD ["signs", "deep"] (inn C NT (fun n => dictHere (valueHere n)) left)) (mD : mg "dict_here" = some (.ref fD)) (kpD : PySem.W.keepIn K (.ref fD) = true) (bD : Binds K dD ["signs", "deep"] [])
    (GV : FnOk P w K mg base (L2.CX P w) kV g gd ["signs", "deep"] (inn C NT valueHere left)) (mV : mg "value_here" = some (.ref g)) (kpV : PySem.W.keepIn K (.ref g) = true) (bV : Binds K gd ["signs", "deep"] []) :
    FnOk P w K mg base (L2.CX P w) (kV + 1) f fd ["signs", "deep"] (spVal C NT (valueHere left) (40 - (left : Int))) := by
  refine F.okX scVal (fun vs H Q E h => ?_) (fun cdv A outer s H vs Q E hr h => ?_)
  · obtain ⟨p, T', n, rfl, _⟩ := h
    rfl
  obtain ⟨p, T', n, rfl, S, hn, hT, k⟩ := h
  have hT2 : (cds T').length ≤ 2000 := by rw [← len_cds]; exact hT
  refine ⟨_, pss_cons (ps_if (pt_val (pe_call D.gO (hr.mono (by omega)) rfl D.mO D.kO D.bO .nil (passes_call (takes_of rfl rfl rfl rfl) (fun _ _ _ _ h => h)) (pa_cons (pv 0) (pa_cons pe_str (pa_cons (pv 1) pa_nil)))) (by intro _; rfl))
      (pss_one (ps_ret (pe_call GL hr rfl mL kpL bL .nil (passes_call (takes_of rfl rfl rfl rfl) (fun _ _ _ _ h => h)) (pa_cons (pv 0) (pa_cons (pe_op op_add (pv 1) pe_int) pa_nil))))) pss_nil)
    (pss_cons (ps_if (pt_val (pe_call D.gO (hr.mono (by omega)) rfl D.mO D.kO D.bO .nil (passes_call (takes_of rfl rfl rfl rfl) (fun _ _ _ _ h => h)) (pa_cons (pv 0) (pa_cons pe_str (pa_cons (pv 1) pa_nil)))) (by intro _; rfl))
      (pss_one (ps_ret (pe_call GD hr rfl mD kpD bD .nil (passes_call (takes_of rfl rfl rfl rfl) (fun _ _ _ _ h => h)) (pa_cons (pv 0) (pa_cons (pe_op op_add (pv 1) pe_int) pa_nil))))) pss_nil)
    (pss_cons (ps_if (pt_val (pe_call D.gO (hr.mono (by omega)) rfl D.mO D.kO D.bO .nil (passes_call (takes_of rfl rfl rfl rfl) (fun _ _ _ _ h => h)) (pa_cons (pv 0) (pa_cons pe_str (pa_cons (pv 1) pa_nil)))) (by intro _; rfl))
      (pss_cons (ps_set (i := 2) scVal.nd rfl (Or.inl rfl) (pe_call D.gN (hr.mono (by omega)) rfl D.mN D.kN D.bN .nil (passes_call (takes_of rfl rfl rfl rfl) (fun _ _ _ _ h => h)) (pa_cons (pv 0) pa_nil)))
      (pss_cons (ps_expr (pe_meth (pv 0) T.cl M.mW M.gW (hr.mono (by omega)) M.bW .nil (passes_call (takes_of rfl rfl rfl rfl) (fun _ _ _ _ h => h)) (pa_cons pe_str pa_nil)))
      (pss_cons (ps_set (i := 3) scVal.nd rfl (Or.inl rfl) (pe_call GV hr rfl mV kpV bV .nil (passes_call (takes_of rfl rfl rfl rfl) (fun _ _ _ _ h => h)) (pa_cons (pv 0) (pa_cons (pe_op op_add (pv 1) pe_int) pa_nil))))
      (pss_cons (ps_expr (pe_meth (pv 0) T.cl M.mW M.gW (hr.mono (by omega)) M.bW .nil (passes_call (takes_of rfl rfl rfl rfl) (fun _ _ _ _ h => h)) (pa_cons pe_str pa_nil)))
      (pss_one (ps_ret (pe_tup (pa_cons (pv 2) (pa_cons (pv 3) pa_nil))))))))) pss_nil)
    (pss_cons (ps_if (pt_val (pe_meth (pv 0) T.cl M.mS M.gS (hr.mono (by omega)) M.bS .nil pass0 (pa_cons pe_str pa_nil)) (by intro _; rfl))
      (pss_one (ps_ret (pe_call D.gQ (hr.mono (by omega)) rfl D.mQ D.kQ D.bQ .nil (passes_call (takes_of rfl rfl rfl rfl) (fun _ _ _ _ h => h)) (pa_cons (pv 0) pa_nil)))) pss_nil)
    (pss_cons (ps_if (pt_val (pe_meth (pv 0) T.cl M.mS M.gS (hr.mono (by omega)) M.bS .nil pass0 (pa_cons pe_str pa_nil)) (by intro _; rfl))
      (pss_cons (ps_if (pt_cmpR op_ne (pe_slice sl_str (pe_fld (pv 0) rfl) (po_some (pe_fld (pv 0) rfl)) (po_some (pe_op op_add (pe_fld (pv 0) rfl) pe_int))) pe_str (nomark _))
        (pss_one (ps_raise rfl (takes_of rfl rfl rfl rfl) (pmk_own PySem.F.excBase_ValueError N.xN N.gN N.kN (raises_own N.bN N.tN) rfl))) pss_nil)
      (pss_cons (ps_fldaug (pv 0) pe_int in_add)
      (pss_one (ps_ret pe_non)))) pss_nil)
    (pss_one (ps_ret (pe_call D.gN (hr.mono (by omega)) rfl D.mN D.kN D.bN .nil (passes_call (takes_of rfl rfl rfl rfl) (fun _ _ _ _ h => h)) (pa_cons (pv 0) pa_nil)))))))), ?_⟩
  walk_at "ss"
  have reg : ∀ {H1 H2 : Hp} {j : Nat} {v : V} {x : PV}, SgAt C H1 p T' j → Kp p H H1 → Is (fun a => H1 a = none) H2 v x → Is (fun a => H a = none) H2 v x := fun S1 k1 I => I.imp (fun a s => Kp.old S1 k1 s) fun _ _ _ e => e
  rw [valueHere_eq] at k
  refine rd_opens 91 sg91 S hn hT (fun c1 c2 => ?_) (fun nn c1 c2 n1 H1 hl1 el1 S1 k1 => ?_) (fun c1 n1 H1 hl1 el1 S1 k1 => ?_)
  · subst c2
    rw [c1, if_pos rfl] at k
    exact k
  · subst c2
    rw [c1, if_pos rfl, el1] at k
    dsimp only [under] at k
    walk_at "ss"
    show spVal C NT (listHere (valueHere nn)) (40 - (nn : Int)) ([.ref p, .int (40 - ((nn + 1 : Nat) : Int) + 1)] ++ []) H1 _ _
    rw [deeper]
    refine ⟨p, T', n1, rfl, S1, hl1, hT, ?_⟩
    cases e1 : listHere (valueHere nn) ((cds T').drop n1) with
    | bad => rw [e1] at k; exact k
    | no => rw [e1] at k; exact fun H2 k2 => k H2 (k1.trans k2)
    | ok xr => rw [e1] at k; exact fun v n2 H2 l2 S2 k2 I2 => k v n2 H2 l2 S2 (k1.trans k2) (reg S1 k1 I2)
  rw [c1, if_neg Bool.false_ne_true, el1] at k
  walk_at "ss"
  refine rd_opens 123 sg123 S1 hl1 hT (fun c1 c2 H2 k2 => ?_) (fun nn c1 c2 n2 H2 hl2 el2 S2 k2' => ?_) (fun c1 n2 H2 hl2 el2 S2 k2' => ?_)
  · subst c2
    rw [c1, if_pos rfl] at k
    exact k H2 (k1.trans k2)
  · have k2 := k1.trans k2'
    subst c2
    rw [c1, if_pos rfl, el2] at k
    dsimp only [under] at k
    walk_at "ss"
    show spVal C NT (dictHere (valueHere nn)) (40 - (nn : Int)) ([.ref p, .int (40 - ((nn + 1 : Nat) : Int) + 1)] ++ []) H2 _ _
    rw [deeper]
    refine ⟨p, T', n2, rfl, S2, hl2, hT, ?_⟩
    cases e1 : dictHere (valueHere nn) ((cds T').drop n2) with
    | bad => rw [e1] at k; exact k
    | no => rw [e1] at k; exact fun H3 k3 => k H3 (k2.trans k3)
    | ok xr => rw [e1] at k; exact fun v n3 H3 l3 S3 k3 I3 => k v n3 H3 l3 S3 (k2.trans k3) (reg S2 k2 I3)
  have k2 := k1.trans k2'
  rw [c1, if_neg Bool.false_ne_true, el2] at k
  walk_at "ss"
  refine rd_opens 40 sg40 S2 hl2 hT (fun c1 c2 H3 k3 => ?_) (fun nn c1 c2 n3 H3 hl3 el3 S3 k3' => ?_) (fun c1 n3 H3 hl3 el3 S3 k3' => ?_)
  · subst c2
    rw [c1, if_pos rfl] at k
    exact k H3 (k2.trans k3)
  · have k3 := k2.trans k3'
    subst c2
    rw [c1, if_pos rfl, el3] at k
    dsimp only [under] at k
    unfold tupHere at k
    walk_at "ss"
    refine ⟨p, T', n3, rfl, S3, hl3, hT, ?_⟩
    dsimp only
    cases e1 : numberHere ((cds T').drop n3) with
    | bad => rw [e1] at k; exact k
    | no => rw [e1] at k; exact fun H4 k4 => k H4 (k3.trans k4)
    | ok xr =>
      obtain ⟨i, r1⟩ := xr
      rw [e1] at k
      dsimp only at k
      intro n4 H4 l4 S4 k4'
      have k4 := k3.trans k4'
      have el4 : r1 = (cds T').drop n4 := l4.2.symm
      subst el4
      walk_at "ss"
      refine rd_meth S4 rfl (by decide +kernel) (by decide +kernel) ?_
      walk_at "ss"
      refine ⟨p, T', n4, [44], congrArg (fun x => [V.ref p, V.str x]) sg44, Nat.le_refl 1, S4, l4.1, hT, ?_⟩
      rw [seesC_one]
      cases eb : (sees 44 ((cds T').drop n4)).1 with
      | false =>
        rw [eb, if_neg Bool.false_ne_true] at k
        rw [if_neg Bool.false_ne_true]
        exact fun H5 k5 => k H5 (k4.trans k5)
      | true =>
        rw [eb, if_pos rfl] at k
        rw [if_pos rfl]
        intro n5 H5 l5 S5 k5'
        have k5 := k4.trans k5'
        have el5 : (sees 44 ((cds T').drop n4)).2 = (cds T').drop n5 := l5.2.symm
        rw [el5] at k
        walk_at "ss"
        show spVal C NT (valueHere nn) (40 - (nn : Int)) ([.ref p, .int (40 - ((nn + 1 : Nat) : Int) + 1)] ++ []) H5 _ _
        rw [deeper]
        refine ⟨p, T', n5, rfl, S5, l5.1, hT, ?_⟩
        cases e2 : valueHere nn ((cds T').drop n5) with
        | bad => rw [e2] at k; exact k
        | no => rw [e2] at k; exact fun H6 k6 => k H6 (k5.trans k6)
        | ok xr =>
          obtain ⟨x, r2⟩ := xr
          rw [e2] at k
          dsimp only at k
          intro v n6 H6 l6 S6 k6' I6
          have k6 := k5.trans k6'
          have el6 : r2 = (cds T').drop n6 := l6.2.symm
          subst el6
          walk_at "ss"
          refine rd_meth S6 rfl (by decide +kernel) (by decide +kernel) ?_
          walk_at "ss"
          refine ⟨p, T', n6, [41], congrArg (fun x => [V.ref p, V.str x]) sg41, Nat.le_refl 1, S6, l6.1, hT, ?_⟩
          rw [seesC_one]
          cases eb : (sees 41 ((cds T').drop n6)).1 with
          | false =>
            rw [eb, if_neg Bool.false_ne_true] at k
            rw [if_neg Bool.false_ne_true]
            exact fun H7 k7 => k H7 (k6.trans k7)
          | true =>
            rw [eb, if_pos rfl] at k
            rw [if_pos rfl]
            intro n7 H7 l7 S7 k7'
            have k7 := k6.trans k7'
            walk_at "ss"
            refine ⟨by show 2 ≤ sizeLine; decide, fun t ht => ?_⟩
            have I7 : Is (fun a => H5 a = none) H7 v x := I6.imp (fun _ s => s) fun a u s e => k7' a u e (fun z => by
              obtain ⟨dx, z2⟩ := S5
              rw [z, z2] at s
              cases s)
            refine k (.ref t) n7 (upd H7 t (.tup [.int i, v])) l7 ?_ (k7.trans (Kp.new ht _)) (.tup (Kp.old S7 k7 ht) upd_same ?_)
            · obtain ⟨dx, z⟩ := S7
              exact ⟨dx, by rw [upd_ne (ne_of_none z ht)]; exact z⟩
            · exact (reg S5 k5 I7).imp (fun _ s => s) fun a u s e => by rw [upd_ne (ne_of_none e ht)]; exact e
  have k3 := k2.trans k3'
  rw [c1, if_neg Bool.false_ne_true, el3] at k
  unfold leafHere at k
  walk_at "ss"
  refine rd_meth S3 rfl (by decide +kernel) (by decide +kernel) ?_
  walk_at "ss"
  refine ⟨p, T', n3, [34], congrArg (fun x => [V.ref p, V.str x]) sg34, Nat.le_refl 1, S3, hl3, hT, fun n4 H4 l4 S4 k4' => ?_⟩
  have k4 := k3.trans k4'
  rw [seesC_one] at l4 ⊢
  have el4 : (sees 34 ((cds T').drop n3)).2 = (cds T').drop n4 := l4.2.symm
  cases eb : (sees 34 ((cds T').drop n3)).1 with
  | true =>
    rw [eb, if_pos rfl, el4] at k
    walk_at "ss"
    refine ⟨p, T', n4, rfl, S4, l4.1, hT, ?_⟩
    dsimp only
    cases e1 : quotedHere [] ((cds T').drop n4) with
    | bad => rw [e1] at k; exact k
    | no => rw [e1] at k; exact fun H5 k5 => k H5 (k4.trans k5)
    | ok xr => rw [e1] at k; exact fun n5 H5 l5 S5 k5 => k _ n5 H5 l5 S5 (k4.trans k5) (.str _)
  | false =>
    rw [eb, if_neg Bool.false_ne_true, el4] at k
    walk_at "ss"
    refine rd_meth S4 rfl (by decide +kernel) (by decide +kernel) ?_
    walk_at "ss"
    refine ⟨p, T', n4, [110], congrArg (fun x => [V.ref p, V.str x]) sg110, Nat.le_refl 1, S4, l4.1, hT, fun n5 H5 l5 S5 k5' => ?_⟩
    have k5 := k4.trans k5'
    rw [seesC_one] at l5 ⊢
    have el5 : (sees 110 ((cds T').drop n4)).2 = (cds T').drop n5 := l5.2.symm
    cases eb2 : (sees 110 ((cds T').drop n4)).1 with
    | false =>
      rw [eb2, if_neg Bool.false_ne_true, el5] at k
      walk_at "ss"
      refine ⟨p, T', n5, rfl, S5, l5.1, hT, ?_⟩
      dsimp only
      cases e1 : numberHere ((cds T').drop n5) with
      | bad => rw [e1] at k; exact k
      | no => rw [e1] at k; exact fun H6 k6 => k H6 (k5.trans k6)
      | ok xr => rw [e1] at k; exact fun n6 H6 l6 S6 k6 => k _ n6 H6 l6 S6 (k5.trans k6) (.int _)
    | true =>
      rw [eb2, if_pos rfl, el5] at k
      walk_at "ss"
      refine rd_text T S5 ?_
      walk_at "ss"
      refine rd_at T S5 ?_
      refine ⟨_, rfl, ?_⟩
      walk_at "ss"
      refine rd_at T S5 ?_
      walk_at "ss"
      refine ⟨_, rfl, ?_⟩
      refine ⟨_, rfl, small hT, ?_⟩
      rw [show (3 : Int) = ((3 : Nat) : Int) from rfl, cut_few, sgone]
      walk_at "ss"
      refine Hd.split (fun c2 => ?_) (fun c2 => ?_)
      · have z : ¬ ((cds T').drop n5).take 3 = [111, 110, 101] := by
          intro z
          rw [z] at c2
          simp at c2
        rw [if_neg z] at k
        exact k H5 k5
      · have z : ((cds T').drop n5).take 3 = [111, 110, 101] := by
          have z1 : decide ((⟨(((cds T').drop n5).take 3).toArray⟩ : Str) = ⟨([111, 110, 101] : List Nat).toArray⟩) = true := by simpa using c2
          exact SX.S_inj (of_decide_eq_true z1)
        rw [if_pos z] at k
        walk_at "ss"
        refine aug_at (k := 3) T S5 rfl fun H6 S6 k6 => ?_
        walk_at "ss"
        have zl := congrArg List.length z
        rw [List.length_take, List.length_drop] at zl
        have zl3 : ([111, 110, 101] : List Nat).length = 3 := rfl
        refine k .non (n5 + 3) H6 ⟨by omega, by rw [List.drop_drop]⟩ S6 (k5.trans k6) .non
theorem scOf : FnScope ["text", "signs", "value"] ["text"] (defScope sOf) := ⟨rfl, rfl, rfl, by decide +kernel, rfl, by decide +kernel, by decide +kernel⟩
end
end K91

set_option Elab.async false
set_option linter.all false
set_option maxRecDepth 100000
set_option maxHeartbeats 4000000
namespace K91
open PySem L2
local macro_rules | `(tactic| walk_at "s") => `(tactic| (with_reducible first
  | refine Hd.and_ ?_ | refine Hd.or_ ?_ | refine Hd.not_ ?_ | refine Hd.test ?_ | refine Hd.tb ?_ | refine Hd.bl ?_ | refine Hd.chain ?_ | refine Hd.op ?_ | refine Hd.un ?_
  | refine Hd.cb ?_ | refine Hd.nil ?_ | refine Hd.cons ?_ | refine Hd.if_ ?_ | refine Hd.seq ?_ | refine Hd.nx ?_ | refine Hd.ifs ?_ | refine Hd.ret ?_ | refine Hd.drop ?_
  | refine Hd.asg ?_ | refine Hd.name ?_ | refine Hd.tup ?_ | refine Hd.lst ?_ | refine Hd.int0 ?_ | refine Hd.intU ?_ | refine Hd.eqI ?_ | refine Hd.eqS ?_ | refine Hd.eqB ?_ | refine Hd.neI ?_ | refine Hd.neS ?_ | refine Hd.neB ?_
  | refine Hd.add ?_ | refine Hd.sub ?_ | refine Hd.call ?_ | refine Hd.callS ?_ | refine Hd.ifNT ?_ | refine Hd.ifNF ?_ | refine Hd.dput ?_ | refine Hd.din ?_ | refine Hd.dget ?_ | refine Hd.dnew ?_ | refine Hd.make ?_ | refine Hd.gsub ?_ | refine Hd.bm ?_ | refine Hd.sl ?_ | refine Hd.part ?_ | refine Hd.nopart ?_ | refine Hd.bm0 ?_ | refine Hd.c ?_ | refine Hd.ifT ?_ | refine Hd.ifF ?_))
local macro_rules | `(tactic| walk_at "v") => `(tactic| (with_reducible refine Hd.var ?_; refine ⟨_, rfl, ?_⟩))
local macro_rules | `(tactic| walk_at "ss") => `(tactic| (repeat first | walk_at "s" | walk_at "v"))

local macro_rules | `(tactic| walk_at "t") => `(tactic| (repeat with_reducible first | refine Hd.seq ?_ | refine Hd.nx ?_ | refine Hd.asg ?_ | refine Hd.name ?_ | refine Hd.ifT ?_ | refine Hd.ifF ?_))
local macro_rules | `(tactic| walk_at "m") => `(tactic| (repeat with_reducible first | exact Hd.mVar | exact Hd.mC | exact Hd.mNil | exact Hd.mI0 | exact Hd.mEq | exact Hd.mNe | exact Hd.mLen | exact Hd.mStarts | refine Hd.mBM ?_ ?_ ?_ | refine Hd.mOr ?_ ?_ | refine Hd.mAnd ?_ ?_ | refine Hd.mNot ?_ | refine Hd.mTest ?_ | refine Hd.mTb ?_ | refine Hd.mOp ?_ ?_ ?_ | refine Hd.mFld ?_ | refine Hd.mCB ?_ ?_ | refine Hd.mCons ?_ ?_))

theorem none_fn {P : Program} {w : World} {K : PySem.W.Frag} {mg : Str → Option Value} {base : Heap} {CX : CXT} {k : Nat} {f : Addr} {fd : FuncData} {ps : List Str} : FnOk P w K mg base CX k f fd ps (fun _ _ _ _ => False) :=
  ⟨fun _ _ _ _ h => h.elim, fun _ _ _ _ _ _ _ _ _ _ _ _ _ h => h.elim⟩
/-- where the defs of the reader stand -/
structure Std (K : PySem.W.Frag) (mg : Str → Option Value) (fL fD fV fN' : Addr) (dL dD dV dN' : FuncData) : Prop where
  FL : Fun K "list_here" "list_here" sList fL dL
  mL : mg "list_here" = some (.ref fL)
  bL : Binds K dL ["signs", "deep"] []
  FD : Fun K "dict_here" "dict_here" sDict fD dD
  mD : mg "dict_here" = some (.ref fD)
  bD : Binds K dD ["signs", "deep"] []
  FV : Fun K "value_here" "value_here" sVal fV dV
  mV : mg "value_here" = some (.ref fV)
  bV : Binds K dV ["signs", "deep"] []
  FN : Fun K "name_here" "name_here" sName fN' dN'
  mN : mg "name_here" = some (.ref fN')
  bN : Binds K dN' ["signs"] []
section
variable {P : Program} {w : World} {K : PySem.W.Frag} {mg : Str → Option Value} {base : Heap} {f g C NT fS fW fR fN fO fQ fL fD fV fN' fI : Addr} {fd gd dS dW dR dN dO dQ dL dD dV dN' dI : FuncData}
theorem all_val (T : Txt K mg C) (N : TxtN K mg NT) (G : TxtG mg) (M : Mths P w K mg base C NT fS fW fR dS dW dR) (D : Defs P w K mg base C NT fN fO fQ dN dO dQ) (Z : Std K mg fL fD fV fN' dL dD dV dN') :
    ∀ left : Nat, FnOk P w K mg base (L2.CX P w) (2 * left + 4) fV dV ["signs", "deep"] (spVal C NT (valueHere left) (40 - (left : Int)))
  | 0 => ok_val (left := 0) (kV := 3) Z.FV T N M D (Nat.le_refl _) none_fn Z.mL Z.FL.kp Z.bL none_fn Z.mD Z.FD.kp Z.bD none_fn Z.mV Z.FV.kp Z.bV
  | n + 1 => by
    have ih := all_val T N G M D Z n
    have hL := ok_list (kV := 2 * n + 4) Z.FL T M (by omega) ih Z.mV Z.FV.kp Z.bV
    have hD := ok_dict (kV := 2 * n + 4) Z.FD T N M (by omega) (ok_name Z.FN T N G M) Z.mN Z.FN.kp Z.bN ih Z.mV Z.FV.kp Z.bV
    exact ok_val (left := n + 1) (kV := 2 * n + 4 + 1) Z.FV T N M D (by omega) hL Z.mL Z.FL.kp Z.bL hD Z.mD Z.FD.kp Z.bD (ih.mono (by omega)) Z.mV Z.FV.kp Z.bV
/-- what is no text -/
def NoStr (H : Hp) : V → Prop
  | .non => True
  | .bl _ => True
  | .int _ => True
  | .ref a => ∃ xs, H a = some (.lst xs)
  | _ => False
def spTextOf (NT : Addr) : Sp := fun vs H Q E => ∃ x : V, vs = [x] ∧ ((∃ T : Str, x = .str T ∧ T.length ≤ 2000 ∧
    match valueOf (cds T) with
    | .ok y => ∀ (v : V) (H' : Hp), Same H H' → Is (fun a => H a = none) H' v y → Q v H'
    | .no => ∀ H', Same H H' → E (.ref NT) none H'
    | .bad => False) ∨ (NoStr H x ∧ ∀ H', Same H H' → E (.ref NT) none H'))
theorem ok_of (F : Fun K "value_of" "value_of" sOf f fd) (T : Txt K mg C) (N : TxtN K mg NT) (G : TxtG mg) (M : Mths P w K mg base C NT fS fW fR dS dW dR) (D : Defs P w K mg base C NT fN fO fQ dN dO dQ) (Z : Std K mg fL fD fV fN' dL dD dV dN')
    (zi : mg "isinstance" = none) (zs : mg "str" = none) (mS : mg "Signs" = some (.ref C)) (MK : Mk K C fI) (GI : FnOk P w K mg base CX0 1 fI dI ["self", "text"] (spInit C)) (bI : Binds K dI ["self", "text"] []) :
    FnOk P w K mg base (L2.CX P w) 85 f fd ["text"] (spTextOf NT) := by
  have GV := all_val T N G M D Z 40
  refine F.okX scOf (fun vs H Q E h => ?_) (fun cdv A outer s H vs Q E hr h => ?_)
  · obtain ⟨x, rfl, _⟩ := h
    rfl
  obtain ⟨x, rfl, h⟩ := h
  refine ⟨_, pss_cons (ps_if (pt_not (pt_val (pe_callB call_isi (by rfl) zi (by decide +kernel) (pa_cons (pv 0) (pa_cons (pe_bltn (v := .ty "str") (by rfl) zs (by decide +kernel) rfl) pa_nil))) (by intro _; rfl)))
      (pss_one (ps_raise rfl (takes_of rfl rfl rfl rfl) (pmk_own PySem.F.excBase_ValueError N.xN N.gN N.kN (raises_own N.bN N.tN) rfl))) pss_nil)
    (pss_cons (ps_set (i := 1) scOf.nd rfl (Or.inl rfl) (pe_make MK GI (hr.mono (by decide)) rfl mS bI .nil pass0 (pa_cons (pv 0) pa_nil)))
    (pss_cons (ps_set (i := 2) scOf.nd rfl (Or.inl rfl) (pe_call GV hr rfl Z.mV Z.FV.kp Z.bV .nil (passes_call (takes_of rfl rfl rfl rfl) (fun _ _ _ _ h => h)) (pa_cons (pv 1) (pa_cons pe_int pa_nil))))
    (pss_cons (ps_expr (pe_meth (pv 1) T.cl M.mS M.gS (hr.mono (by decide)) M.bS .nil pass0 (pa_cons pe_str pa_nil)))
    (pss_cons (ps_if (pt_cmpR op_lt (pe_fld (pv 1) rfl) (pe_callB call_len_str (by rfl) T.len PySem.boot_len (pa_cons (pv 0) pa_nil)) (nomark _))
      (pss_one (ps_raise rfl (takes_of rfl rfl rfl rfl) (pmk_own PySem.F.excBase_ValueError N.xN N.gN N.kN (raises_own N.bN N.tN) rfl))) pss_nil)
    (pss_one (ps_ret (pv 2))))))), ?_⟩
  walk_at "ss"
  rcases h with ⟨T', rfl, hT, k⟩ | ⟨ns, k⟩
  · refine ⟨_, _, .type "str", .type "str", true, rfl, .ty "str", .base (.str T'), kit_ty (by decide +kernel), ?_⟩
    walk_at "ss"
    intro p dx np nd nep
    have Hp0 : (upd (upd H dx (.own p)) p (.ins C dx [])) p = some (.ins C dx []) := upd_same
    refine ⟨p, dx, T', rfl, Hp0, fun H2 S2 k2 => ⟨rfl, ?_⟩⟩
    have s2 : Same H H2 := Same.made np nd fun b o e n => k2 b o e n
    have sk : ∀ {H3 : Hp}, Kp p H2 H3 → Same H H3 := fun k3 b o e => k3 b o (s2 b o e) (ne_of_none e np)
    walk_at "ss"
    refine ⟨p, T', 0, rfl, S2, Nat.zero_le _, hT, ?_⟩
    rw [List.drop_zero]
    unfold valueOf at k
    cases e1 : valueHere 40 (cds T') with
    | bad => rw [e1] at k; exact k
    | no => rw [e1] at k; exact fun H3 k3 => k H3 (sk k3)
    | ok xr =>
      obtain ⟨y, r1⟩ := xr
      rw [e1] at k
      dsimp only at k
      intro v n3 H3 l3 S3 k3 I3
      have el3 : r1 = (cds T').drop n3 := l3.2.symm
      subst el3
      walk_at "ss"
      refine rd_meth S3 rfl (by decide +kernel) (by decide +kernel) ?_
      walk_at "ss"
      rw [nil_str]
      refine ⟨p, T', n3, [], rfl, Nat.zero_le 1, S3, l3.1, hT, fun n4 H4 l4 S4 k4 => ?_⟩
      rw [seesC_nil] at l4
      walk_at "ss"
      refine rd_at T S4 ?_
      walk_at "ss"
      refine ⟨_, rfl, small hT, ?_⟩
      walk_at "ss"
      have ll := l4.len
      rw [len_cds]
      refine Hd.split (fun c1 => ?_) (fun c1 => ?_)
      · have c1' : n4 < (cds T').length := by
          have z := of_decide_eq_true c1
          omega
        dsimp only at ll
        have z : ¬ skipB ((cds T').drop n3) = [] := by
          intro z
          rw [z, List.length_nil] at ll
          omega
        rw [if_neg z] at k
        exact k H4 (sk (k3.trans k4))
      · have c1' : (cds T').length ≤ n4 := by
          have z := of_decide_eq_false c1
          omega
        have z : skipB ((cds T').drop n3) = [] := by
          apply List.eq_nil_of_length_eq_zero
          dsimp only at ll
          omega
        rw [if_pos z] at k
        walk_at "ss"
        refine k v H4 (sk (k3.trans k4)) (I3.imp (fun a s => s2.free s) fun a u s e => k4 a u e (fun z => by
          obtain ⟨dx', e2⟩ := S2
          rw [z, e2] at s
          cases s))
  · have fin : ∀ {t : String}, TyX K H x (.type t) → kitB t "str" = some false → rIsi K [x, V.ty "str"] H fun x_1 H' => x_1 = .bl false ∧ H' = H := fun ty e => ⟨_, _, _, .type "str", false, rfl, .ty "str", ty, kit_ty e, rfl, rfl⟩
    have go : rIsi K [x, V.ty "str"] H fun x_1 H' => x_1 = .bl false ∧ H' = H := by
      cases x with
      | non => exact fin (.base .non) (by decide +kernel)
      | bl b => exact fin (.base (.bl b)) (by decide +kernel)
      | int b => exact fin (.base (.int b)) (by decide +kernel)
      | ref a =>
        obtain ⟨xs, e⟩ := ns
        exact fin (.base (.lst e)) (by decide +kernel)
      | str _ => exact ns.elim
      | byt _ => exact ns.elim
      | flt _ => exact ns.elim
      | ty _ => exact ns.elim
    obtain ⟨a, b, c, d, e, e1, e2, e3, e4, e5, -⟩ := go
    injection e5 with e5
    subst e5
    refine ⟨a, b, c, d, false, e1, e2, e3, e4, ?_⟩
    walk_at "ss"
    exact k H (Same.refl H)
end
end K91

set_option Elab.async false
set_option linter.all false
set_option maxRecDepth 100000
set_option maxHeartbeats 4000000
namespace K91
open PySem L2
local macro_rules | `(tactic| walk_at "s") => `(tactic| (with_reducible first
  | refine Hd.and_ ?_ | refine Hd.or_ ?_ | refine Hd.not_ ?_ | refine Hd.test ?_ | refine Hd.tb ?_ | refine Hd.bl ?_ | refine Hd.chain ?_ | refine Hd.op ?_ | refine Hd.un ?_
  | refine Hd.cb ?_ | refine Hd.nil ?_ | refine Hd.cons ?_ | refine Hd.if_ ?_ | refine Hd.seq ?_ | refine Hd.nx ?_ | refine Hd.ifs ?_ | refine Hd.ret ?_ | refine Hd.drop ?_
  | refine Hd.asg ?_ | refine Hd.name ?_ | refine Hd.tup ?_ | refine Hd.lst ?_ | refine Hd.int0 ?_ | refine Hd.intU ?_ | refine Hd.eqI ?_ | refine Hd.eqS ?_ | refine Hd.eqB ?_ | refine Hd.neI ?_ | refine Hd.neS ?_ | refine Hd.neB ?_
  | refine Hd.add ?_ | refine Hd.sub ?_ | refine Hd.call ?_ | refine Hd.callS ?_ | refine Hd.ifNT ?_ | refine Hd.ifNF ?_ | refine Hd.dput ?_ | refine Hd.din ?_ | refine Hd.dget ?_ | refine Hd.dnew ?_ | refine Hd.make ?_ | refine Hd.gsub ?_ | refine Hd.bm ?_ | refine Hd.sl ?_ | refine Hd.part ?_ | refine Hd.nopart ?_ | refine Hd.bm0 ?_ | refine Hd.c ?_ | refine Hd.ifT ?_ | refine Hd.ifF ?_))
local macro_rules | `(tactic| walk_at "v") => `(tactic| (with_reducible refine Hd.var ?_; refine ⟨_, rfl, ?_⟩))
local macro_rules | `(tactic| walk_at "ss") => `(tactic| (repeat first | walk_at "s" | walk_at "v"))

local macro_rules | `(tactic| walk_at "t") => `(tactic| (repeat with_reducible first | refine Hd.seq ?_ | refine Hd.nx ?_ | refine Hd.asg ?_ | refine Hd.name ?_ | refine Hd.ifT ?_ | refine Hd.ifF ?_))
local macro_rules | `(tactic| walk_at "m") => `(tactic| (repeat with_reducible first | exact Hd.mVar | exact Hd.mC | exact Hd.mNil | exact Hd.mI0 | exact Hd.mEq | exact Hd.mNe | exact Hd.mLen | exact Hd.mStarts | refine Hd.mBM ?_ ?_ ?_ | refine Hd.mOr ?_ ?_ | refine Hd.mAnd ?_ ?_ | refine Hd.mNot ?_ | refine Hd.mTest ?_ | refine Hd.mTb ?_ | refine Hd.mOp ?_ ?_ ?_ | refine Hd.mFld ?_ | refine Hd.mCB ?_ ?_ | refine Hd.mCons ?_ ?_))

abbrev sTold : Stmt := top 29
/-- the classes of errors, as the law asks them -/
structure TxtE (K : PySem.W.Frag) (mg : Str → Option Value) (NT NB NL NF FE : Addr) : Prop where
  gB : mg "NoBytes" = some (.ref NB)
  gL : mg "NoLayout" = some (.ref NL)
  gF : mg "NoFit" = some (.ref NF)
  gE : mg "FormError" = some (.ref FE)
  exm : PySem.W.exmOne K (.ref NT) (.ref FE) = some true
  oB : PySem.W.kitOne K (.ref NT) (.ref NB) = some false
  oL : PySem.W.kitOne K (.ref NT) (.ref NL) = some false
  oF : PySem.W.kitOne K (.ref NT) (.ref NF) = some false
  oT : PySem.W.kitOne K (.ref NT) (.ref NT) = some true
  oV : PySem.W.kitOne K (.ref NT) (.type "ValueError") = some true
  ec : ExcC K NT
def rIsEO (K : PySem.W.Frag) (D a : Addr) (cls : Value) (d : Option Addr) : List V → Hp → VK → Prop := fun xs H Q => cls = .ref D ∧ d = none ∧ ∃ (c : V) (cv : Value) (b : Bool), xs = [.ref a, c] ∧ ClsV c cv ∧ PySem.W.kitOne K (.ref D) cv = some b ∧ Q (.bl b) H
def rIsET (K : PySem.W.Frag) (D a : Addr) (cls : Value) (d : Option Addr) : List V → Hp → VK → Prop := fun xs H Q => cls = .ref D ∧ d = none ∧ ∃ (tp : Addr) (cs : List V) (us : List Value) (b : Bool), xs = [.ref a, .ref tp] ∧ H tp = some (.tup cs) ∧ Paired ClsV cs us ∧ PySem.W.kitAny K (.ref D) us = some b ∧ Q (.bl b) H
section
variable {X : Cx} {a D : Addr} {oe : Obj} {pn : List (Addr × Obj)} {cls : Value} {d : Option Addr}
theorem exc_at (hz : Zc (.ref D) none oe) (hf : ∃ vs, oe.data = .fields vs) {pins : List (Addr × Obj)} {σ : L2.St} {H : Hp} {s : Shared} (I : Inv (X.suite a ((a, oe) :: pn)) pins σ H s) : PySem.W.InstAt s.heap a oe D none := by
  obtain ⟨hget, _⟩ := I.pin (a, oe) (List.mem_append.mpr (.inl List.mem_cons_self))
  obtain ⟨vs, hv⟩ := hf
  obtain ⟨oc, od, oda, osl⟩ := oe
  obtain ⟨h1, h2⟩ := hz
  dsimp only at h1 h2 hv
  subst h1 h2 hv
  exact ⟨hget, rfl, rfl, trivial⟩
theorem call_isEO (C : ExcC X.K D) (hz : Zc cls d oe) (hf : ∃ vs, oe.data = .fields vs) : CallR (X.suite a ((a, oe) :: pn)) (.builtin "isinstance") (rIsEO X.K D a cls d) := by
  intro pins s σ H xs us Q I r h
  obtain ⟨rfl, rfl, c, cv, b, rfl, k, e, q⟩ := h
  obtain ⟨u1, u2, rfl, r1, r2⟩ := vals2 r
  have e2 := k.eq r2
  subst e2
  cases (show u1 = Value.ref a from r1)
  exact PySem.W.kia_one (PySem.W.handS_kitx_exc C.hg C.hk C.hs C.hd C.ha C.hn C.ht C.hm) I.kIn (exc_at hz hf I) e (fun z => nomatch z) fun tk => ⟨.bl b, H, I.kept (t' := tk) fun _ _ z => z, rfl, q⟩
theorem call_isET (C : ExcC X.K D) (hz : Zc cls d oe) (hf : ∃ vs, oe.data = .fields vs) : CallR (X.suite a ((a, oe) :: pn)) (.builtin "isinstance") (rIsET X.K D a cls d) := by
  intro pins s σ H xs us Q I r h
  obtain ⟨rfl, rfl, tp, cs, ws, b, rfl, hT, k, e, q⟩ := h
  obtain ⟨u1, u2, rfl, r1, r2⟩ := vals2 r
  cases (show u2 = Value.ref tp from r2)
  cases (show u1 = Value.ref a from r1)
  obtain ⟨_, its, rv, o, h1, h2, n, h3⟩ := (show ObjOk X.prog X.w H s.heap tp (.tup cs) from I.hok tp _ hT)
  have e3 := ClsV.all k rv
  subst e3
  obtain ⟨oc, od, dt, sl⟩ := o
  simp only at h2 h3
  subst h2 h3
  exact PySem.W.kia_tup (PySem.W.handS_kitx_exc C.hg C.hk C.hs C.hd C.ha C.hn C.ht C.hm) I.kIn (exc_at hz hf I) h1 e (fun z => nomatch z) fun tk => ⟨.bl b, H, I.kept (t' := tk) fun _ _ z => z, rfl, q⟩
end
def spTold : Sp := fun vs H Q _ => ∃ x : V, vs = [x] ∧ ((∃ T : Str, x = .str T ∧ T.length ≤ 2000 ∧
    match valueOf (cds T) with
    | .ok y => ∀ (v : V) (a : Addr) (H' : Hp), Same H H' → H a = none → H' a = some (.tup [v]) → Is (fun a => H a = none) H' v y → Q (.ref a) H'
    | .no => ∀ (a : Addr) (H' : Hp), Same H H' → H a = none → H' a = some (.tup []) → Q (.ref a) H'
    | .bad => False) ∨ (NoStr H x ∧ ∀ (a : Addr) (H' : Hp), Same H H' → H a = none → H' a = some (.tup []) → Q (.ref a) H'))
section
variable {P : Program} {w : World} {K : PySem.W.Frag} {mg : Str → Option Value} {base : Heap} {f g NT NB NL NF FE : Addr} {fd gd : FuncData}
theorem scTold : FnScope ["_law_text", "e"] ["_law_text"] (defScope sTold) := ⟨rfl, rfl, rfl, by decide +kernel, rfl, by decide +kernel, by decide +kernel⟩
theorem ok_told (F : Fun K "_law_told" "_law_told" sTold f fd) (N : TxtN K mg NT) (E' : TxtE K mg NT NB NL NF FE) (zi : mg "isinstance" = none) (zv : mg "ValueError" = none)
    (GV : FnOk P w K mg base (L2.CX P w) 85 g gd ["text"] (spTextOf NT)) (mV : mg "value_of" = some (.ref g)) (kV : PySem.W.keepIn K (.ref g) = true) (bV : Binds K gd ["text"] []) :
    FnOk P w K mg base CX0 86 f fd ["_law_text"] spTold := by
  refine F.ok scTold (fun vs H Q E h => ?_) (fun cdv A outer s H vs Q E hr h => ?_)
  · obtain ⟨x, rfl, _⟩ := h
    rfl
  obtain ⟨x, rfl, h⟩ := h
  refine ⟨_, pss_cons (ps_try_as (i := 1) (Wout := fun _ _ _ _ => False) rfl rfl scTold.nd rfl rfl ⟨rfl, by decide, Or.inl E'.gE⟩ takes0
      (fun W pn xe tk _ => pss_one (ps_ret (pe_tup (pa_cons (pe_callS GV (hr.mono (by decide)) rfl mV kV bV (fun σ => passAt tk σ) (pa_cons (pv 0) pa_nil)) pa_nil))))
      (fun a oe cls d pn hz hf => pss_cons (ps_if (pt_val (pe_callB (call_isET E'.ec hz hf) (by rfl) zi (by decide +kernel) (pa_cons (pv 1) (pa_cons (pe_tup (pa_cons (pe_glob (v := .ref NB) rfl E'.gB rfl) (pa_cons (pe_glob (v := .ref NL) rfl E'.gL rfl) (pa_cons (pe_glob (v := .ref NF) rfl E'.gF rfl) pa_nil)))) pa_nil))) (by intro _; rfl)) (pss_one (ps_ret pe_non)) pss_nil)
        (pss_one (ps_if (PW.pt (pw_and (pt_val (pe_callB (call_isEO E'.ec hz hf) (by rfl) zi (by decide +kernel) (pa_cons (pv 1) (pa_cons (pe_glob (v := .ref NT) rfl N.gN rfl) pa_nil))) (by intro _; rfl))
            (pw_and1 (pt_val (pe_callB (call_isEO E'.ec hz hf) (by rfl) zi (by decide +kernel) (pa_cons (pv 1) (pa_cons (pe_bltn (v := .ty "ValueError") (by rfl) zv (by decide +kernel) rfl) pa_nil))) (by intro _; rfl)))))
          (pss_one (ps_ret (pe_tup pa_nil))) pss_nil))))
    (pss_one (ps_ret pe_non)), ?_⟩
  have three : PySem.W.kitAny K (.ref NT) [.ref NB, .ref NL, .ref NF] = some false :=
    kitAny_cons E'.oB (fun _ => kitAny_cons E'.oL (fun _ => kitAny_cons E'.oF (fun _ => kitAny_nil) (fun z => nomatch z)) (fun z => nomatch z)) (fun z => nomatch z)
  walk_at "ss"
  refine ⟨x, rfl, ?_⟩
  rcases h with ⟨T', rfl, hT, k⟩ | ⟨ns, k⟩
  · refine .inl ⟨T', rfl, hT, ?_⟩
    cases e1 : valueOf (cds T') with
    | bad => rw [e1] at k; exact k
    | no =>
      rw [e1] at k
      intro H' s'
      refine ⟨true, E'.exm, fun _ a na => ?_, fun z => nomatch z⟩
      walk_at "ss"
      refine ⟨(by show 3 ≤ sizeLine; decide), fun tp ht => ?_⟩
      walk_at "ss"
      refine ⟨rfl, rfl, tp, _, [.ref NB, .ref NL, .ref NF], false, rfl, upd_same, .cons (.own _) (.cons (.own _) (.cons (.own _) .nil)), three, ?_⟩
      walk_at "ss"
      refine ⟨rfl, rfl, _, _, true, rfl, .own _, E'.oT, ?_⟩
      walk_at "ss"
      refine ⟨rfl, rfl, _, _, true, rfl, .ty _, E'.oV, ?_⟩
      walk_at "ss"
      refine ⟨by decide, fun t2 ht2 => ?_⟩
      have s2 : Same H (upd H' tp (.tup [V.ref NB, V.ref NL, V.ref NF])) := s'.trans (fun b u q => by rw [upd_ne (ne_of_none q ht)]; exact q)
      exact k t2 _ (s2.trans fun b u q => by rw [upd_ne (ne_of_none q ht2)]; exact q) (s2.free ht2) upd_same
    | ok y =>
      rw [e1] at k
      intro v H' s' I
      walk_at "ss"
      refine ⟨(by show 1 ≤ sizeLine; decide), fun t ht => ?_⟩
      exact k v t _ (s'.trans fun b u q => by rw [upd_ne (ne_of_none q ht)]; exact q) (s'.free ht) upd_same (I.imp (fun _ h => h) fun a u _ e => by rw [upd_ne (ne_of_none e ht)]; exact e)
  · refine .inr ⟨ns, ?_⟩
    intro H' s'
    refine ⟨true, E'.exm, fun _ a na => ?_, fun z => nomatch z⟩
    walk_at "ss"
    refine ⟨(by show 3 ≤ sizeLine; decide), fun tp ht => ?_⟩
    walk_at "ss"
    refine ⟨rfl, rfl, tp, _, [.ref NB, .ref NL, .ref NF], false, rfl, upd_same, .cons (.own _) (.cons (.own _) (.cons (.own _) .nil)), three, ?_⟩
    walk_at "ss"
    refine ⟨rfl, rfl, _, _, true, rfl, .own _, E'.oT, ?_⟩
    walk_at "ss"
    refine ⟨rfl, rfl, _, _, true, rfl, .ty _, E'.oV, ?_⟩
    walk_at "ss"
    refine ⟨by decide, fun t2 ht2 => ?_⟩
    have s2 : Same H (upd H' tp (.tup [V.ref NB, V.ref NL, V.ref NF])) := s'.trans (fun b u q => by rw [upd_ne (ne_of_none q ht)]; exact q)
    exact k t2 _ (s2.trans fun b u q => by rw [upd_ne (ne_of_none q ht2)]; exact q) (s2.free ht2) upd_same
end
end K91

set_option Elab.async false
set_option linter.all false
set_option maxRecDepth 100000
set_option maxHeartbeats 4000000
namespace K91
open PySem L2
local macro_rules | `(tactic| walk_at "s") => `(tactic| (with_reducible first
  | refine Hd.and_ ?_ | refine Hd.or_ ?_ | refine Hd.not_ ?_ | refine Hd.test ?_ | refine Hd.tb ?_ | refine Hd.bl ?_ | refine Hd.chain ?_ | refine Hd.op ?_ | refine Hd.un ?_
  | refine Hd.cb ?_ | refine Hd.nil ?_ | refine Hd.cons ?_ | refine Hd.if_ ?_ | refine Hd.seq ?_ | refine Hd.nx ?_ | refine Hd.ifs ?_ | refine Hd.ret ?_ | refine Hd.drop ?_
  | refine Hd.asg ?_ | refine Hd.name ?_ | refine Hd.tup ?_ | refine Hd.lst ?_ | refine Hd.int0 ?_ | refine Hd.intU ?_ | refine Hd.eqI ?_ | refine Hd.eqS ?_ | refine Hd.eqB ?_ | refine Hd.neI ?_ | refine Hd.neS ?_ | refine Hd.neB ?_
  | refine Hd.add ?_ | refine Hd.sub ?_ | refine Hd.call ?_ | refine Hd.callS ?_ | refine Hd.ifNT ?_ | refine Hd.ifNF ?_ | refine Hd.dput ?_ | refine Hd.din ?_ | refine Hd.dget ?_ | refine Hd.dnew ?_ | refine Hd.make ?_ | refine Hd.gsub ?_ | refine Hd.bm ?_ | refine Hd.sl ?_ | refine Hd.part ?_ | refine Hd.nopart ?_ | refine Hd.bm0 ?_ | refine Hd.c ?_ | refine Hd.ifT ?_ | refine Hd.ifF ?_))
local macro_rules | `(tactic| walk_at "v") => `(tactic| (with_reducible refine Hd.var ?_; refine ⟨_, rfl, ?_⟩))
local macro_rules | `(tactic| walk_at "ss") => `(tactic| (repeat first | walk_at "s" | walk_at "v"))

local macro_rules | `(tactic| walk_at "t") => `(tactic| (repeat with_reducible first | refine Hd.seq ?_ | refine Hd.nx ?_ | refine Hd.asg ?_ | refine Hd.name ?_ | refine Hd.ifT ?_ | refine Hd.ifF ?_))
local macro_rules | `(tactic| walk_at "m") => `(tactic| (repeat with_reducible first | exact Hd.mVar | exact Hd.mC | exact Hd.mNil | exact Hd.mI0 | exact Hd.mEq | exact Hd.mNe | exact Hd.mLen | exact Hd.mStarts | refine Hd.mBM ?_ ?_ ?_ | refine Hd.mOr ?_ ?_ | refine Hd.mAnd ?_ ?_ | refine Hd.mNot ?_ | refine Hd.mTest ?_ | refine Hd.mTb ?_ | refine Hd.mOp ?_ ?_ ?_ | refine Hd.mFld ?_ | refine Hd.mCB ?_ ?_ | refine Hd.mCons ?_ ?_))

abbrev sCell : Stmt := top 22
abbrev sNext : Stmt := top 23
abbrev sState : Stmt := top 24
abbrev sOfS : Stmt := top 25
abbrev sOfL : Stmt := top 33
abbrev sEdit : Stmt := top 35
/-- a cell of the script -/
def spCell (K : PySem.W.Frag) : Sp := fun vs H Q _ => ∃ (a : Addr) (ns : List Int) (j : Nat), vs = [.ref a, .int (j : Int)] ∧ SqL K H a (ns.map V.int) ∧ Q (.int (ns.getD j 0)) H
/-- the state: two numbers -/
def St2 (H : Hp) (s : Addr) : Prop := ∃ a b : Int, H s = some (.lst [.int a, .int b])
/-- all but s is as it was, s is a state -/
def But (s : Addr) (H H' : Hp) : Prop := St2 H' s ∧ ∀ b o, H b = some o → b ≠ s → H' b = some o
def spNext : Sp := fun vs H Q _ => ∃ s : Addr, vs = [.ref s] ∧ St2 H s ∧ ∀ (r : Int) (H' : Hp), 0 ≤ r → But s H H' → Q (.int r) H'
def spState (K : PySem.W.Frag) : Sp := fun vs H Q _ => ∃ (a : Addr) (ns : List Int) (j : Nat), vs = [.ref a, .int (j : Int)] ∧ SqL K H a (ns.map V.int) ∧ ∀ (s : Addr) (H' : Hp), H s = none → Same H H' → St2 H' s → Q (.ref s) H'
/-- a sign of a text -/
def spOfS : Sp := fun vs H Q _ => ∃ (s : Addr) (z : Str), vs = [.ref s, .str z] ∧ St2 H s ∧ cds z ≠ [] ∧ z.length ≤ 2000 ∧ ∀ (c : Nat) (H' : Hp), c ∈ cds z → But s H H' → Q (.str ⟨([c] : List Nat).toArray⟩) H'
section
variable {P : Program} {w : World} {K : PySem.W.Frag} {mg : Str → Option Value} {base : Heap} {f g fC fX : Addr} {fd gd dC dX : FuncData}
theorem scCell : FnScope ["_law_script", "_law_k"] ["_law_script", "_law_k"] (defScope sCell) := ⟨rfl, rfl, rfl, by decide +kernel, rfl, by decide +kernel, by decide +kernel⟩
theorem ok_cell (F : Fun K "_law_cell_at" "_law_cell_at" sCell f fd) (ml : mg "len" = none) : FnOk P w K mg base CX0 1 f fd ["_law_script", "_law_k"] (spCell K) := by
  refine F.ok scCell (fun vs H Q E h => ?_) (fun cdv A outer s H vs Q E hr h => ?_)
  · obtain ⟨a, ns, j, rfl, _⟩ := h
    rfl
  obtain ⟨a, ns, j, rfl, hS, k⟩ := h
  refine ⟨_, pss_cons (ps_if (pt_cmpR op_lt (pv 1) (pe_callB call_len_seq (by rfl) ml PySem.boot_len (pa_cons (pv 0) pa_nil)) (nomark _)) (pss_one (ps_ret (pe_ix ix_list (pv 0) (pv 1) (fun _ _ => rfl)))) pss_nil)
    (pss_one (ps_ret pe_int)), ?_⟩
  walk_at "ss"
  refine ⟨a, _, rfl, .inl hS, ?_⟩
  walk_at "ss"
  rw [List.length_map]
  refine Hd.split (fun c1 => ?_) (fun c1 => ?_)
  · have c1' : j < ns.length := by simpa using c1
    walk_at "ss"
    refine ⟨a, _, _, .int ns[j], rfl, rfl, hS, atI_nat (by rw [List.getElem?_map, List.getElem?_eq_getElem c1']; rfl), ?_⟩
    have e : ns.getD j 0 = ns[j] := by simp [List.getD, c1']
    rw [e] at k
    exact k
  · have c1' : ¬ j < ns.length := by simpa using c1
    walk_at "ss"
    have e : ns.getD j 0 = 0 := by simp [List.getD, List.getElem?_eq_none (Nat.not_lt.mp c1')]
    rw [e] at k
    exact k
theorem scNext : FnScope ["_law_state_here"] ["_law_state_here"] (defScope sNext) := ⟨rfl, rfl, rfl, by decide +kernel, rfl, by decide +kernel, by decide +kernel⟩
theorem ok_next (F : Fun K "_law_next" "_law_next" sNext f fd) : FnOk P w K mg base CX0 1 f fd ["_law_state_here"] spNext := by
  refine F.ok scNext (fun vs H Q E h => ?_) (fun cdv A outer s H vs Q E hr h => ?_)
  · obtain ⟨p, rfl, _⟩ := h
    rfl
  obtain ⟨p, rfl, ⟨a, b, hp⟩, k⟩ := h
  refine ⟨_, pss_cons (ps_asg (pe_op op_mod (pe_op op_add (pe_op op_mul (pe_ix ix_list (pv 0) pe_int (fun _ _ => rfl)) pe_int) pe_int) pe_int) (pg_sub (pv 0) pe_int set_list))
    (pss_cons (ps_asg (pe_op op_fdivW (pe_ix ix_list (pv 0) pe_int (fun _ _ => rfl)) pe_int) (pg_sub (pv 0) pe_int set_list))
    (pss_one (ps_ret (pe_op op_mod (pe_op op_add (pe_op op_fdiv (pe_op op_mod (pe_op op_mul (pe_ix ix_list (pv 0) pe_int (fun _ _ => rfl)) (pe_ix ix_list (pv 0) pe_int (fun _ _ => rfl))) pe_int) pe_int) (pe_ix ix_list (pv 0) pe_int (fun _ _ => rfl))) pe_int)))), ?_⟩
  walk_at "ss"
  refine Hd.ixL (SqL.of hp) rfl ?_
  walk_at "ss"
  refine Hd.intC ?_ (.inr ⟨by decide, by decide⟩)
  walk_at "ss"
  refine Hd.intC ?_ (by decide)
  walk_at "ss"
  refine Hd.setL hp rfl ?_
  have B1 : ∀ x, But p H (upd H p (.lst [.int x, .int b])) := fun x => ⟨⟨x, b, upd_same⟩, fun c o e n => by rw [upd_ne n]; exact e⟩
  generalize hx : (a * 48271 + 11) % 2147483647 = x
  have x0 : 0 ≤ x := by rw [← hx]; exact Int.emod_nonneg _ (by decide)
  have x1 : x < 2147483647 := by rw [← hx]; exact Int.emod_lt_of_pos _ (by decide)
  walk_at "ss"
  refine Hd.ixL (SqL.of upd_same) rfl ?_
  walk_at "ss"
  refine Hd.intC ?_ (wide_div (b := 33) (by decide) (by decide) (by decide) (by decide))
  walk_at "ss"
  refine Hd.setL upd_same rfl ?_
  rw [upd_upd]
  walk_at "ss"
  refine Hd.ixL (SqL.of upd_same) rfl ?_
  walk_at "ss"
  refine Hd.ixL (SqL.of upd_same) rfl ?_
  refine Hd.intC ?_ (.inl ⟨by omega, by omega⟩)
  walk_at "ss"
  refine Hd.intC ?_ (by decide)
  walk_at "ss"
  refine Hd.intC ?_ ⟨by decide, by decide⟩
  walk_at "ss"
  refine Hd.ixL (SqL.of upd_same) rfl ?_
  walk_at "ss"
  refine Hd.intC ?_ (by decide)
  exact k _ _ (Int.emod_nonneg _ (by decide)) ⟨⟨_, _, upd_same⟩, fun c o e n => by rw [upd_ne n]; exact e⟩
theorem scState : FnScope ["_law_script", "_law_first", "_law_cell"] ["_law_script", "_law_first"] (defScope sState) := ⟨rfl, rfl, rfl, by decide +kernel, rfl, by decide +kernel, by decide +kernel⟩
theorem ok_state (F : Fun K "_law_state" "_law_state" sState f fd) (za : mg "abs" = none) (GC : FnOk P w K mg base CX0 1 fC dC ["_law_script", "_law_k"] (spCell K)) (mC : mg "_law_cell_at" = some (.ref fC)) (kC : PySem.W.keepIn K (.ref fC) = true) (bC : Binds K dC ["_law_script", "_law_k"] []) :
    FnOk P w K mg base CX0 2 f fd ["_law_script", "_law_first"] (spState K) := by
  refine F.ok scState (fun vs H Q E h => ?_) (fun cdv A outer s H vs Q E hr h => ?_)
  · obtain ⟨a, ns, j, rfl, _⟩ := h
    rfl
  obtain ⟨a, ns, j, rfl, hS, k⟩ := h
  refine ⟨_, pss_cons (ps_set (i := 2) scState.nd rfl (Or.inl rfl) (pe_call GC hr rfl mC kC bC .nil pass0 (pa_cons (pv 0) (pa_cons (pv 1) pa_nil))))
    (pss_one (ps_ret (pe_lst (pa_cons (pe_op op_add (pe_op op_add pe_int (pe_op op_mod (pv 2) pe_int)) (pe_op op_mod (pe_call GC hr rfl mC kC bC .nil pass0 (pa_cons (pv 0) (pa_cons (pe_op op_add (pv 1) pe_int) pa_nil))) pe_int))
      (pa_cons (pe_op op_fdivW (pe_callB call_abs (by rfl) za (by decide +kernel) (pa_cons (pv 2) pa_nil)) (pe_op op_pow pe_int pe_int)) pa_nil))))), ?_⟩
  walk_at "ss"
  refine ⟨a, ns, j, rfl, hS, ?_⟩
  walk_at "ss"
  refine Hd.intC ?_ (by decide)
  walk_at "ss"
  refine ⟨a, ns, j + 1, rfl, hS, ?_⟩
  walk_at "ss"
  refine Hd.intC ?_ (by decide)
  walk_at "ss"
  refine ⟨_, rfl, ?_⟩
  walk_at "ss"
  refine Hd.intC ?_ ⟨by decide, by decide, by decide⟩
  refine Hd.intC ?_ (wide_div (b := 60) (by decide) (by decide) (by decide) (by decide))
  walk_at "ss"
  refine ⟨(by show 2 ≤ sizeLine; decide), fun p hp => ?_⟩
  exact k p _ hp (fun b u q => by rw [upd_ne (ne_of_none q hp)]; exact q) ⟨_, _, upd_same⟩
theorem scOfS : FnScope ["_law_state_here", "_law_some_here"] ["_law_state_here", "_law_some_here"] (defScope sOfS) := ⟨rfl, rfl, rfl, by decide +kernel, rfl, by decide +kernel, by decide +kernel⟩
theorem ok_ofS (F : Fun K "_law_of" "_law_of" sOfS f fd) (ml : mg "len" = none) (GX : FnOk P w K mg base CX0 1 fX dX ["_law_state_here"] spNext) (mX : mg "_law_next" = some (.ref fX)) (kX : PySem.W.keepIn K (.ref fX) = true) (bX : Binds K dX ["_law_state_here"] []) :
    FnOk P w K mg base CX0 2 f fd ["_law_state_here", "_law_some_here"] spOfS := by
  refine F.ok scOfS (fun vs H Q E h => ?_) (fun cdv A outer s H vs Q E hr h => ?_)
  · obtain ⟨a, z, rfl, _⟩ := h
    rfl
  obtain ⟨a, z, rfl, hS, hz, hT, k⟩ := h
  refine ⟨_, pss_one (ps_ret (pe_item_str (pv 1) (pe_op op_mod (pe_call GX hr rfl mX kX bX .nil pass0 (pa_cons (pv 0) pa_nil)) (pe_callB call_len_str (by rfl) ml PySem.boot_len (pa_cons (pv 1) pa_nil))) (fun _ _ => rfl))), ?_⟩
  have h0 : 0 < (cds z).length := List.length_pos_iff.mpr hz
  walk_at "ss"
  refine ⟨a, rfl, hS, fun r H' hr0 B => ?_⟩
  walk_at "ss"
  refine ⟨_, rfl, small hT, ?_⟩
  rw [len_cds]
  refine Hd.intC ?_ (by omega)
  have g0 : 0 ≤ r % ((cds z).length : Int) := Int.emod_nonneg _ (by omega)
  have g1 : r % ((cds z).length : Int) < ((cds z).length : Int) := Int.emod_lt_of_pos _ (by omega)
  generalize r % ((cds z).length : Int) = i at *
  obtain ⟨j, rfl⟩ := Int.eq_ofNat_of_zero_le g0
  have hj : j < (cds z).length := by omega
  obtain ⟨f1, f2, f3, f4⟩ := item1 hj hT
  refine ⟨_, _, _, rfl, rfl, f1, f2, f3, f4, ?_⟩
  exact k _ _ (List.getElem_mem hj) B
end
end K91

set_option Elab.async false
set_option linter.all false
set_option maxRecDepth 100000
set_option maxHeartbeats 4000000
namespace K91
open PySem L2
local macro_rules | `(tactic| walk_at "s") => `(tactic| (with_reducible first
  | refine Hd.and_ ?_ | refine Hd.or_ ?_ | refine Hd.not_ ?_ | refine Hd.test ?_ | refine Hd.tb ?_ | refine Hd.bl ?_ | refine Hd.chain ?_ | refine Hd.op ?_ | refine Hd.un ?_
  | refine Hd.cb ?_ | refine Hd.nil ?_ | refine Hd.cons ?_ | refine Hd.if_ ?_ | refine Hd.seq ?_ | refine Hd.nx ?_ | refine Hd.ifs ?_ | refine Hd.ret ?_ | refine Hd.drop ?_
  | refine Hd.asg ?_ | refine Hd.name ?_ | refine Hd.tup ?_ | refine Hd.lst ?_ | refine Hd.int0 ?_ | refine Hd.intU ?_ | refine Hd.eqI ?_ | refine Hd.eqS ?_ | refine Hd.eqB ?_ | refine Hd.neI ?_ | refine Hd.neS ?_ | refine Hd.neB ?_
  | refine Hd.add ?_ | refine Hd.sub ?_ | refine Hd.call ?_ | refine Hd.callS ?_ | refine Hd.ifNT ?_ | refine Hd.ifNF ?_ | refine Hd.dput ?_ | refine Hd.din ?_ | refine Hd.dget ?_ | refine Hd.dnew ?_ | refine Hd.make ?_ | refine Hd.gsub ?_ | refine Hd.bm ?_ | refine Hd.sl ?_ | refine Hd.part ?_ | refine Hd.nopart ?_ | refine Hd.bm0 ?_ | refine Hd.c ?_ | refine Hd.ifT ?_ | refine Hd.ifF ?_))
local macro_rules | `(tactic| walk_at "v") => `(tactic| (with_reducible refine Hd.var ?_; refine ⟨_, rfl, ?_⟩))
local macro_rules | `(tactic| walk_at "ss") => `(tactic| (repeat first | walk_at "s" | walk_at "v"))

local macro_rules | `(tactic| walk_at "t") => `(tactic| (repeat with_reducible first | refine Hd.seq ?_ | refine Hd.nx ?_ | refine Hd.asg ?_ | refine Hd.name ?_ | refine Hd.ifT ?_ | refine Hd.ifF ?_))
local macro_rules | `(tactic| walk_at "m") => `(tactic| (repeat with_reducible first | exact Hd.mVar | exact Hd.mC | exact Hd.mNil | exact Hd.mI0 | exact Hd.mEq | exact Hd.mNe | exact Hd.mLen | exact Hd.mStarts | refine Hd.mBM ?_ ?_ ?_ | refine Hd.mOr ?_ ?_ | refine Hd.mAnd ?_ ?_ | refine Hd.mNot ?_ | refine Hd.mTest ?_ | refine Hd.mTb ?_ | refine Hd.mOp ?_ ?_ ?_ | refine Hd.mFld ?_ | refine Hd.mCB ?_ ?_ | refine Hd.mCons ?_ ?_))

abbrev sNone : Stmt := top 30
def edT : List Nat := [123, 97, 98, 58, 32, 91, 123, 107, 58, 32, 49, 125, 44, 32, 123, 107, 58, 32, 45, 50, 48, 125, 93, 44, 32, 99, 58, 32, 40, 50, 44, 32, 123, 120, 58, 32, 34, 97, 92, 34, 98, 34, 125, 41, 44, 32, 100, 58, 32, 110, 111, 110, 101, 125]
def edS : List Nat := [97, 98, 110, 123, 125, 91, 93, 40, 41, 44, 58, 34, 92, 32, 48, 49, 57, 45]
theorem edT_str : (Str.ofString "{ab: [{k: 1}, {k: -20}], c: (2, {x: \"a\\\"b\"}), d: none}") = ⟨edT.toArray⟩ := by decide +kernel
theorem edS_str : (Str.ofString "abn{}[](),:\"\\ 019-") = ⟨edS.toArray⟩ := by decide +kernel
def edit (at_ d : Nat) (nw : List Nat) : List Nat := edT.take at_ ++ nw ++ edT.drop (at_ + d)
def spEdit : Sp := fun vs H Q _ => ∃ s : Addr, vs = [.ref s] ∧ St2 H s ∧ ∀ (at_ d : Nat) (nw : List Nat) (H' : Hp), at_ ≤ edT.length → d ≤ 1 → (nw = [] ∨ ∃ c ∈ edS, nw = [c]) → But s H H' → Q (.str ⟨(edit at_ d nw).toArray⟩) H'
/-- an item of a list, whichever -/
def spOfL (K : PySem.W.Frag) : Sp := fun vs H Q _ => ∃ (a : Addr) (xs : List V) (c : Int), vs = [.ref a, .int c] ∧ SqL K H a xs ∧ xs ≠ [] ∧ ∀ x ∈ xs, Q x H
def noneS0 : List Str := [Str.ofString "", Str.ofString " ", Str.ofString "[", Str.ofString "]", Str.ofString "{", Str.ofString "(1, 2", Str.ofString "(1)", Str.ofString "(1,)", Str.ofString "()", Str.ofString "[1,]", Str.ofString "[,1]", Str.ofString "{a}", Str.ofString "{a:}"]
def noneS1 : List Str := [Str.ofString "{a:1,}", Str.ofString "{a:1 b:2}", Str.ofString "{a:1, a:2}", Str.ofString "{A: 1}", Str.ofString "{a1: 1}", Str.ofString "{abcdefghi: 1}", Str.ofString "{: 1}"]
def noneS2 : List Str := [Str.ofString "01", Str.ofString "-0", Str.ofString "-", Str.ofString "--1", Str.ofString "- 1", Str.ofString "1 2", Str.ofString "1234567890123", Str.ofString "+1", Str.ofString "1.5", Str.ofString "0x1", Str.ofString "None"]
def noneS3 : List Str := [Str.ofString "nones", Str.ofString "non", Str.ofString "none none", Str.ofString "true", Str.ofString "a", Str.ofString "\"a", Str.ofString "a\"", Str.ofString "\"\\a\"", Str.ofString "\"a\\\""]
def noneS4 : List Str := [Str.ofString "[1]]", Str.ofString "{a:[}", Str.ofString "(a, 1)", Str.ofString "([1], 2)", Str.ofString "[1;2]", Str.ofString "1\t", Str.ofString "\n1"]
def noneS5 : List Str := [Str.ofString "\"\\n\"", Str.ofString "\"\\t\"", Str.ofString "\"a\\ b\"", Str.ofString "\"\\u\""]
def noneS6 : List Str := [Str.ofString "'a'", Str.ofString "[1 2]", Str.ofString "((1, 2), 3)"]
abbrev noneS : List Str := ((((((noneS0 ++ noneS1) ++ noneS2) ++ noneS3) ++ noneS4) ++ noneS5) ++ noneS6)

/-- a list under way -/
structure Cur (H0 H : Hp) (l : Addr) (xs : List V) : Prop where
  sm : Same H0 H
  nw : H0 l = none
  at_ : H l = some (.lst xs)
theorem Same.put {H : Hp} {p : Addr} (h : H p = none) (o : HO) : Same H (upd H p o) := fun b u q => by rw [upd_ne (ne_of_none q h)]; exact q
theorem Cur.first {H : Hp} {p : Addr} (h : H p = none) (xs : List V) : Cur H (upd H p (.lst xs)) p xs := ⟨Same.put h _, h, upd_same⟩
theorem cat_cur {H0 H : Hp} {l b : Addr} {xs zs : List V} {Q : VK} (G : Cur H0 H l xs) (hb : H b = none) (hl : xs.length + zs.length ≤ sizeLine) (q : ∀ p H', Cur H0 H' p (xs ++ zs) → Q (.ref p) H') : rCat (.ref l) (.ref b) (upd H b (.lst zs)) Q := by
  have s1 : Same H (upd H b (.lst zs)) := Same.put hb _
  refine ⟨l, b, xs, zs, rfl, rfl, s1 _ _ G.at_, upd_same, hl, fun p hp => q p _ ⟨(G.sm.trans s1).trans (Same.put hp _), (G.sm.trans s1).free hp, upd_same⟩⟩
def spNone : Sp := fun vs H Q _ => vs = [] ∧ ∀ (a : Addr) (H' : Hp), Same H H' → H a = none → H' a = some (.lst (noneS.map V.str)) → Q (.ref a) H'
theorem cut_to {T : Str} {n : Nat} : cutS T none (some (n : Int)) = ⟨((cds T).take n).toArray⟩ := by
  have e : T.length = (cds T).length := len_cds T
  unfold cutS
  rw [HT.sIx_nat, HT.sIx_none, e, Nat.sub_zero, List.drop_zero]
  by_cases h : n ≤ (cds T).length
  · rw [Nat.min_eq_left h]
  · rw [Nat.min_eq_right (by omega), List.take_of_length_le (Nat.le_refl _), List.take_of_length_le (by omega)]
theorem cut_from {T : Str} {n : Nat} : cutS T (some (n : Int)) none = ⟨((cds T).drop n).toArray⟩ := by
  have e : T.length = (cds T).length := len_cds T
  unfold cutS
  rw [HT.sIx_nat, HT.sIx_none, e]
  by_cases h : n ≤ (cds T).length
  · rw [Nat.min_eq_left h, List.take_of_length_le (by rw [List.length_drop]; exact Nat.le_refl _)]
  · rw [Nat.min_eq_right (by omega), List.drop_eq_nil_of_le (as := cds T) (i := n) (by omega), List.drop_eq_nil_of_le (Nat.le_refl _)]
    simp
theorem But.trans {s : Addr} {H H1 H2 : Hp} (a : But s H H1) (b : But s H1 H2) : But s H H2 := ⟨b.1, fun c o e n => b.2 c o (a.2 c o e n) n⟩
section
variable {P : Program} {w : World} {K : PySem.W.Frag} {mg : Str → Option Value} {base : Heap} {f g fO fX : Addr} {fd gd dO dX : FuncData}
theorem scEdit : FnScope ["_law_state_here", "_law_text", "_law_at", "_law_new", "_law_behind"] ["_law_state_here"] (defScope sEdit) := ⟨rfl, rfl, rfl, by decide +kernel, rfl, by decide +kernel, by decide +kernel⟩
theorem ok_edit (F : Fun K "_law_edited" "_law_edited" sEdit f fd) (ml : mg "len" = none) (GX : FnOk P w K mg base CX0 1 fX dX ["_law_state_here"] spNext) (mX : mg "_law_next" = some (.ref fX)) (kX : PySem.W.keepIn K (.ref fX) = true) (bX : Binds K dX ["_law_state_here"] [])
    (GO : FnOk P w K mg base CX0 2 fO dO ["_law_state_here", "_law_some_here"] spOfS) (mO : mg "_law_of" = some (.ref fO)) (kO : PySem.W.keepIn K (.ref fO) = true) (bO : Binds K dO ["_law_state_here", "_law_some_here"] []) :
    FnOk P w K mg base CX0 3 f fd ["_law_state_here"] spEdit := by
  refine F.ok scEdit (fun vs H Q E h => ?_) (fun cdv A outer s H vs Q E hr h => ?_)
  · obtain ⟨a, rfl, _⟩ := h
    rfl
  obtain ⟨a, rfl, hS, k⟩ := h
  refine ⟨_, pss_cons (ps_set (i := 1) scEdit.nd rfl (Or.inl rfl) pe_str)
    (pss_cons (ps_set (i := 2) scEdit.nd rfl (Or.inl rfl) (pe_op op_mod (pe_call GX (hr.mono (by decide)) rfl mX kX bX .nil pass0 (pa_cons (pv 0) pa_nil)) (pe_op op_add (pe_callB call_len_str (by rfl) ml PySem.boot_len (pa_cons (pv 1) pa_nil)) pe_int)))
    (pss_cons (ps_set (i := 3) scEdit.nd rfl (Or.inl rfl) (pe_call GO hr rfl mO kO bO .nil pass0 (pa_cons (pv 0) (pa_cons pe_str pa_nil))))
    (pss_cons (ps_if (pt_cmpR op_eq (pe_op op_mod (pe_call GX (hr.mono (by decide)) rfl mX kX bX .nil pass0 (pa_cons (pv 0) pa_nil)) pe_int) pe_int (nomark _)) (pss_one (ps_set (i := 3) scEdit.nd rfl (Or.inl rfl) pe_str)) pss_nil)
    (pss_cons (ps_set (i := 4) scEdit.nd rfl (Or.inl rfl) (pe_op op_add (pv 2) (pe_op op_mod (pe_call GX (hr.mono (by decide)) rfl mX kX bX .nil pass0 (pa_cons (pv 0) pa_nil)) pe_int)))
    (pss_one (ps_ret (pe_op op_add_str (pe_op op_add_str (pe_slice sl_str (pv 1) po_none (po_some (pv 2))) (pv 3)) (pe_slice sl_str (pv 1) (po_some (pv 4)) po_none)))))))), ?_⟩
  have eT : (⟨edT.toArray⟩ : Str).length = edT.length := by simp [Str.length]
  have nT : edT.length ≤ 2000 := by decide
  have cT : cds ⟨edT.toArray⟩ = edT := rfl
  have cS : cds ⟨edS.toArray⟩ = edS := rfl
  walk_at "ss"
  rw [edT_str, edS_str]
  refine ⟨a, rfl, hS, fun r1 H1 hr1 B1 => ?_⟩
  walk_at "ss"
  refine ⟨_, rfl, by rw [eT]; exact small nT, ?_⟩
  rw [eT]
  walk_at "ss"
  refine Hd.intC ?_ (by omega)
  have g0 : 0 ≤ r1 % ((edT.length : Int) + 1) := Int.emod_nonneg _ (by omega)
  have g1 : r1 % ((edT.length : Int) + 1) < ((edT.length : Int) + 1) := Int.emod_lt_of_pos _ (by omega)
  generalize r1 % ((edT.length : Int) + 1) = i at *
  obtain ⟨j, rfl⟩ := Int.eq_ofNat_of_zero_le g0
  walk_at "ss"
  refine ⟨a, _, rfl, B1.1, (by rw [cS]; decide), (by simp [Str.length]; decide), fun c H2 hc B2 => ?_⟩
  rw [cS] at hc
  walk_at "ss"
  refine ⟨a, rfl, B2.1, fun r2 H3 hr2 B3 => ?_⟩
  walk_at "ss"
  refine Hd.intC ?_ (by decide)
  walk_at "ss"
  have fin : ∀ (nw : List Nat) (x4 : Option V), (nw = [] ∨ ∃ c ∈ edS, nw = [c]) → tSeq (tAsg (tOp (rI0 fun i j => V.int (i + j)) (tVar 2) (tOp (rI (fun _ j => 0 < j) fun i j => V.int (i % j)) (tCall spNext [] E0 (tCons (tVar 0) tNil)) (tC (V.int 2)))) (gName 4))
      (tRet (tOp (fun x y H Q => ∃ i j, x = V.str i ∧ y = V.str j ∧ i.length + j.length ≤ sizeLine ∧ Q (V.str (i ++ j)) H)
        (tOp (fun x y H Q => ∃ i j, x = V.str i ∧ y = V.str j ∧ i.length + j.length ≤ sizeLine ∧ Q (V.str (i ++ j)) H) (tSl rSlS (tVar 1) tNoPart (tPart (tVar 2))) (tVar 3)) (tSl rSlS (tVar 1) (tPart (tVar 4)) tNoPart)))
      { nx := fun _ H' => Q V.non H', rt := Q } [some (.ref a), some (.str ⟨edT.toArray⟩), some (.int (j : Int)), some (.str ⟨nw.toArray⟩), x4] H3 := by
    intro nw x4 hnw
    have ln : nw.length ≤ 1 := by
      rcases hnw with h | ⟨c, _, h⟩ <;> rw [h]
      · exact Nat.zero_le _
      · exact Nat.le_refl _
    walk_at "ss"
    refine ⟨a, rfl, B3.1, fun r4 H4 hr4 B4 => ?_⟩
    walk_at "ss"
    refine Hd.intC ?_ (by decide)
    have d0 : 0 ≤ r4 % 2 := Int.emod_nonneg _ (by decide)
    have d1 : r4 % 2 < 2 := Int.emod_lt_of_pos _ (by decide)
    generalize r4 % 2 = di at *
    obtain ⟨d, rfl⟩ := Int.eq_ofNat_of_zero_le d0
    walk_at "ss"
    refine ⟨_, rfl, ?_⟩
    refine ⟨_, rfl, by rw [eT]; exact small nT, ?_⟩
    rw [cut_to, cT]
    walk_at "ss"
    have la : (⟨(edT.take j).toArray⟩ : Str).length ≤ 2000 := by
      simp [Str.length]
      omega
    refine ⟨_, _, rfl, rfl, ?_, ?_⟩
    · have : (⟨nw.toArray⟩ : Str).length = nw.length := by simp [Str.length]
      rw [this]
      exact Nat.le_trans (Nat.add_le_add la ln) (by decide)
    rw [SX.S_cat]
    walk_at "ss"
    refine ⟨_, rfl, ?_⟩
    walk_at "ss"
    refine ⟨_, rfl, by rw [eT]; exact small nT, ?_⟩
    rw [show (j : Int) + (d : Int) = ((j + d : Nat) : Int) from rfl, cut_from, cT]
    refine ⟨_, _, rfl, rfl, ?_, ?_⟩
    · have e1 : (⟨(edT.take j ++ nw).toArray⟩ : Str).length = (edT.take j).length + nw.length := by simp [Str.length]
      have e2 : (⟨(edT.drop (j + d)).toArray⟩ : Str).length = edT.length - (j + d) := by simp [Str.length]
      have e3 : (edT.take j).length ≤ edT.length := by rw [List.length_take]; omega
      rw [e1, e2]
      exact Nat.le_trans (show _ ≤ 5000 by omega) (by decide)
    rw [SX.S_cat]
    exact k j d nw H4 (by omega) (by omega) hnw (((B1.trans B2).trans B3).trans B4)
  refine Hd.split (fun c1 => ?_) (fun c1 => ?_)
  · walk_at "t"
    walk_at "s"
    walk_at "t"
    rw [nil_str]
    exact fin [] none (.inl rfl)
  · walk_at "t"
    exact fin [c] none (.inr ⟨c, hc, rfl⟩)
theorem scOfL : FnScope ["_law_some_here", "_law_cell"] ["_law_some_here", "_law_cell"] (defScope sOfL) := ⟨rfl, rfl, rfl, by decide +kernel, rfl, by decide +kernel, by decide +kernel⟩
theorem ok_ofL (F : Fun K "_law_of_list" "_law_of_list" sOfL f fd) (ml : mg "len" = none) : FnOk P w K mg base CX0 1 f fd ["_law_some_here", "_law_cell"] (spOfL K) := by
  refine F.ok scOfL (fun vs H Q E h => ?_) (fun cdv A outer s H vs Q E hr h => ?_)
  · obtain ⟨a, xs, c, rfl, _⟩ := h
    rfl
  obtain ⟨a, xs, c, rfl, hS, hx, k⟩ := h
  refine ⟨_, pss_one (ps_ret (pe_ix ix_list (pv 0) (pe_op op_mod (pv 1) (pe_callB call_len_seq (by rfl) ml PySem.boot_len (pa_cons (pv 0) pa_nil))) (fun _ _ => rfl))), ?_⟩
  have h0 : 0 < xs.length := List.length_pos_iff.mpr hx
  walk_at "ss"
  refine ⟨a, _, rfl, .inl hS, ?_⟩
  refine Hd.intC ?_ (by omega)
  have g0 : 0 ≤ c % (xs.length : Int) := Int.emod_nonneg _ (by omega)
  have g1 : c % (xs.length : Int) < (xs.length : Int) := Int.emod_lt_of_pos _ (by omega)
  generalize c % (xs.length : Int) = i at *
  obtain ⟨j, rfl⟩ := Int.eq_ofNat_of_zero_le g0
  have hj : j < xs.length := by omega
  exact Hd.ixL hS (atI_nat (List.getElem?_eq_getElem hj)) (k _ (List.getElem_mem hj))
theorem scNone : FnScope ["_law_some_here"] [] (defScope sNone) := ⟨rfl, rfl, rfl, by decide +kernel, rfl, by decide +kernel, by decide +kernel⟩
theorem ok_none (F : Fun K "_law_none" "_law_none" sNone f fd) : FnOk P w K mg base CX0 1 f fd [] spNone := by
  refine F.ok scNone (fun vs H Q E h => ?_) (fun cdv A outer s H vs Q E hr h => ?_)
  · obtain ⟨rfl, _⟩ := h
    rfl
  obtain ⟨rfl, k⟩ := h
  refine ⟨_, (pss_cons (ps_set (i := 0) scNone.nd rfl (Or.inl rfl) (pe_lst (pa_cons pe_str (pa_cons pe_str (pa_cons pe_str (pa_cons pe_str (pa_cons pe_str (pa_cons pe_str (pa_cons pe_str (pa_cons pe_str (pa_cons pe_str (pa_cons pe_str (pa_cons pe_str (pa_cons pe_str (pa_cons pe_str pa_nil)))))))))))))))
    (pss_cons (ps_set (i := 0) scNone.nd rfl (Or.inl rfl) (pe_op op_cat (pv 0) (pe_lst (pa_cons pe_str (pa_cons pe_str (pa_cons pe_str (pa_cons pe_str (pa_cons pe_str (pa_cons pe_str (pa_cons pe_str pa_nil))))))))))
    (pss_cons (ps_set (i := 0) scNone.nd rfl (Or.inl rfl) (pe_op op_cat (pv 0) (pe_lst (pa_cons pe_str (pa_cons pe_str (pa_cons pe_str (pa_cons pe_str (pa_cons pe_str (pa_cons pe_str (pa_cons pe_str (pa_cons pe_str (pa_cons pe_str (pa_cons pe_str (pa_cons pe_str pa_nil))))))))))))))
    (pss_cons (ps_set (i := 0) scNone.nd rfl (Or.inl rfl) (pe_op op_cat (pv 0) (pe_lst (pa_cons pe_str (pa_cons pe_str (pa_cons pe_str (pa_cons pe_str (pa_cons pe_str (pa_cons pe_str (pa_cons pe_str (pa_cons pe_str (pa_cons pe_str pa_nil))))))))))))
    (pss_cons (ps_set (i := 0) scNone.nd rfl (Or.inl rfl) (pe_op op_cat (pv 0) (pe_lst (pa_cons pe_str (pa_cons pe_str (pa_cons pe_str (pa_cons pe_str (pa_cons pe_str (pa_cons pe_str (pa_cons pe_str pa_nil))))))))))
    (pss_cons (ps_set (i := 0) scNone.nd rfl (Or.inl rfl) (pe_op op_cat (pv 0) (pe_lst (pa_cons pe_str (pa_cons pe_str (pa_cons pe_str (pa_cons pe_str pa_nil)))))))
    (pss_cons (ps_set (i := 0) scNone.nd rfl (Or.inl rfl) (pe_op op_cat (pv 0) (pe_lst (pa_cons pe_str (pa_cons pe_str (pa_cons pe_str pa_nil))))))
    (pss_one (ps_ret (pv 0)))))))))), ?_⟩
  walk_at "ss"
  refine ⟨(by show 13 ≤ sizeLine; decide), fun p0 h0 => ?_⟩
  have G0 := Cur.first h0 (noneS0.map V.str)
  walk_at "ss"
  refine ⟨(by show 7 ≤ sizeLine; decide), fun q1 e1 => ?_⟩
  refine cat_cur (zs := noneS1.map V.str) G0 e1 (by show 13 + 7 ≤ sizeLine; decide) fun p1 H1 G1 => ?_
  walk_at "ss"
  refine ⟨(by show 11 ≤ sizeLine; decide), fun q2 e2 => ?_⟩
  refine cat_cur (zs := noneS2.map V.str) G1 e2 (by show 20 + 11 ≤ sizeLine; decide) fun p2 H2 G2 => ?_
  walk_at "ss"
  refine ⟨(by show 9 ≤ sizeLine; decide), fun q3 e3 => ?_⟩
  refine cat_cur (zs := noneS3.map V.str) G2 e3 (by show 31 + 9 ≤ sizeLine; decide) fun p3 H3 G3 => ?_
  walk_at "ss"
  refine ⟨(by show 7 ≤ sizeLine; decide), fun q4 e4 => ?_⟩
  refine cat_cur (zs := noneS4.map V.str) G3 e4 (by show 40 + 7 ≤ sizeLine; decide) fun p4 H4 G4 => ?_
  walk_at "ss"
  refine ⟨(by show 4 ≤ sizeLine; decide), fun q5 e5 => ?_⟩
  refine cat_cur (zs := noneS5.map V.str) G4 e5 (by show 47 + 4 ≤ sizeLine; decide) fun p5 H5 G5 => ?_
  walk_at "ss"
  refine ⟨(by show 3 ≤ sizeLine; decide), fun q6 e6 => ?_⟩
  refine cat_cur (zs := noneS6.map V.str) G5 e6 (by show 51 + 3 ≤ sizeLine; decide) fun p6 H6 G6 => ?_
  walk_at "ss"
  exact k p6 H6 G6.sm G6.nw G6.at_
end
end K91

set_option Elab.async false
set_option linter.all false
set_option maxRecDepth 100000
set_option maxHeartbeats 4000000
namespace K91
open PySem L2
local macro_rules | `(tactic| walk_at "s") => `(tactic| (with_reducible first
  | refine Hd.and_ ?_ | refine Hd.or_ ?_ | refine Hd.not_ ?_ | refine Hd.test ?_ | refine Hd.tb ?_ | refine Hd.bl ?_ | refine Hd.chain ?_ | refine Hd.op ?_ | refine Hd.un ?_
  | refine Hd.cb ?_ | refine Hd.nil ?_ | refine Hd.cons ?_ | refine Hd.if_ ?_ | refine Hd.seq ?_ | refine Hd.nx ?_ | refine Hd.ifs ?_ | refine Hd.ret ?_ | refine Hd.drop ?_
  | refine Hd.asg ?_ | refine Hd.name ?_ | refine Hd.tup ?_ | refine Hd.lst ?_ | refine Hd.int0 ?_ | refine Hd.intU ?_ | refine Hd.eqI ?_ | refine Hd.eqS ?_ | refine Hd.eqB ?_ | refine Hd.neI ?_ | refine Hd.neS ?_ | refine Hd.neB ?_
  | refine Hd.add ?_ | refine Hd.sub ?_ | refine Hd.call ?_ | refine Hd.callS ?_ | refine Hd.ifNT ?_ | refine Hd.ifNF ?_ | refine Hd.dput ?_ | refine Hd.din ?_ | refine Hd.dget ?_ | refine Hd.dnew ?_ | refine Hd.make ?_ | refine Hd.gsub ?_ | refine Hd.bm ?_ | refine Hd.sl ?_ | refine Hd.part ?_ | refine Hd.nopart ?_ | refine Hd.bm0 ?_ | refine Hd.c ?_ | refine Hd.ifT ?_ | refine Hd.ifF ?_))
local macro_rules | `(tactic| walk_at "v") => `(tactic| (with_reducible refine Hd.var ?_; refine ⟨_, rfl, ?_⟩))
local macro_rules | `(tactic| walk_at "ss") => `(tactic| (repeat first | walk_at "s" | walk_at "v"))

local macro_rules | `(tactic| walk_at "t") => `(tactic| (repeat with_reducible first | refine Hd.seq ?_ | refine Hd.nx ?_ | refine Hd.asg ?_ | refine Hd.name ?_ | refine Hd.ifT ?_ | refine Hd.ifF ?_))
local macro_rules | `(tactic| walk_at "m") => `(tactic| (repeat with_reducible first | exact Hd.mVar | exact Hd.mC | exact Hd.mNil | exact Hd.mI0 | exact Hd.mEq | exact Hd.mNe | exact Hd.mLen | exact Hd.mStarts | refine Hd.mBM ?_ ?_ ?_ | refine Hd.mOr ?_ ?_ | refine Hd.mAnd ?_ ?_ | refine Hd.mNot ?_ | refine Hd.mTest ?_ | refine Hd.mTb ?_ | refine Hd.mOp ?_ ?_ ?_ | refine Hd.mFld ?_ | refine Hd.mCB ?_ ?_ | refine Hd.mCons ?_ ?_))

abbrev sSome : Stmt := top 31
def someS0 : List (Str × PV) := [(Str.ofString "0", (.int 0)), (Str.ofString "-7", (.int (-7))), (Str.ofString " 12 ", (.int 12)), (Str.ofString "999999999999", (.int 999999999999)), (Str.ofString "none", .non)]
def someS1 : List (Str × PV) := [(Str.ofString "\"\"", (.str [])), (Str.ofString "\"\\\\\\\"\"", (.str [92, 34])), (Str.ofString "[]", (.lst [])), (Str.ofString "[ ]", (.lst [])), (Str.ofString "{}", (.dct []))]
def someS2 : List (Str × PV) := [(Str.ofString "( 3 , none )", (.tup 3 .non)), (Str.ofString "[[], {}, (0, [1])]", (.lst [(.lst []), (.dct []), (.tup 0 (.lst [(.int 1)]))]))]
def someS3 : List (Str × PV) := [(Str.ofString "{ b : 1 , a : \"x, y\" }", (.dct [([98], (.int 1)), ([97], (.str [120, 44, 32, 121]))]))]
def someS4 : List (Str × PV) := [(Str.ofString "{rest: [1]}", (.dct [([114, 101, 115, 116], (.lst [(.int 1)]))])), (Str.ofString "(-2, -2)", (.tup (-2) (.int (-2))))]
def someS5 : List (Str × PV) := [(Str.ofString "\" : { [\"", (.str [32, 58, 32, 123, 32, 91]))]
abbrev someS : List (Str × PV) := (((((someS0 ++ someS1) ++ someS2) ++ someS3) ++ someS4) ++ someS5)
/-- a text and the value that is due -/
def Pr (S : Addr → Prop) (H : Hp) (v : V) (x : Str × PV) : Prop := ∃ t d, v = .ref t ∧ S t ∧ H t = some (.tup [.str x.1, d]) ∧ Is S H d x.2
theorem Pr.imp {S S' : Addr → Prop} {H H' : Hp} (h1 : ∀ a, S a → S' a) (h2 : ∀ a o, S a → H a = some o → H' a = some o) {v : V} {x : Str × PV} (h : Pr S H v x) : Pr S' H' v x := by
  obtain ⟨t, d, e, s, h, i⟩ := h
  exact ⟨t, d, e, h1 _ s, h2 _ _ s h, i.imp h1 h2⟩
abbrev Nw (H : Hp) : Addr → Prop := fun a => H a = none
def Prs (S : Addr → Prop) (H : Hp) (vs : List V) (xs : List (Str × PV)) : Prop := Paired (fun x v => Pr S H v x) xs vs
theorem Prs.imp {S S' : Addr → Prop} {H H' : Hp} (h1 : ∀ a, S a → S' a) (h2 : ∀ a o, S a → H a = some o → H' a = some o) {vs : List V} {xs : List (Str × PV)} (h : Prs S H vs xs) : Prs S' H' vs xs := by
  induction h with
  | nil => exact .nil
  | cons a b ih => exact .cons (a.imp h1 h2) ih
theorem Prs.app {S : Addr → Prop} {H : Hp} {vs us : List V} {xs zs : List (Str × PV)} (h : Prs S H vs xs) (g : Prs S H us zs) : Prs S H (vs ++ us) (xs ++ zs) := by
  induction h with
  | nil => exact g
  | cons a b ih => exact .cons a ih
theorem Prs.len {S : Addr → Prop} {H : Hp} {vs : List V} {xs : List (Str × PV)} (h : Prs S H vs xs) : vs.length = xs.length := by
  induction h with
  | nil => rfl
  | cons a b ih => simp [ih]
/-- what makes a value, all new -/
def MkV (t : TE) (x : PV) : Prop := ∀ σ H Q, (∀ v H', Same H H' → Is (Nw H) H' v x → Q v H') → t σ H Q
def MkA (t : TA) (xs : List PV) : Prop := ∀ σ H Q, (∀ vs H', Same H H' → IsL (Nw H) H' vs xs → Q vs H') → t σ H Q
def MkP (t : List (TE × TE)) (kvs : List (List Nat × PV)) : Prop := ∀ σ H Q, (∀ kv H', Same H H' → IsD (Nw H) H' kv kvs → Q (kv.map fun kv => (kV kv.1, kv.2)) H') → tPairs t σ H Q
def MkI (t : TE) (x : Str × PV) : Prop := ∀ σ H Q, (∀ v H', Same H H' → Pr (Nw H) H' v x → Q v H') → t σ H Q
def MkL (t : TA) (xs : List (Str × PV)) : Prop := ∀ σ H Q, (∀ vs H', Same H H' → Prs (Nw H) H' vs xs → Q vs H') → t σ H Q
theorem nw_put {H : Hp} {p : Addr} (h : H p = none) (o : HO) : ∀ a o', Nw H a → H a = some o' → upd H p o a = some o' := fun a o' n e => by rw [show H a = none from n] at e; cases e
theorem keep_new {S : Addr → Prop} {H : Hp} {p : Addr} (h : H p = none) (o : HO) : ∀ a o', S a → H a = some o' → upd H p o a = some o' := fun a o' _ e => Same.put h o a o' e
theorem mk_non : MkV (tC .non) .non := fun σ H Q q => q _ _ (Same.refl H) .non
theorem mk_int (i : Int) : MkV (tC (.int i)) (.int i) := fun σ H Q q => q _ _ (Same.refl H) (.int i)
theorem mk_neg (i : Int) : MkV (tUn (rU fun i => .int (-i)) (tC (.int i))) (.int (-i)) := fun σ H Q q => ⟨i, rfl, q _ _ (Same.refl H) (.int (-i))⟩
theorem mk_str {T : Str} {c : List Nat} (e : T = ⟨c.toArray⟩) : MkV (tC (.str T)) (.str c) := fun σ H Q q => by
  subst e
  exact q _ _ (Same.refl H) (.str c)
theorem mka_nil : MkA tNil [] := fun σ H Q q => q _ _ (Same.refl H) .nil
theorem mka_cons {t : TE} {r : TA} {x : PV} {xs : List PV} (h : MkV t x) (g : MkA r xs) : MkA (tCons t r) (x :: xs) := fun σ H Q q =>
  h σ H _ fun v H1 s1 i1 => g σ H1 _ fun vs H2 s2 i2 => q _ _ (s1.trans s2) (.cons (i1.imp (fun _ z => z) fun a o _ e => s2 a o e) (i2.imp (fun a z => s1.free z) fun a o _ e => e))
theorem mk_lst {t : TA} {xs : List PV} (h : MkA t xs) (hl : xs.length ≤ sizeLine) : MkV (tLst t) (.lst xs) := fun σ H Q q =>
  h σ H _ fun vs H1 s1 i1 => ⟨by rw [i1.len]; exact hl, fun p hp => q _ _ (s1.trans (Same.put hp _)) (.lst (s1.free hp) upd_same (i1.imp (fun _ z => z) (keep_new hp _)))⟩
theorem mk_tup {t : TA} {i : Int} {x : PV} (h : MkA t [.int i, x]) : MkV (tTup t) (.tup i x) := fun σ H Q q =>
  h σ H _ fun vs H1 s1 i1 => by
    cases i1 with
    | cons a b =>
      cases b with
      | cons c d =>
        cases d
        cases a
        exact ⟨(by show 2 ≤ sizeLine; decide), fun p hp => q _ _ (s1.trans (Same.put hp _)) (.tup (s1.free hp) upd_same (c.imp (fun _ z => z) (keep_new hp _)))⟩
theorem mk_dnew : MkV tDNewK (.dct []) := fun σ H Q q p hp => q _ _ (Same.put hp _) (.dct hp upd_same .nil)
theorem mkp_nil : MkP [] [] := fun σ H Q q => q [] _ (Same.refl H) .nil
theorem mkp_cons {T : Str} {c : List Nat} {t : TE} {r : List (TE × TE)} {x : PV} {kvs : List (List Nat × PV)} (e : T = ⟨c.toArray⟩) (h : MkV t x) (g : MkP r kvs) : MkP ((tC (.str T), t) :: r) ((c, x) :: kvs) := fun σ H Q q => by
  subst e
  exact h σ H _ fun v H1 s1 i1 => g σ H1 _ fun kv H2 s2 i2 => q ((.inr ⟨c.toArray⟩, v) :: kv) _ (s1.trans s2) (.cons (i1.imp (fun _ z => z) fun a o _ e => s2 a o e) (i2.imp (fun a z => s1.free z) fun a o _ e => e))
theorem IsD.len {S : Addr → Prop} {H : Hp} {vs : List (Key × V)} {l : List (List Nat × PV)} (h : IsD S H vs l) : vs.length = l.length := by
  have := congrArg List.length h.keys
  rwa [List.length_map, List.length_map] at this
theorem merge_new {S : Addr → Prop} {H : Hp} : ∀ {kv acc : List (Key × V)} {l m : List (List Nat × PV)}, IsD S H acc m → IsD S H kv l → ((m ++ l).map (·.1)).Nodup → mergeK acc kv = acc ++ kv
  | _, acc, _, _, hA, .nil, _ => (List.append_nil _).symm
  | _, acc, _, m, hA, .cons (s := s) (v := v) (kv := kv) (kvs := kvs) a b, n => by
    have nv : valV acc (Sum.inr (⟨s.toArray⟩ : Str) : Key) = none := by
      have z := hA.look s
      have z2 : s ∉ m.map (·.1) := by
        intro z3
        rw [List.map_append, List.nodup_append] at n
        exact n.2.2 s z3 s (by simp) rfl
      rw [decide_eq_false z2] at z
      exact Option.isSome_eq_false_iff.mp z |> Option.isNone_iff_eq_none.mp
    show mergeK (putK acc (Sum.inr (⟨s.toArray⟩ : Str) : Key) v) kv = _
    rw [putK_new _ nv, merge_new (hA.snoc a) b (by rw [List.append_assoc]; exact n), List.append_assoc]
    rfl
theorem mk_disp {t : List (TE × TE)} {kvs : List (List Nat × PV)} (h : MkP t kvs) (hn : (kvs.map (·.1)).Nodup) (hl : kvs.length ≤ 15) : MkV (tDisp t) (.dct kvs) := fun σ H Q q p hp =>
  h σ (upd H p (.dK [])) _ fun kv H1 s1 i1 => by
    have e1 : H1 p = some (.dK []) := s1 _ _ upd_same
    have s : Same H (upd H1 p (.dK (mergeK [] kv))) := fun b u e => by
      have n := ne_of_none e hp
      rw [upd_ne n]
      exact s1 _ _ (by rw [upd_ne n]; exact e)
    refine ⟨e1, kv, rfl, by rw [i1.len]; exact hl, q _ _ s (.dct hp upd_same ?_)⟩
    rw [merge_new .nil i1 hn]
    refine i1.imp (fun a z => ?_) fun a u z e => ?_
    · by_cases c : a = p
      · rw [c]; exact hp
      · have z2 : upd H p (.dK []) a = none := z
        rw [upd_ne c] at z2
        exact z2
    · have c : a ≠ p := fun c => by
        rw [c] at z
        exact nomatch (show (some (HO.dK []) : Option HO) = none from (upd_same (H := H) (a := p)).symm.trans z)
      rw [upd_ne c]
      exact e
theorem mki {T : Str} {t : TE} {x : PV} (h : MkV t x) : MkI (tTup (tCons (tC (.str T)) (tCons t tNil))) (T, x) := fun σ H Q q =>
  h σ H _ fun v H1 s1 i1 => ⟨(by show 2 ≤ sizeLine; decide), fun p hp => q _ _ (s1.trans (Same.put hp _)) ⟨p, v, rfl, s1.free hp, upd_same, i1.imp (fun _ z => z) (keep_new hp _)⟩⟩
theorem mkl_nil : MkL tNil [] := fun σ H Q q => q _ _ (Same.refl H) .nil
theorem mkl_cons {t : TE} {r : TA} {x : Str × PV} {xs : List (Str × PV)} (h : MkI t x) (g : MkL r xs) : MkL (tCons t r) (x :: xs) := fun σ H Q q =>
  h σ H _ fun v H1 s1 i1 => g σ H1 _ fun vs H2 s2 i2 => q _ _ (s1.trans s2) (.cons (i1.imp (fun _ z => z) fun a o _ e => s2 a o e) (Prs.imp (fun a z => s1.free z) (fun a o _ e => e) i2))
mutual
theorem Is.imp2 {S S' : Addr → Prop} {H H' : Hp} (h : ∀ a o, S a → H a = some o → S' a ∧ H' a = some o) : ∀ {v : V} {x : PV}, Is S H v x → Is S' H' v x
  | _, _, .non => .non
  | _, _, .int i => .int i
  | _, _, .str s => .str s
  | _, _, .lst s e l => .lst (h _ _ s e).1 (h _ _ s e).2 (IsL.imp2 h l)
  | _, _, .tup s e l => .tup (h _ _ s e).1 (h _ _ s e).2 (Is.imp2 h l)
  | _, _, .dct s e l => .dct (h _ _ s e).1 (h _ _ s e).2 (IsD.imp2 h l)
theorem IsL.imp2 {S S' : Addr → Prop} {H H' : Hp} (h : ∀ a o, S a → H a = some o → S' a ∧ H' a = some o) : ∀ {v : List V} {x : List PV}, IsL S H v x → IsL S' H' v x
  | _, _, .nil => .nil
  | _, _, .cons a b => .cons (Is.imp2 h a) (IsL.imp2 h b)
theorem IsD.imp2 {S S' : Addr → Prop} {H H' : Hp} (h : ∀ a o, S a → H a = some o → S' a ∧ H' a = some o) : ∀ {v : List (Key × V)} {x : List (List Nat × PV)}, IsD S H v x → IsD S' H' v x
  | _, _, .nil => .nil
  | _, _, .cons a b => .cons (Is.imp2 h a) (IsD.imp2 h b)
end
theorem Pr.imp2 {S S' : Addr → Prop} {H H' : Hp} (h : ∀ a o, S a → H a = some o → S' a ∧ H' a = some o) {v : V} {x : Str × PV} (g : Pr S H v x) : Pr S' H' v x := by
  obtain ⟨t, d, e, s, e2, i⟩ := g
  exact ⟨t, d, e, (h _ _ s e2).1, (h _ _ s e2).2, i.imp2 h⟩
theorem Prs.imp2 {S S' : Addr → Prop} {H H' : Hp} (h : ∀ a o, S a → H a = some o → S' a ∧ H' a = some o) {vs : List V} {xs : List (Str × PV)} (g : Prs S H vs xs) : Prs S' H' vs xs := by
  induction g with
  | nil => exact .nil
  | cons a b ih =>
    exact .cons (a.imp2 h) ih
/-- a list of such pairs under way -/
def CurS (H0 H : Hp) (l : Addr) (xs : List (Str × PV)) : Prop := ∃ vs, Cur H0 H l vs ∧ Prs (fun a => H0 a = none ∧ a ≠ l) H vs xs
theorem mkl_first {t : TA} {xs : List (Str × PV)} {σ : L2.St} {H : Hp} {Q : VK} (h : MkL t xs) (hl : xs.length ≤ sizeLine) (q : ∀ p H', CurS H H' p xs → Q (.ref p) H') : tLst t σ H Q :=
  h σ H _ fun vs H1 s1 i1 => ⟨by rw [i1.len]; exact hl, fun p hp => q _ _ ⟨vs, ⟨s1.trans (Same.put hp _), s1.free hp, upd_same⟩, i1.imp2 fun a o n e => ⟨⟨n, ne_of_none e hp⟩, Same.put hp _ _ _ e⟩⟩⟩
theorem mkl_cat {t : TA} {xs zs : List (Str × PV)} {σ : L2.St} {H0 H : Hp} {l : Addr} {i : Nat} {Q : VK} (G : CurS H0 H l xs) (h : MkL t zs) (e : σ[i]? = some (some (.ref l))) (hl : xs.length + zs.length ≤ sizeLine) (q : ∀ p H', CurS H0 H' p (xs ++ zs) → Q (.ref p) H') : tOp rCat (tVar i) (tLst t) σ H Q := by
  obtain ⟨vs, G, P⟩ := G
  refine ⟨_, e, h σ H _ fun us H1 s1 i1 => ⟨by rw [i1.len]; exact Nat.le_trans (Nat.le_add_left _ _) hl, fun b hb => ?_⟩⟩
  have s2 := Same.put hb (.lst us)
  refine ⟨l, b, vs, us, rfl, rfl, s2 _ _ (s1 _ _ G.at_), upd_same, by rw [P.len, i1.len]; exact hl, fun p hp => ?_⟩
  have s3 := Same.put hp (.lst (vs ++ us))
  have sA := (s1.trans s2).trans s3
  have hp1 : H1 p = none := s2.free hp
  refine q p _ ⟨_, ⟨G.sm.trans sA, (G.sm.trans s1).free hp1, upd_same⟩, Prs.app (P.imp2 fun a o n e => ⟨⟨n.1, ne_of_none e (s1.free hp1)⟩, sA _ _ e⟩) (i1.imp2 fun a o n e => ⟨⟨G.sm.free n, ne_of_none e hp1⟩, s3 _ _ (s2 _ _ e)⟩)⟩
theorem mkl_app {K : PySem.W.Frag} {t : TE} {xs : List (Str × PV)} {x : Str × PV} {σ : L2.St} {H0 H : Hp} {l : Addr} {i : Nat} {Q : VK} (G : CurS H0 H l xs) (h : MkI t x) (e : σ[i]? = some (some (.ref l))) (hl : xs.length < sizeLine) (q : ∀ H', CurS H0 H' l (xs ++ [x]) → Q .non H') : tBM K "list" rAppend (tVar i) (tCons t tNil) σ H Q := by
  obtain ⟨vs, G, P⟩ := G
  refine ⟨_, e, .inl ⟨rfl, _, SqL.of G.at_⟩, h σ H _ fun u H1 s1 i1 => ⟨l, vs, u, rfl, rfl, s1 _ _ G.at_, by rw [P.len]; exact hl, q _ ⟨_, ⟨fun b o z => ?_, G.nw, upd_same⟩, Prs.app (P.imp2 fun a o n e => ⟨n, ?_⟩) (.cons (Pr.imp2 (fun a o n e => ?_) i1) .nil)⟩⟩⟩
  · rw [upd_ne (ne_of_none z G.nw)]
    exact s1 _ _ (G.sm _ _ z)
  · rw [upd_ne n.2]
    exact s1 _ _ e
  · have na : a ≠ l := fun z => by
      rw [z] at n
      exact nomatch (show (some (HO.lst vs) : Option HO) = none from G.at_.symm.trans n)
    exact ⟨⟨G.sm.free n, na⟩, by rw [upd_ne na]; exact e⟩
section
variable {P : Program} {w : World} {K : PySem.W.Frag} {mg : Str → Option Value} {base : Heap} {f : Addr} {fd : FuncData}
def spSome : Sp := fun vs H Q _ => vs = [] ∧ ∀ (a : Addr) (us : List V) (H' : Hp), Same H H' → H a = none → H' a = some (.lst us) → Prs (Nw H) H' us someS → Q (.ref a) H'
theorem scSome : FnScope ["_law_some_here"] [] (defScope sSome) := ⟨rfl, rfl, rfl, by decide +kernel, rfl, by decide +kernel, by decide +kernel⟩
theorem ok_some (F : Fun K "_law_some" "_law_some" sSome f fd) : FnOk P w K mg base CX0 1 f fd [] spSome := by
  refine F.ok scSome (fun vs H Q E h => ?_) (fun cdv A outer s H vs Q E hr h => ?_)
  · obtain ⟨rfl, _⟩ := h
    rfl
  obtain ⟨rfl, k⟩ := h
  refine ⟨_, (pss_cons (ps_set (i := 0) scSome.nd rfl (Or.inl rfl) (pe_lst (pa_cons (pe_tup (pa_cons pe_str (pa_cons pe_int pa_nil))) (pa_cons (pe_tup (pa_cons pe_str (pa_cons (pe_un un_neg pe_int) pa_nil))) (pa_cons (pe_tup (pa_cons pe_str (pa_cons pe_int pa_nil))) (pa_cons (pe_tup (pa_cons pe_str (pa_cons pe_int pa_nil))) (pa_cons (pe_tup (pa_cons pe_str (pa_cons pe_non pa_nil))) pa_nil)))))))
    (pss_cons (ps_set (i := 0) scSome.nd rfl (Or.inl rfl) (pe_op op_cat (pv 0) (pe_lst (pa_cons (pe_tup (pa_cons pe_str (pa_cons pe_str pa_nil))) (pa_cons (pe_tup (pa_cons pe_str (pa_cons pe_str pa_nil))) (pa_cons (pe_tup (pa_cons pe_str (pa_cons (pe_lst pa_nil) pa_nil))) (pa_cons (pe_tup (pa_cons pe_str (pa_cons (pe_lst pa_nil) pa_nil))) (pa_cons (pe_tup (pa_cons pe_str (pa_cons pe_dnewK pa_nil))) pa_nil))))))))
    (pss_cons (ps_set (i := 0) scSome.nd rfl (Or.inl rfl) (pe_op op_cat (pv 0) (pe_lst (pa_cons (pe_tup (pa_cons pe_str (pa_cons (pe_tup (pa_cons pe_int (pa_cons pe_non pa_nil))) pa_nil))) (pa_cons (pe_tup (pa_cons pe_str (pa_cons (pe_lst (pa_cons (pe_lst pa_nil) (pa_cons pe_dnewK (pa_cons (pe_tup (pa_cons pe_int (pa_cons (pe_lst (pa_cons pe_int pa_nil)) pa_nil))) pa_nil)))) pa_nil))) pa_nil)))))
    (pss_cons (ps_expr (pe_bm PySem.F.plainAttrs_list PySem.F.slot_list_append PySem.F.type_list_append mt_append (pv 0) (pa_cons (pe_tup (pa_cons pe_str (pa_cons (pe_disp (pps_cons pe_str pe_int (pps_cons pe_str pe_str pps_nil)) (by rfl) (by rfl) (fun z => by cases z) (by decide)) pa_nil))) pa_nil)))
    (pss_cons (ps_set (i := 0) scSome.nd rfl (Or.inl rfl) (pe_op op_cat (pv 0) (pe_lst (pa_cons (pe_tup (pa_cons pe_str (pa_cons (pe_disp (pps_cons pe_str (pe_lst (pa_cons pe_int pa_nil)) pps_nil) (by rfl) (by rfl) (fun z => by cases z) (by decide)) pa_nil))) (pa_cons (pe_tup (pa_cons pe_str (pa_cons (pe_tup (pa_cons (pe_un un_neg pe_int) (pa_cons (pe_un un_neg pe_int) pa_nil))) pa_nil))) pa_nil)))))
    (pss_one (ps_ret (pe_op op_cat (pv 0) (pe_lst (pa_cons (pe_tup (pa_cons pe_str (pa_cons pe_str pa_nil))) pa_nil)))))))))), ?_⟩
  walk_at "t"
  refine mkl_first (xs := someS0) (mkl_cons (mki (mk_int _)) (mkl_cons (mki (mk_neg _)) (mkl_cons (mki (mk_int _)) (mkl_cons (mki (mk_int _)) (mkl_cons (mki mk_non) mkl_nil))))) (by decide) fun p0 H0 G0 => ?_
  walk_at "t"
  refine mkl_cat (zs := someS1) G0 (mkl_cons (mki (mk_str (by decide +kernel))) (mkl_cons (mki (mk_str (by decide +kernel))) (mkl_cons (mki (mk_lst mka_nil (by decide))) (mkl_cons (mki (mk_lst mka_nil (by decide))) (mkl_cons (mki mk_dnew) mkl_nil))))) rfl (by decide) fun p1 H1 G1 => ?_
  walk_at "t"
  refine mkl_cat (zs := someS2) G1 (mkl_cons (mki (mk_tup (mka_cons (mk_int _) (mka_cons mk_non mka_nil)))) (mkl_cons (mki (mk_lst (mka_cons (mk_lst mka_nil (by decide)) (mka_cons mk_dnew (mka_cons (mk_tup (mka_cons (mk_int _) (mka_cons (mk_lst (mka_cons (mk_int _) mka_nil) (by decide)) mka_nil))) mka_nil))) (by decide))) mkl_nil)) rfl (by decide) fun p2 H2 G2 => ?_
  walk_at "t"
  refine Hd.drop ?_
  refine mkl_app (x := (Str.ofString "{ b : 1 , a : \"x, y\" }", (.dct [([98], (.int 1)), ([97], (.str [120, 44, 32, 121]))]))) G2 (mki (mk_disp (mkp_cons (by decide +kernel) (mk_int _) (mkp_cons (by decide +kernel) (mk_str (by decide +kernel)) mkp_nil)) (by decide) (by decide))) rfl (by decide) fun H3 G3 => ?_
  have p3 := p2
  walk_at "t"
  refine mkl_cat (zs := someS4) G3 (mkl_cons (mki (mk_disp (mkp_cons (by decide +kernel) (mk_lst (mka_cons (mk_int _) mka_nil) (by decide)) mkp_nil) (by decide) (by decide))) (mkl_cons (mki (mk_tup (mka_cons (mk_neg _) (mka_cons (mk_neg _) mka_nil)))) mkl_nil)) rfl (by decide) fun p4 H4 G4 => ?_
  walk_at "t"
  refine Hd.ret ?_
  refine mkl_cat (zs := someS5) G4 (mkl_cons (mki (mk_str (by decide +kernel))) mkl_nil) rfl (by decide) fun p5 H5 G5 => ?_
  obtain ⟨vs, g, q⟩ := G5
  exact k _ vs H5 g.sm g.nw g.at_ (q.imp (fun a z => z.1) fun _ _ _ e => e)
end
end K91

set_option Elab.async false
set_option linter.all false
set_option maxRecDepth 100000
set_option maxHeartbeats 4000000
namespace K91
open PySem L2
local macro_rules | `(tactic| walk_at "s") => `(tactic| (with_reducible first
  | refine Hd.and_ ?_ | refine Hd.or_ ?_ | refine Hd.not_ ?_ | refine Hd.test ?_ | refine Hd.tb ?_ | refine Hd.bl ?_ | refine Hd.chain ?_ | refine Hd.op ?_ | refine Hd.un ?_
  | refine Hd.cb ?_ | refine Hd.nil ?_ | refine Hd.cons ?_ | refine Hd.if_ ?_ | refine Hd.seq ?_ | refine Hd.nx ?_ | refine Hd.ifs ?_ | refine Hd.ret ?_ | refine Hd.drop ?_
  | refine Hd.asg ?_ | refine Hd.name ?_ | refine Hd.tup ?_ | refine Hd.lst ?_ | refine Hd.int0 ?_ | refine Hd.intU ?_ | refine Hd.eqI ?_ | refine Hd.eqS ?_ | refine Hd.eqB ?_ | refine Hd.neI ?_ | refine Hd.neS ?_ | refine Hd.neB ?_
  | refine Hd.add ?_ | refine Hd.sub ?_ | refine Hd.call ?_ | refine Hd.callS ?_ | refine Hd.ifNT ?_ | refine Hd.ifNF ?_ | refine Hd.dput ?_ | refine Hd.din ?_ | refine Hd.dget ?_ | refine Hd.dnew ?_ | refine Hd.make ?_ | refine Hd.gsub ?_ | refine Hd.bm ?_ | refine Hd.sl ?_ | refine Hd.part ?_ | refine Hd.nopart ?_ | refine Hd.bm0 ?_ | refine Hd.c ?_ | refine Hd.ifT ?_ | refine Hd.ifF ?_))
local macro_rules | `(tactic| walk_at "v") => `(tactic| (with_reducible refine Hd.var ?_; refine ⟨_, rfl, ?_⟩))
local macro_rules | `(tactic| walk_at "ss") => `(tactic| (repeat first | walk_at "s" | walk_at "v"))

local macro_rules | `(tactic| walk_at "t") => `(tactic| (repeat with_reducible first | refine Hd.seq ?_ | refine Hd.nx ?_ | refine Hd.asg ?_ | refine Hd.name ?_ | refine Hd.ifT ?_ | refine Hd.ifF ?_))
local macro_rules | `(tactic| walk_at "m") => `(tactic| (repeat with_reducible first | exact Hd.mVar | exact Hd.mC | exact Hd.mNil | exact Hd.mI0 | exact Hd.mEq | exact Hd.mNe | exact Hd.mLen | exact Hd.mStarts | refine Hd.mBM ?_ ?_ ?_ | refine Hd.mOr ?_ ?_ | refine Hd.mAnd ?_ ?_ | refine Hd.mNot ?_ | refine Hd.mTest ?_ | refine Hd.mTb ?_ | refine Hd.mOp ?_ ?_ ?_ | refine Hd.mFld ?_ | refine Hd.mCB ?_ ?_ | refine Hd.mCons ?_ ?_))

section
open PySem.Spec PyProof.Rows
/-- what is reached has as many tokens out at least -/
theorem tokA {α : Type} {M : Model} {A : Around} {t : Sem α} {Q : α → Shared → Prop} {E : Value → Shared → Prop} {s : Shared} {n : Nat} (hn : n ≤ s.toks) (h : wpAny M A t (fun a s' => n ≤ s'.toks → Q a s') E s) : wpAny M A t Q E s :=
  wpAny_mono (PySem.wpAny_toks_of hn h) (fun _ _ z => z.2 z.1) fun _ _ z => z.2
/-- a def's promise, where a token is out at the call -/
structure FnT (P : Program) (w : World) (K : PySem.W.Frag) (mg : Str → Option Value) (base : Heap) (CX : CXT) (k : Nat) (f : Addr) (fd : FuncData) (ps : List Str) (sp : Sp) : Prop where
  len : ∀ vs H Q E, sp vs H Q E → vs.length = ps.length
  run : ∀ (A : Around) (outer : List Env) (s : Shared) (H : Hp) (args : Args) (us : List Value) (vs : List V) (Q : VK) (E : XK), 1 ≤ s.toks → Room k A → Env0 P w K mg base A outer s H →
    BindsTo s fd args (ps.zip us) → Vals vs us → sp vs H Q E → codeAny (model P w) A (.call (.ref f) args) (CR CX outer P w H s Q E) s
section
variable {P : Program} {w : World} {K : PySem.W.Frag} {mg : Str → Option Value} {base : Heap} {CX : CXT} {k j : Nat} {f : Addr} {fd : FuncData} {ps N : List Str} {sp sp' : Sp}
theorem FnT.of (F : FnOk P w K mg base CX k f fd ps sp) : FnT P w K mg base CX k f fd ps sp := ⟨F.len, fun A outer s H args us vs Q E _ hr he hb hv hs => F.run A outer s H args us vs Q E hr he hb hv hs⟩
theorem FnT.or (F : FnT P w K mg base CX k f fd ps sp) (G : FnT P w K mg base CX k f fd ps sp') : FnT P w K mg base CX k f fd ps (fun vs H Q E => sp vs H Q E ∨ sp' vs H Q E) :=
  ⟨fun vs H Q E h => h.elim (F.len vs H Q E) (G.len vs H Q E), fun A outer s H args us vs Q E h0 hr he hb hv hs => hs.elim (F.run A outer s H args us vs Q E h0 hr he hb hv) (G.run A outer s H args us vs Q E h0 hr he hb hv)⟩
theorem FnT.mono (F : FnT P w K mg base CX j f fd ps sp) (h : j ≤ k) : FnT P w K mg base CX k f fd ps sp := ⟨F.len, fun A outer s H args us vs Q E h0 hr => F.run A outer s H args us vs Q E h0 (hr.mono h)⟩
theorem okT {x qual : Str} {st : Stmt} (F : Fun K x qual st f fd) (S : FnScope N ps (defScope st)) (len : ∀ vs H Q E, sp vs H Q E → vs.length = ps.length)
    (hb2 : ∀ (cdv : Value) (A : Around) (outer : List Env) (s : Shared) (H : Hp) (vs : List V) (Q : VK) (E : XK), Room k (A.deeper (envOfC qual (defScope st) s.heap.objs.size f cdv)) → sp vs H Q E →
      ∃ t, PSsT (cxOf CX0 P w K mg base N qual (defScope st) f cdv A outer s H E) (defBody st) t ∧ t { nx := fun _ H' => Q .non H', rt := Q } (L2.start N vs) H) : FnT P w K mg base CX0 (k + 1) f fd ps sp := by
  obtain ⟨oc, od, kV, doc, pm, an, cdv, ct, osl, rfl, lk, hcd⟩ := F.ex
  refine ⟨len, ?_⟩
  intro A outer s H args us vs Q E h0 hr e0 hb r hsp
  have inK : K.In s.heap := e0.mod.kin.keeps fun b o e => (e0.bs b o e).1
  have nl := e0.mod.nolimit.keeps fun b o e => (e0.bs b o e).1
  refine codeAny_call_function hr.depth (inK _ _ lk) rfl S.co S.gen rfl (PySem.W.codeRec_of inK hcd) (hb _ _ _ _ ?_)
  refine tokA h0 (wpAny_newFunctionEnv_cells S.kind (fun ⟨n, v⟩ hy => (S.par n (List.of_mem_zip hy).1).imp id fun q => ⟨q, PySem.W.cellsFrom_some _ _ _ (.inl q)⟩) fun env he s1 x h1 => ?_)
  subst he
  refine ⟨nl.keeps x.toInCall.keep, codeAny_func ?_⟩
  obtain ⟨t, ht, hq⟩ := hb2 cdv A outer s H vs Q E (hr.deeper _) hsp
  refine wpAny_mono (ht [] s1 (L2.start N vs) H _ h1 (inv_start S hr.hd e0 (len _ _ _ _ hsp) r x) hq) (fun fl s' hs => ?_) fun e s' hs => hs
  cases fl with
  | ret u =>
    obtain ⟨v, σ', H', J, rv, q⟩ := hs
    exact ⟨v, H', J.os, J.bare, J.base, J.hok, rv, q⟩
  | next =>
    obtain ⟨σ', H', J, q⟩ := hs
    exact ⟨V.non, H', J.os, J.bare, J.base, J.hok, rfl, q⟩
  | brk => exact (fun ⟨_, _, _, q⟩ => False.elim q) hs
  | cont => exact (fun ⟨_, _, _, q⟩ => False.elim q) hs
end
section
variable {X : Cx} {CX : CXT} {k : Nat} {f : Addr} {fd : FuncData} {ps : List Str} {sp : Sp} {E : XK} {ds : List Value} {dvs : List V}
theorem pet_call {x : Str} {p pos : Pos} {e : Expr} {es : List Expr} {t : TA} (F : FnT X.prog X.w X.K X.mg X.base CX k f fd ps sp) (hr : Room k X.A) (hg : Gl X x) (hm : X.mg x = some (.ref f)) (hk : PySem.W.keepIn X.K (.ref f) = true) (hb : Binds X.K fd ps ds) (hd : Vals dvs ds) (hx : Passes CX X E)
    (ha : PA X (e :: es) t) (hdb : (x == ("__debug__" : Str)) = false := by decide) (he : starEach (e :: es) X.env = (false, eval e X.env) :: starEach es X.env := by rfl) (hpl : (backTo pos (starEach es X.env)).any (·.1) = false := by rfl) :
    PET X (.Call (.Name x p) (e :: es) [] pos) (tCall sp dvs E t) := by
  intro pins s σ H Q h0 I h
  refine wpAny_Call_Name_kw (ld_glob I hg hm ?_ hdb)
  refine PySem.W.callWith_K (h₀ := X.base) I.ok.mod.kin hk (tokA h0 (thn (ha.run pos pins s σ H _ I h) fun us s1 q0 h1 => ?_)) he hpl
  obtain ⟨vs, H1, J, r, q⟩ := q0
  refine ⟨J.kIn, wpAny_call (codeAny_mono (F.run X.A X.stack s1 H1 ⟨us, []⟩ (us ++ ds) (vs ++ dvs) Q E h1 hr J.env0 (hb s1 us J.kIn (by rw [← (r.append hd).length]; exact F.len _ _ _ _ q)) (r.append hd) q) fun r s' hq => ?_)⟩
  cases r with
    | error e => exact hx pins σ H1 s1 e s' J hq
    | ok fl =>
      cases fl with
      | ret u => exact J.after hq
      | next => exact hq.elim
      | brk => exact hq.elim
      | cont => exact hq.elim
end
/-- an expression that lets a token out -/
def PEK (X : Cx) (e : Expr) (t : TE) : Prop := ∀ (pins : List (Addr × Obj)) (s : Shared) (σ : L2.St) (H : Hp) (Q : VK), Inv X pins σ H s → t σ H Q → wpAny (model X.prog X.w) X.A (eval e X.env) (fun v s' => 1 ≤ s'.toks ∧ EP X pins σ Q v s') X.xe s
section
variable {X : Cx} {e f : Expr} {te tf : TE} {pos : Pos}
theorem PEK.pe (h : PEK X e te) : PE X e te := ⟨fun pins s σ H Q I q => wpAny_mono (h pins s σ H Q I q) (fun _ _ z => z.2) fun _ _ z => z⟩
theorem pek_str {c : Str} {j : Nat} : PEK X (.Constant (.str c) j pos) (tC (.str c)) := fun pins s σ H Q I q =>
  Calls.Constant_str ⟨Nat.le_add_left 1 s.toks, .str c, H, I.tok _, ⟨_, rfl⟩, q⟩
theorem pek_l {op : Operator} {r : R2} (ho : OpR X (binaryOp op) r) (ha : PEK X e te) (hb : PET X f tf) : PEK X (.BinOp e op f pos) (tOp r te tf) := by
  intro pins s σ H Q I h
  refine wpAny_BinOp (wpAny_mono (ha pins s σ H _ I h) (fun v s1 q => ?_) fun _ _ z => z)
  obtain ⟨h1, x, H1, I1, r1, q1⟩ := q
  refine wpAny_mono (wpAny_toks_of h1 (hb pins s1 σ H1 _ h1 I1 q1)) (fun u s2 q => ?_) fun _ _ z => z.2
  obtain ⟨h2, y, H2, I2, r2, q2⟩ := q
  exact wpAny_mono (wpAny_toks_of h2 (ho pins s2 σ H2 x y v u Q I2 r1 r2 q2)) (fun _ _ z => z) fun _ _ z => z.2
theorem pek_r {op : Operator} {r : R2} (ho : OpR X (binaryOp op) r) (ha : PE X e te) (hb : PEK X f tf) : PEK X (.BinOp e op f pos) (tOp r te tf) := by
  intro pins s σ H Q I h
  refine wpAny_BinOp (thn (ha.run pins s σ H _ I h) fun v s1 q => ?_)
  obtain ⟨x, H1, I1, r1, q1⟩ := q
  refine wpAny_mono (hb pins s1 σ H1 _ I1 q1) (fun u s2 q => ?_) fun _ _ z => z
  obtain ⟨h2, y, H2, I2, r2, q2⟩ := q
  exact wpAny_mono (wpAny_toks_of h2 (ho pins s2 σ H2 x y v u Q I2 r1 r2 q2)) (fun _ _ z => z) fun _ _ z => z.2
/-- e.replace of written texts, where nothing is to be replaced: no token is asked -/
def tRep0 (to : TE) (y : Str) : TE := fun σ H Q => to σ H fun v H1 => ∃ x, v = .str x ∧ (Builtin.Str.occurrences x y 0 x.length (x.length + 1)) = [] ∧ Q (.str x) H1
theorem pe_rep0 {o : Expr} {to : TE} {y z : Str} {j k : Nat} {c0 c1 apos : Pos} (ho : PE X o to)
    (hst : starEach [.Constant (.str y) j c0, .Constant (.str z) k c1] X.env = [(false, eval (.Constant (.str y) j c0) X.env), (false, eval (.Constant (.str z) k c1) X.env)] := by rfl)
    (hbase : attributeBase o "replace" X.env (eval o X.env) = eval o X.env := by rfl) (hline : (apos.endLine == pos.line) = true := by rfl) :
    PE X (.Call (.Attribute o "replace" apos) [.Constant (.str y) j c0, .Constant (.str z) k c1] [] pos) (tRep0 to y) := by
  refine ⟨fun pins s σ H Q I h => ?_⟩
  refine PySem.Call_method2 hbase hst hline (thn (ho.run pins s σ H _ I h) fun v s1 q => ?_)
  obtain ⟨v', H1, I1, r1, x, e1, hb, q⟩ := q
  subst e1
  obtain ⟨tx, e2⟩ := r1
  subst e2
  refine ⟨"str", _, PySem.F.plainAttrs_str, PySem.F.slot_str_replace, PySem.F.type_str_replace, typeIs_str _ _ _, (fun _ e => nomatch e), Calls.callWith_builtin rfl (Calls.evalArgs_plain ?_)⟩
  refine Calls.spliced_cons (Calls.Constant_str (Calls.spliced_cons (Calls.Constant_str (Calls.spliced_nil ?_))))
  have em : ((Builtin.Str.occurrences x y 0 x.length (x.length + 1)).isEmpty || (y.length == 0 && z.length == 0)) = true := by rw [hb]; rfl
  refine call_gives PySem.F.slot_str_replace (typeIs_str _ _ _) PySem.F.entry_str_replace (PySem.F.args_str_replace_3 _ _ _) (gives_str_replace x y z _ _ _ fun z => ?_) ?_
  · rw [em] at z
    exact nomatch z
  · rw [if_pos em]
    exact ⟨.str x, H1, I1.tok _, ⟨_, rfl⟩, q⟩
end
end
end K91

set_option Elab.async false
set_option linter.all false
set_option maxRecDepth 100000
set_option maxHeartbeats 4000000
namespace K91
open PySem L2
local macro_rules | `(tactic| walk_at "s") => `(tactic| (with_reducible first
  | refine Hd.and_ ?_ | refine Hd.or_ ?_ | refine Hd.not_ ?_ | refine Hd.test ?_ | refine Hd.tb ?_ | refine Hd.bl ?_ | refine Hd.chain ?_ | refine Hd.op ?_ | refine Hd.un ?_
  | refine Hd.cb ?_ | refine Hd.nil ?_ | refine Hd.cons ?_ | refine Hd.if_ ?_ | refine Hd.seq ?_ | refine Hd.nx ?_ | refine Hd.ifs ?_ | refine Hd.ret ?_ | refine Hd.drop ?_
  | refine Hd.asg ?_ | refine Hd.name ?_ | refine Hd.tup ?_ | refine Hd.lst ?_ | refine Hd.int0 ?_ | refine Hd.intU ?_ | refine Hd.eqI ?_ | refine Hd.eqS ?_ | refine Hd.eqB ?_ | refine Hd.neI ?_ | refine Hd.neS ?_ | refine Hd.neB ?_
  | refine Hd.add ?_ | refine Hd.sub ?_ | refine Hd.call ?_ | refine Hd.callS ?_ | refine Hd.ifNT ?_ | refine Hd.ifNF ?_ | refine Hd.dput ?_ | refine Hd.din ?_ | refine Hd.dget ?_ | refine Hd.dnew ?_ | refine Hd.make ?_ | refine Hd.gsub ?_ | refine Hd.bm ?_ | refine Hd.sl ?_ | refine Hd.part ?_ | refine Hd.nopart ?_ | refine Hd.bm0 ?_ | refine Hd.c ?_ | refine Hd.ifT ?_ | refine Hd.ifF ?_))
local macro_rules | `(tactic| walk_at "v") => `(tactic| (with_reducible refine Hd.var ?_; refine ⟨_, rfl, ?_⟩))
local macro_rules | `(tactic| walk_at "ss") => `(tactic| (repeat first | walk_at "s" | walk_at "v"))

local macro_rules | `(tactic| walk_at "t") => `(tactic| (repeat with_reducible first | refine Hd.seq ?_ | refine Hd.nx ?_ | refine Hd.asg ?_ | refine Hd.name ?_ | refine Hd.ifT ?_ | refine Hd.ifF ?_))
local macro_rules | `(tactic| walk_at "m") => `(tactic| (repeat with_reducible first | exact Hd.mVar | exact Hd.mC | exact Hd.mNil | exact Hd.mI0 | exact Hd.mEq | exact Hd.mNe | exact Hd.mLen | exact Hd.mStarts | refine Hd.mBM ?_ ?_ ?_ | refine Hd.mOr ?_ ?_ | refine Hd.mAnd ?_ ?_ | refine Hd.mNot ?_ | refine Hd.mTest ?_ | refine Hd.mTb ?_ | refine Hd.mOp ?_ ?_ ?_ | refine Hd.mFld ?_ | refine Hd.mCB ?_ ?_ | refine Hd.mCons ?_ ?_))

abbrev sAgain : Stmt := top 32
/-! ### values shown -/
def escq (l : List Nat) : List Nat := PySem.StrLaws.replL [34] [92, 34] (PySem.StrLaws.replL [92] [92, 92] l)
def digs (i : Int) : List Nat := cds (toString i)
def again : Nat → PV → List Nat
  | 0, _ => []
  | _ + 1, .non => [110, 111, 110, 101]
  | _ + 1, .int i => digs i
  | _ + 1, .str s => 34 :: (escq s ++ [34])
  | n + 1, .lst l => 91 :: (TL.joinL [44] (l.map (again n)) ++ [93])
  | n + 1, .tup i v => 40 :: (digs i ++ (44 :: (again n v ++ [41])))
  | n + 1, .dct kvs => 123 :: (TL.joinL [44] (kvs.map fun kv => kv.1 ++ (58 :: again n kv.2)) ++ [125])
/-- small enough; without a token out, no text with a backslash -/
def good : Nat → Bool → PV → Bool
  | 0, _, _ => false
  | n + 1, tk, x => decide ((again (n + 1) x).length ≤ 2000) && (match x with
    | .non => true
    | .int i => decide (i.natAbs < 2 ^ 64)
    | .str s => (tk || !s.contains 92) && decide (s.length ≤ 1000)
    | .lst l => decide (l.length ≤ 63) && l.all (good n false)
    | .tup i y => decide (i.natAbs < 2 ^ 64) && good n true y
    | .dct kvs => decide (kvs.length ≤ 63) && decide ((kvs.map (·.1)).Nodup) && kvs.all fun kv => good n true kv.2 && decide (kv.1.length ≤ 100))
def kd : PV → String
  | .non => "NoneType"
  | .int _ => "int"
  | .str _ => "str"
  | .lst _ => "list"
  | .tup _ _ => "tuple"
  | .dct _ => "dict"
theorem Is.ty {K : PySem.W.Frag} {R : Addr → Prop} {H : Hp} {v : V} {x : PV} (h : Is R H v x) : TyX K H v (.type (kd x)) := by
  cases h with
  | non => exact .base .non
  | int i => exact .base (.int i)
  | str s => exact .base (.str _)
  | lst _ e _ => exact .base (.lst e)
  | tup _ e _ => exact .base (.tup e)
  | dct _ e _ => exact .base (.dK e)
theorem isi_at {K : PySem.W.Frag} {R : Addr → Prop} {H : Hp} {v : V} {x : PV} {t : String} {b : Bool} {Q : VK} (h : Is R H v x) (e : kitB (kd x) t = some b) (q : Q (.bl b) H) : rIsi K [v, V.ty t] H Q :=
  ⟨v, _, _, .type t, b, rfl, .ty t, h.ty, kit_ty e, q⟩
theorem sadd {a b : List Nat} {H : Hp} {Q : VK} (h : a.length + b.length ≤ 200000) (q : Q (.str (SX.S (a ++ b))) H) :
    ∃ i j, V.str (SX.S a) = V.str i ∧ V.str (SX.S b) = V.str j ∧ i.length + j.length ≤ sizeLine ∧ Q (V.str (i ++ j)) H :=
  ⟨_, _, rfl, rfl, by rw [SX.S_len, SX.S_len]; exact Nat.le_trans h (by decide), by rw [SX.S_cat]; exact q⟩
theorem sz {a b : List Nat} (h : a.length + b.length ≤ 200000) : (SX.S a).length + (SX.S b).length ≤ sizeLine := by
  rw [SX.S_len, SX.S_len]
  exact Nat.le_trans h (by decide)
local macro_rules | `(tactic| walk_at "cat") => `(tactic| (refine ⟨_, _, rfl, rfl, sz ?_, ?_⟩; (· simp only [List.length_cons, List.length_append, List.length_nil]; omega); rw [SX.S_cat]))
theorem log_small {i : Int} (h : i.natAbs < 2 ^ 64) : i.natAbs.log2 < 1920 := by
  by_cases z : i.natAbs = 0
  · rw [z]; decide
  · exact Nat.lt_trans ((Nat.log2_lt z).mpr h) (by decide)
theorem IsL.get {R : Addr → Prop} {H : Hp} : ∀ {vs : List V} {l : List PV} {i : Nat} {v : V}, IsL R H vs l → vs[i]? = some v → ∃ x, l[i]? = some x ∧ Is R H v x
  | _, _, 0, _, .cons (x := x) a _, e => ⟨x, rfl, by rw [List.getElem?_cons_zero] at e; injection e with e; exact e ▸ a⟩
  | _, _, i + 1, _, .cons _ b, e => by
    rw [List.getElem?_cons_succ] at e ⊢
    exact b.get e
  | _, _, _, _, .nil, e => by simp at e
theorem IsD.get {R : Addr → Prop} {H : Hp} : ∀ {kv : List (Key × V)} {l : List (List Nat × PV)} {i : Nat} {k : Key} {v : V}, IsD R H kv l → kv[i]? = some (k, v) → ∃ s x, l[i]? = some (s, x) ∧ k = .inr ⟨s.toArray⟩ ∧ Is R H v x
  | _, _, 0, _, _, .cons (x := x) a _, e => by
    rw [List.getElem?_cons_zero] at e
    injection e with e
    injection e with e1 e2
    exact ⟨_, x, rfl, e1.symm, e2 ▸ a⟩
  | _, _, i + 1, _, _, .cons _ b, e => by
    rw [List.getElem?_cons_succ] at e ⊢
    exact b.get e
  | _, _, _, _, _, .nil, e => by simp at e
theorem sum_le {B : Nat} : ∀ {l : List (List Nat)}, (∀ x ∈ l, x.length ≤ B) → ((l.map SX.S).map (·.length)).sum ≤ l.length * B
  | [], _ => Nat.zero_le _
  | x :: r, h => by
    have := sum_le (l := r) fun y hy => h y (List.mem_cons_of_mem _ hy)
    have h2 := h x List.mem_cons_self
    simp only [List.map_cons, List.sum_cons, List.length_cons, SX.S_len] at this ⊢
    rw [Nat.add_mul]
    omega
theorem take_snoc {α : Type} {l : List α} {i : Nat} {x : α} (h : l[i]? = some x) : l.take (i + 1) = l.take i ++ [x] := by
  rw [List.take_succ, h]
  rfl


/-! ### a value's things are not those of what it lies in -/
mutual
theorem Is.uniq {R R' : Addr → Prop} {H : Hp} : ∀ {v : V} {x y : PV}, Is R H v x → Is R' H v y → x = y
  | _, _, _, .non, .non => rfl
  | _, _, _, .int i, .int _ => rfl
  | _, _, _, .str s, h => by
    generalize hv : V.str (⟨s.toArray⟩ : Str) = v at h
    cases h with
    | str s' =>
      injection hv with hv
      injection hv with hv
      rw [show s = s' by simpa using congrArg Array.toList hv]
    | _ => cases hv
  | _, _, _, .lst _ e l, .lst _ e' l' => by
    rw [e] at e'
    injection e' with e'
    injection e' with e'
    subst e'
    rw [IsL.uniq l l']
  | _, _, _, .tup _ e l, .tup _ e' l' => by
    rw [e] at e'
    injection e' with e'
    injection e' with e'
    injection e' with e1 e2
    injection e1 with e1
    injection e2 with e2
    subst e1 e2
    rw [Is.uniq l l']
  | _, _, _, .dct _ e l, .dct _ e' l' => by
    rw [e] at e'
    injection e' with e'
    injection e' with e'
    subst e'
    rw [IsD.uniq l l']
  | _, _, _, .lst _ e _, .tup _ e' _ => by rw [e] at e'; cases e'
  | _, _, _, .lst _ e _, .dct _ e' _ => by rw [e] at e'; cases e'
  | _, _, _, .tup _ e _, .lst _ e' _ => by rw [e] at e'; cases e'
  | _, _, _, .tup _ e _, .dct _ e' _ => by rw [e] at e'; cases e'
  | _, _, _, .dct _ e _, .lst _ e' _ => by rw [e] at e'; cases e'
  | _, _, _, .dct _ e _, .tup _ e' _ => by rw [e] at e'; cases e'
theorem IsL.uniq {R R' : Addr → Prop} {H : Hp} : ∀ {v : List V} {x y : List PV}, IsL R H v x → IsL R' H v y → x = y
  | _, _, _, .nil, .nil => rfl
  | _, _, _, .cons a b, .cons a' b' => by rw [Is.uniq a a', IsL.uniq b b']
theorem IsD.uniq {R R' : Addr → Prop} {H : Hp} : ∀ {v : List (Key × V)} {x y : List (List Nat × PV)}, IsD R H v x → IsD R' H v y → x = y
  | _, _, _, .nil, .nil => rfl
  | _, _, _, .cons (s := s) (kv := kv) (v := v) a b, h => by
    generalize hv : (Sum.inr (⟨s.toArray⟩ : Str), v) :: kv = w at h
    cases h with
    | cons a' b' =>
      injection hv with h1 h2
      injection h1 with h3 h4
      injection h3 with h3
      injection h3 with h3
      subst h2 h4
      rw [show s = _ by simpa using congrArg Array.toList h3, Is.uniq a a', IsD.uniq b b']
    | nil => cases hv
end
mutual
theorem Is.avoid {R R' : Addr → Prop} {H : Hp} {d : Addr} {y : PV} (hd : Is R' H (.ref d) y) : ∀ {v : V} {x : PV}, Is R H v x → sizeOf x < sizeOf y → Is (fun a => R a ∧ a ≠ d) H v x
  | _, _, .non, _ => .non
  | _, _, .int i, _ => .int i
  | _, _, .str s, _ => .str s
  | _, _, .lst s e l, h => .lst ⟨s, fun z => by subst z; have := Is.uniq (.lst s e l) hd; subst this; omega⟩ e (IsL.avoid hd l (by simp at h; omega))
  | _, _, .tup s e l, h => .tup ⟨s, fun z => by subst z; have := Is.uniq (.tup s e l) hd; subst this; omega⟩ e (Is.avoid hd l (by simp at h; omega))
  | _, _, .dct s e l, h => .dct ⟨s, fun z => by subst z; have := Is.uniq (.dct s e l) hd; subst this; omega⟩ e (IsD.avoid hd l (by simp at h; omega))
theorem IsL.avoid {R R' : Addr → Prop} {H : Hp} {d : Addr} {y : PV} (hd : Is R' H (.ref d) y) : ∀ {v : List V} {x : List PV}, IsL R H v x → sizeOf x < sizeOf y → IsL (fun a => R a ∧ a ≠ d) H v x
  | _, _, .nil, _ => .nil
  | _, _, .cons a b, h => .cons (Is.avoid hd a (by simp at h; omega)) (IsL.avoid hd b (by simp at h; omega))
theorem IsD.avoid {R R' : Addr → Prop} {H : Hp} {d : Addr} {y : PV} (hd : Is R' H (.ref d) y) : ∀ {v : List (Key × V)} {x : List (List Nat × PV)}, IsD R H v x → sizeOf x < sizeOf y → IsD (fun a => R a ∧ a ≠ d) H v x
  | _, _, .nil, _ => .nil
  | _, _, .cons a b, h => .cons (Is.avoid hd a (by simp at h; omega)) (IsD.avoid hd b (by simp at h; omega))
end
theorem keys_nodup {R : Addr → Prop} {H : Hp} {kv : List (Key × V)} {l : List (List Nat × PV)} (h : IsD R H kv l) (n : (l.map (·.1)).Nodup) : (kv.map (·.1)).Nodup := by
  rw [h.keys, show (l.map fun x => (Sum.inr (⟨x.1.toArray⟩ : Str) : Key)) = (l.map (·.1)).map fun s => Sum.inr ⟨s.toArray⟩ by rw [List.map_map]; rfl]
  refine List.Pairwise.map _ (fun a b hne z => hne ?_) n
  injection z with z
  injection z with z
  simpa using congrArg Array.toList z
theorem val_nd : ∀ {kv : List (Key × V)}, (kv.map (·.1)).Nodup → ∀ {k : Key} {v : V}, (k, v) ∈ kv → valV kv k = some v
  | [], _, _, _, h => by cases h
  | p :: r, n, k, v, h => by
    rw [List.map_cons, List.nodup_cons] at n
    rcases List.mem_cons.mp h with e | h
    · subst e
      exact valV_pos rfl
    · rw [valV_neg fun z => n.1 (z ▸ List.mem_map.mpr ⟨_, h, rfl⟩)]
      exact val_nd n.2 h
/-- a comprehension over the keys of a locked dict -/
theorem lc_keys {d : Addr} {od : Obj} {kvs : List (Key × V)} {g : TG} {tt : TT} {te : TE} {vs : List Nat} {σ : L2.St} {H1 : Hp} {D : Addr} {Qd : Hp → Prop} (Pv : Nat → Hp → Prop) (h0 : Pv 0 (upd H1 D (.lst [])))
    (hl : ∀ i H, i ≤ kvs.length → Pv i H → H d = some (.frz od (.dK kvs)))
    (hs : ∀ i k v H, kvs[i]? = some (k, v) → Pv i H → g (kV k) (wipe σ vs) H fun σ2 H2 => wipe σ2 vs = wipe σ vs ∧ tt σ2 H2 fun b H3 =>
      if b = true then te σ2 H3 fun y H4 => ∃ acc, H4 D = some (.lst acc) ∧ acc.length < sizeLine ∧ Pv (i + 1) (upd H4 D (.lst (acc ++ [y]))) else Pv (i + 1) H3) (hd : ∀ H, Pv kvs.length H → Qd H) :
    ∃ W : Nat → Nat → Hp → Prop, (∃ m, W 0 m (upd H1 D (.lst []))) ∧ ∀ i m H, W i m H →
      ((Itk d od kvs).stop i H ∧ Qd H) ∨ ((Itk d od kvs).go i H ∧ ∃ Nx : Hp → Prop, (∀ H', Nx H' → ∃ m', m' < m ∧ W (i + 1) m' H') ∧ ∀ x H', (Itk d od kvs).yld i H x H' → g x (wipe σ vs) H' fun σ2 H2 => wipe σ2 vs = wipe σ vs ∧ tt σ2 H2 fun b H3 =>
        if b = true then te σ2 H3 fun y H4 => ∃ acc, H4 D = some (.lst acc) ∧ acc.length < sizeLine ∧ Nx (upd H4 D (.lst (acc ++ [y]))) else Nx H3) := by
  refine ⟨fun i m H => m + i = kvs.length ∧ Pv i H, ⟨kvs.length, by simp, h0⟩, ?_⟩
  rintro i m H ⟨em, p⟩
  have q := hl i H (by omega) p
  cases m with
  | zero => exact .inl ⟨⟨q, by omega⟩, hd H (by rw [← em, Nat.zero_add]; exact p)⟩
  | succ m =>
    refine .inr ⟨⟨q, by omega⟩, Pv (i + 1), fun H' p' => ⟨m, Nat.lt_succ_self m, by omega, p'⟩, ?_⟩
    rintro x H' ⟨rfl, k, v, e, rfl⟩
    exact hs i k v _ e p
theorem occ_no {t : List Nat} (h : (92 : Nat) ∉ t) : Builtin.Str.occurrences (SX.S t) (SX.S [92]) 0 (SX.S t).length ((SX.S t).length + 1) = [] := by
  refine PySem.W.occ_nil_of_no _ _ _ fun i _ => ?_
  rw [PySem.StrLaws.subAt_eq]
  refine beq_eq_false_iff_ne.mpr fun z => h ?_
  have m : (92 : Nat) ∈ (t.drop i).take 1 := by
    have z2 : (t.drop i).take 1 = [92] := z
    rw [z2]
    exact List.mem_cons_self
  exact List.mem_of_mem_drop (List.mem_of_mem_take m)
theorem escq_no {t : List Nat} (h : (92 : Nat) ∉ t) : PySem.StrLaws.replL [92] [92, 92] t = t := by
  have := PySem.StrLaws.repl_none (y := [92]) (z := [92, 92]) (L := t) (a := 0) fun k _ z => h ?_
  · rwa [List.drop_zero] at this
  · have m : (92 : Nat) ∈ (t.drop k).take 1 := by
      have z2 : (t.drop k).take 1 = [92] := z
      rw [z2]
      exact List.mem_cons_self
    exact List.mem_of_mem_drop (List.mem_of_mem_take m)
theorem repl_S {y z t : List Nat} (h : 1 ≤ y.length) : Txt.replace (SX.S t) (SX.S y) (SX.S z) = SX.S (PySem.StrLaws.replL y z t) := by
  have := PySem.StrLaws.replace_list (x := SX.S t) (y := SX.S y) (z := SX.S z) (by rw [SX.S_len]; exact h)
  rw [← SX.S_tl (Txt.replace (SX.S t) (SX.S y) (SX.S z)), this]
theorem sg9292 : (Str.ofString "\\\\") = SX.S [92, 92] := by decide +kernel
theorem sg9234 : (Str.ofString "\\\"") = SX.S [92, 34] := by decide +kernel
theorem sgNone : (Str.ofString "none") = SX.S [110, 111, 110, 101] := by decide +kernel
section
variable {P : Program} {w : World} {K : PySem.W.Frag} {mg : Str → Option Value} {base : Heap} {f : Addr} {fd : FuncData}
def spA (n : Nat) : Sp := fun vs H Q _ => ∃ (v : V) (x : PV) (R : Addr → Prop), vs = [v] ∧ Is R H v x ∧ good n false x = true ∧ ∀ H', Same H H' → Q (.str (SX.S (again n x))) H'
def spQ : Sp := fun vs H Q _ => ∃ s : List Nat, vs = [.str ⟨s.toArray⟩] ∧ s.length ≤ 1000 ∧ Q (.str (SX.S (34 :: (escq s ++ [34])))) H
abbrev spU (n : Nat) : Sp := fun vs H Q E => spQ vs H Q E ∨ spA n vs H Q E
theorem good_len {n : Nat} {tk : Bool} {x : PV} (h : good n tk x = true) : (again n x).length ≤ 2000 := by
  cases n with
  | zero => exact nomatch h
  | succ n =>
    unfold good at h
    exact of_decide_eq_true (Bool.and_eq_true_iff.mp h).1
theorem call_U {n : Nat} {R : Addr → Prop} {H : Hp} {v : V} {x : PV} {Q : VK} {E : XK} (h : Is R H v x) (g : good n true x = true) (q : ∀ H', Same H H' → Q (.str (SX.S (again n x))) H') : spU n [v] H Q E := by
  cases n with
  | zero => exact nomatch g
  | succ n =>
    cases h with
    | str s =>
      refine .inl ⟨s, rfl, ?_, q H (Same.refl H)⟩
      unfold good at g
      simp only [Bool.and_eq_true, decide_eq_true_eq] at g
      exact g.2.2
    | non => exact .inr ⟨_, _, R, rfl, .non, g, q⟩
    | int i => exact .inr ⟨_, _, R, rfl, .int i, g, q⟩
    | lst a b c => exact .inr ⟨_, _, R, rfl, .lst a b c, g, q⟩
    | tup a b c => exact .inr ⟨_, _, R, rfl, .tup a b c, g, q⟩
    | dct a b c => exact .inr ⟨_, _, R, rfl, .dct a b c, g, q⟩
structure TxtA (mg : Str → Option Value) : Prop where
  zi : mg "isinstance" = none
  zs : mg "str" = none
  zl : mg "list" = none
  zt : mg "tuple" = none
  zd : mg "dict" = none
theorem scAgain : FnScope ["_law_value", "_law_parts", "_law_one", "_law_name_here"] ["_law_value"] (defScope sAgain) := ⟨rfl, rfl, rfl, by decide +kernel, rfl, by decide +kernel, by decide +kernel⟩
theorem ok_again {k : Nat} (n : Nat) (F : Fun K "_law_again" "_law_again" sAgain f fd) (Z : TxtA mg) (mA : mg "_law_again" = some (.ref f)) (bA : Binds K fd ["_law_value"] [])
    (GA : FnOk P w K mg base CX0 k f fd ["_law_value"] (spA n)) (GU : FnT P w K mg base CX0 k f fd ["_law_value"] (spU n)) : FnOk P w K mg base CX0 (k + 1) f fd ["_law_value"] (spA (n + 1)) := by
  refine F.ok scAgain (fun vs H Q E h => ?_) (fun cdv A outer s H vs Q E hr h => ?_)
  · obtain ⟨a, x, R, rfl, _⟩ := h
    rfl
  obtain ⟨v, x, R, rfl, hI, g, q⟩ := h
  refine ⟨_, pss_cons (ps_if (pt_cmpR op_isN (pv 0) pe_non (nomark _)) (pss_one (ps_ret pe_str)) pss_nil)
    (pss_cons (ps_if (pt_val (pe_callB call_isi (by rfl) Z.zi (by decide +kernel) (pa_cons (pv 0) (pa_cons (pe_bltn (v := .ty "str") (by rfl) Z.zs (by decide +kernel) rfl) pa_nil))) (by intro _; rfl)) (pss_cons (ps_set (i := 0) scAgain.nd rfl (Or.inr rfl) (pe_rep0 (pv 0)))
      (pss_one (ps_ret (pe_op op_add_str (PEK.pe (pek_l op_add_str pek_str (CwR.pet_replC (pv 0)))) pe_str)))) pss_nil)
    (pss_cons (ps_if (pt_val (pe_callB call_isi (by rfl) Z.zi (by decide +kernel) (pa_cons (pv 0) (pa_cons (pe_bltn (v := .ty "list") (by rfl) Z.zl (by decide +kernel) rfl) pa_nil))) (by intro _; rfl)) (pss_one (ps_ret (pe_op op_add_str (pe_op op_add_str pe_str (pe_join pe_str (pe_lc (own := [("_law_one", 2)]) (g := gName 2) (tt := tYes) rfl scAgain.nd (pi_list (pv 0))
      (blkOk_by (N := ["_law_value", "_law_parts", "_law_one", "_law_name_here"]) (sc := defScope sAgain) (by decide +kernel)) (fun _ _ _ _ _ => pg_name (i := 2) scAgain.nd rfl (Or.inl rfl)) (fun _ _ _ _ _ => pts_nil)
      (fun _ _ _ _ _ => pe_call GA hr rfl mA F.kp bA .nil pass0 (pa_cons (pv 2) pa_nil))))) pe_str))) pss_nil)
    (pss_cons (ps_if (pt_val (pe_callB call_isi (by rfl) Z.zi (by decide +kernel) (pa_cons (pv 0) (pa_cons (pe_bltn (v := .ty "tuple") (by rfl) Z.zt (by decide +kernel) rfl) pa_nil))) (by intro _; rfl)) (pss_one (ps_ret (pe_op op_add_str (PEK.pe (pek_l op_add_str (pek_r op_add_str (pe_op op_add_str pe_str (pe_callTy call_str_int (by rfl) Z.zs (by decide +kernel) (pa_cons (pe_ix ix_tup (pv 0) pe_int (fun _ _ => rfl)) pa_nil))) pek_str)
      (pet_call GU hr rfl mA F.kp bA .nil pass0 (pa_cons (pe_ix ix_tup (pv 0) pe_int (fun _ _ => rfl)) pa_nil)))) pe_str))) pss_nil)
    (pss_cons (ps_if (pt_val (pe_callB call_isi (by rfl) Z.zi (by decide +kernel) (pa_cons (pv 0) (pa_cons (pe_bltn (v := .ty "dict") (by rfl) Z.zd (by decide +kernel) rfl) pa_nil))) (by intro _; rfl)) (pss_cons (ps_lock (ps_setLc (i := 1) (own := [("_law_name_here", 3)]) (g := gName 3) (tt := tYes) rfl scAgain.nd rfl rfl (sw_true rfl rfl rfl (by decide +kernel)) (pi_keys (pv 0))
      (blkOk_by (N := ["_law_value", "_law_parts", "_law_one", "_law_name_here"]) (sc := defScope sAgain) (by decide +kernel)) (fun _ _ _ _ _ => pg_name (i := 3) scAgain.nd rfl (Or.inl rfl)) (fun _ _ _ _ _ => pts_nil)
      (fun _ _ _ _ _ => PEK.pe (pek_l op_add_str (pek_r op_add_str (pv 3) pek_str) (pet_call GU hr rfl mA F.kp bA .nil pass0 (pa_cons (pe_dget (hu_of hr) (pv 0) (pv 3) (fun _ _ => rfl)) pa_nil))))))
      (pss_one (ps_ret (pe_op op_add_str (pe_op op_add_str pe_str (pe_join pe_str (pv 1))) pe_str)))) pss_nil)
    (pss_one (ps_ret (pe_callTy call_str_int (by rfl) Z.zs (by decide +kernel) (pa_cons (pv 0) pa_nil)))))))), ?_⟩
  have g2 : (again (n + 1) x).length ≤ 2000 := good_len g
  have no : ∀ {t : String} {Q : VK}, kitB (kd x) t = some false → Q (.bl false) H → rIsi K [v, V.ty t] H Q := fun e q => isi_at hI e q
  walk_at "ss"
  cases hI with
  | non =>
    refine ⟨rfl, ?_⟩
    walk_at "ss"
    rw [show (decide (V.non = V.non)) = true from rfl]
    walk_at "ss"
    exact q H (Same.refl H)
  | int i =>
    refine ⟨rfl, ?_⟩
    rw [decide_eq_false (fun z => nomatch z)]
    walk_at "ss"
    refine no (by dsimp only [kd]; decide +kernel) ?_
    walk_at "ss"
    refine no (by dsimp only [kd]; decide +kernel) ?_
    walk_at "ss"
    refine no (by dsimp only [kd]; decide +kernel) ?_
    walk_at "ss"
    refine no (by dsimp only [kd]; decide +kernel) ?_
    walk_at "ss"
    unfold good at g
    simp only [Bool.and_eq_true, decide_eq_true_eq] at g
    exact ⟨i, rfl, log_small g.2, q H (Same.refl H)⟩
  | str t =>
    refine ⟨rfl, ?_⟩
    rw [decide_eq_false (fun z => nomatch z)]
    walk_at "ss"
    refine isi_at (.str t) (b := true) (R := R) (by dsimp only [kd]; decide +kernel) ?_
    walk_at "ss"
    unfold good at g
    simp only [Bool.and_eq_true, decide_eq_true_eq, Bool.or_eq_true, Bool.not_eq_true', Bool.false_eq_true, false_or] at g
    have n92 : (92 : Nat) ∉ t := fun z => by
      rw [List.contains_iff_mem.mpr z] at g
      exact nomatch g.2.1
    have es : escq t = PySem.StrLaws.replL [34] [92, 34] t := by unfold escq; rw [escq_no n92]
    have hq := q H (Same.refl H)
    unfold again at hq g2
    rw [es] at hq g2
    simp only [List.length_cons, List.length_append, List.length_nil] at g2
    rw [sg92, sg34, sg9234]
    refine ⟨_, rfl, _, rfl, occ_no n92, ?_⟩
    walk_at "ss"
    refine ⟨_, rfl, _, rfl, ?_, ?_⟩
    · rw [SX.S_len, SX.S_len]
      show t.length + (t.length + 1) * 2 ≤ _
      omega
    · rw [repl_S (by decide)]
      walk_at "cat"
      walk_at "ss"
      walk_at "cat"
      exact hq
  | lst hs e hl =>
    refine ⟨rfl, ?_⟩
    rw [decide_eq_false (fun z => nomatch z)]
    walk_at "ss"
    refine no (by dsimp only [kd]; decide +kernel) ?_
    walk_at "ss"
    refine isi_at (.lst hs e hl) (b := true) (by dsimp only [kd]; decide +kernel) ?_
    walk_at "ss"
    rename_i a vs l
    have hq := fun H' hs' => q H' hs'
    unfold good at g
    unfold again at hq g2
    simp only [Bool.and_eq_true, decide_eq_true_eq, List.all_eq_true] at g
    obtain ⟨_, g63, gall⟩ := g
    have hlen : vs.length = l.length := hl.len
    simp only [List.length_cons, List.length_append, List.length_nil] at g2
    rw [sg91, sg44, sg93]
    refine ⟨⟨_, rfl⟩, ?_⟩
    refine ⟨_, rfl, a, rfl, ⟨_, SqL.of e⟩, fun D hD => ?_⟩
    refine lc_list (xs := vs) (fun i H' => Same H H' ∧ H' D = some (.lst (((l.take i).map fun x => V.str (SX.S (again n x)))))) ⟨Same.put hD _, upd_same⟩ (fun i H' _ p => SqL.of (p.1 _ _ e)) ?_ ?_
    · rintro i v H' hv ⟨s1, e1⟩
      obtain ⟨y, hy, iy⟩ := hl.get hv
      refine Hd.name ⟨rfl, ?_⟩
      unfold tYes
      walk_at "ss"
      refine ⟨v, y, R, rfl, iy.imp (fun _ z => z) fun b o _ z => s1 b o z, gall y (List.mem_of_getElem? hy), fun H4 s2 => ?_⟩
      have il : i < l.length := (List.getElem?_eq_some_iff.mp hy).1
      refine ⟨_, s2 _ _ e1, ?_, fun b o z => ?_, ?_⟩
      · rw [List.length_map, List.length_take]
        exact Nat.lt_of_le_of_lt (show _ ≤ 63 by omega) (by decide)
      · rw [upd_ne (ne_of_none z hD)]
        exact s2 _ _ (s1 _ _ z)
      · rw [take_snoc hy, List.map_append]
        exact upd_same
    · rintro H' ⟨s1, e1⟩
      rw [hlen, List.take_length] at e1
      have ej : (l.map fun x => V.str (SX.S (again n x))) = ((l.map (again n)).map SX.S).map V.str := by rw [List.map_map, List.map_map]; rfl
      rw [ej] at e1
      refine ⟨_, D, _, rfl, rfl, .inl (SqL.of e1), ?_, ?_⟩
      · have h1 := sum_le (B := 2000) (l := l.map (again n)) fun x hx => by
          obtain ⟨y, hy, rfl⟩ := List.mem_map.mp hx
          exact good_len (gall y hy)
        rw [List.length_map] at h1
        rw [List.length_map, List.length_map, SX.S_len]
        show _ + l.length * 1 ≤ _
        omega
      · rw [SX.join_S]
        walk_at "cat"
        walk_at "ss"
        walk_at "cat"
        exact (hq H' s1)
  | tup hs e hl =>
    refine ⟨rfl, ?_⟩
    rw [decide_eq_false (fun z => nomatch z)]
    walk_at "ss"
    refine no (by dsimp only [kd]; decide +kernel) ?_
    walk_at "ss"
    refine no (by dsimp only [kd]; decide +kernel) ?_
    walk_at "ss"
    refine isi_at (.tup hs e hl) (b := true) (by dsimp only [kd]; decide +kernel) ?_
    walk_at "ss"
    rename_i a i v' y
    have hq := fun H' hs' => q H' hs'
    unfold good at g
    unfold again at hq g2
    simp only [Bool.and_eq_true, decide_eq_true_eq] at g
    obtain ⟨_, gi, gy⟩ := g
    simp only [List.length_cons, List.length_append, List.length_nil] at g2
    rw [sg40, sg44, sg41]
    refine Hd.ixT (SqT.of e) (atI_nat rfl) ?_
    walk_at "ss"
    refine ⟨i, rfl, log_small gi, ?_⟩
    have ei : (Str.ofString (toString i)) = SX.S (digs i) := (SX.S_tl _).symm
    rw [ei]
    walk_at "cat"
    walk_at "ss"
    walk_at "cat"
    walk_at "ss"
    refine Hd.ixT (SqT.of e) (atI_nat rfl) ?_
    walk_at "ss"
    refine call_U hl gy fun H' s1 => ?_
    walk_at "cat"
    walk_at "ss"
    walk_at "cat"
    have h3 := hq H' s1
    simpa only [List.append_assoc, List.cons_append, List.nil_append] using h3
  | dct hs e hl =>
    refine ⟨rfl, ?_⟩
    rw [decide_eq_false (fun z => nomatch z)]
    walk_at "ss"
    refine no (by dsimp only [kd]; decide +kernel) ?_
    walk_at "ss"
    refine no (by dsimp only [kd]; decide +kernel) ?_
    walk_at "ss"
    refine no (by dsimp only [kd]; decide +kernel) ?_
    walk_at "ss"
    refine isi_at (.dct hs e hl) (b := true) (by dsimp only [kd]; decide +kernel) ?_
    walk_at "ss"
    rename_i a kv l
    have hq := fun H' hs' => q H' hs'
    unfold good at g
    unfold again at hq g2
    simp only [Bool.and_eq_true, decide_eq_true_eq, List.all_eq_true] at g
    obtain ⟨_, ⟨g63, gnd⟩, gall⟩ := g
    have hlen : kv.length = l.length := hl.len
    simp only [List.length_cons, List.length_append, List.length_nil] at g2
    rw [sg123, sg44, sg125, sg58]
    have hv0 : IsD (fun b => R b ∧ b ≠ a) H kv l := IsD.avoid (.dct hs e hl) hl (by simp)
    have nd := keys_nodup hl gnd
    refine ⟨a, _, e, trivial, fun od => ?_⟩
    have hv1 : IsD (fun b => R b ∧ b ≠ a) (upd H a (.frz od (.dK kv))) kv l := hv0.imp (fun _ z => z) fun b o z e => by rw [upd_ne z.2]; exact e
    have ea : (upd H a (.frz od (.dK kv))) a = some (.frz od (.dK kv)) := upd_same
    have back : ∀ {H' : Hp}, Same (upd H a (.frz od (.dK kv))) H' → Same H (upd H' a (.dK kv)) := fun s1 b o z => by
      by_cases c : b = a
      · subst c
        rw [e] at z
        injection z with z
        rw [upd_same, z]
      · rw [upd_ne c]
        exact s1 _ _ (by rw [upd_ne c]; exact z)
    generalize upd H a (.frz od (.dK kv)) = Hf at *
    refine Hd.asg ?_
    refine ⟨_, rfl, a, od, rfl, .inl ⟨kv, ea, fun D hD => ?_⟩⟩
    have nDa : D ≠ a := fun z => by rw [z, ea] at hD; cases hD
    refine lc_keys (fun i H' => Same Hf H' ∧ H' D = some (.lst (((l.take i).map fun x => V.str (SX.S (x.1 ++ (58 :: again n x.2))))))) ⟨Same.put hD _, upd_same⟩ (fun i H' _ p => p.1 _ _ ea) ?_ ?_
    · rintro i k v H' hv ⟨s1, e1⟩
      obtain ⟨c, y, hy, rfl, iy⟩ := hv1.get hv
      obtain ⟨gy, gc⟩ := gall _ (List.mem_of_getElem? hy)
      dsimp only at gc gy
      refine Hd.name ⟨rfl, ?_⟩
      unfold tYes
      have il : i < l.length := (List.getElem?_eq_some_iff.mp hy).1
      walk_at "ss"
      walk_at "cat"
      walk_at "ss"
      refine ⟨a, v, rfl, .inl ⟨kv, _, .inr ⟨od, s1 _ _ ea⟩, rfl, (val_nd nd (List.mem_of_getElem? hv)).symm⟩, ?_⟩
      walk_at "ss"
      refine call_U (iy.imp (fun _ z => z) fun b o _ z => s1 b o z) gy fun H4 s2 => ?_
      have gl := good_len gy
      walk_at "cat"
      refine ⟨_, s2 _ _ e1, ?_, fun b o z => ?_, ?_⟩
      · rw [List.length_map, List.length_take]
        exact Nat.lt_of_le_of_lt (show _ ≤ 63 by omega) (by decide)
      · rw [upd_ne (ne_of_none z hD)]
        exact s2 _ _ (s1 _ _ z)
      · rw [take_snoc hy, List.map_append, List.append_assoc]
        exact upd_same
    · rintro H' ⟨s1, e1⟩
      rw [hlen, List.take_length] at e1
      have ej : (l.map fun x => V.str (SX.S (x.1 ++ (58 :: again n x.2)))) = ((l.map fun kv => kv.1 ++ (58 :: again n kv.2)).map SX.S).map V.str := by rw [List.map_map, List.map_map]; rfl
      rw [ej] at e1
      refine Hd.name ⟨s1 _ _ ea, ?_⟩
      walk_at "ss"
      refine ⟨⟨_, rfl⟩, ?_⟩
      walk_at "ss"
      refine ⟨_, D, _, rfl, rfl, .inl (SqL.of (by rw [upd_ne nDa]; exact e1)), ?_, ?_⟩
      · have h1 := sum_le (B := 2101) (l := l.map fun kv => kv.1 ++ (58 :: again n kv.2)) fun x hx => by
          obtain ⟨y, hy, rfl⟩ := List.mem_map.mp hx
          obtain ⟨gy, gc⟩ := gall y hy
          have := good_len gy
          simp only [List.length_cons, List.length_append]
          omega
        rw [List.length_map] at h1
        rw [List.length_map, List.length_map, SX.S_len]
        show _ + l.length * 1 ≤ _
        omega
      · rw [SX.join_S]
        walk_at "cat"
        walk_at "ss"
        walk_at "cat"
        exact (hq _ (back s1))
end
end K91

set_option Elab.async false
set_option linter.all false
set_option maxRecDepth 100000
set_option maxHeartbeats 4000000
namespace K91
open PySem L2
local macro_rules | `(tactic| walk_at "s") => `(tactic| (with_reducible first
  | refine Hd.and_ ?_ | refine Hd.or_ ?_ | refine Hd.not_ ?_ | refine Hd.test ?_ | refine Hd.tb ?_ | refine Hd.bl ?_ | refine Hd.chain ?_ | refine Hd.op ?_ | refine Hd.un ?_
  | refine Hd.cb ?_ | refine Hd.nil ?_ | refine Hd.cons ?_ | refine Hd.if_ ?_ | refine Hd.seq ?_ | refine Hd.nx ?_ | refine Hd.ifs ?_ | refine Hd.ret ?_ | refine Hd.drop ?_
  | refine Hd.asg ?_ | refine Hd.name ?_ | refine Hd.tup ?_ | refine Hd.lst ?_ | refine Hd.int0 ?_ | refine Hd.intU ?_ | refine Hd.eqI ?_ | refine Hd.eqS ?_ | refine Hd.eqB ?_ | refine Hd.neI ?_ | refine Hd.neS ?_ | refine Hd.neB ?_
  | refine Hd.add ?_ | refine Hd.sub ?_ | refine Hd.call ?_ | refine Hd.callS ?_ | refine Hd.ifNT ?_ | refine Hd.ifNF ?_ | refine Hd.dput ?_ | refine Hd.din ?_ | refine Hd.dget ?_ | refine Hd.dnew ?_ | refine Hd.make ?_ | refine Hd.gsub ?_ | refine Hd.bm ?_ | refine Hd.sl ?_ | refine Hd.part ?_ | refine Hd.nopart ?_ | refine Hd.bm0 ?_ | refine Hd.c ?_ | refine Hd.ifT ?_ | refine Hd.ifF ?_))
local macro_rules | `(tactic| walk_at "v") => `(tactic| (with_reducible refine Hd.var ?_; refine ⟨_, rfl, ?_⟩))
local macro_rules | `(tactic| walk_at "ss") => `(tactic| (repeat first | walk_at "s" | walk_at "v"))

local macro_rules | `(tactic| walk_at "t") => `(tactic| (repeat with_reducible first | refine Hd.seq ?_ | refine Hd.nx ?_ | refine Hd.asg ?_ | refine Hd.name ?_ | refine Hd.ifT ?_ | refine Hd.ifF ?_))
local macro_rules | `(tactic| walk_at "m") => `(tactic| (repeat with_reducible first | exact Hd.mVar | exact Hd.mC | exact Hd.mNil | exact Hd.mI0 | exact Hd.mEq | exact Hd.mNe | exact Hd.mLen | exact Hd.mStarts | refine Hd.mBM ?_ ?_ ?_ | refine Hd.mOr ?_ ?_ | refine Hd.mAnd ?_ ?_ | refine Hd.mNot ?_ | refine Hd.mTest ?_ | refine Hd.mTb ?_ | refine Hd.mOp ?_ ?_ ?_ | refine Hd.mFld ?_ | refine Hd.mCB ?_ ?_ | refine Hd.mCons ?_ ?_))

section
open PySem.Spec PyProof.Rows
theorem pst_set {X : Cx} {i : Nat} {x : Str} {e : Expr} {te : TE} {pos pos' : Pos} (hN : X.N.Nodup) (hi : X.N[i]? = some x) (hx : Loc X.env.scope x) (he : PET X e te) (hs : swapsWith e (some (.Name x pos')) pos.line X.env = pure false := by rfl)
    (hf : X.fn x = true ∨ X.env.scope.names.lookup x = some .local := by first | exact .inl rfl | exact .inr rfl) : PST X (.Assign [.Name x pos'] e pos) (tAsg te (gName i)) := by
  intro pins s σ H D h0 I h
  refine wpAny_Assign_Name (wpAny_mono (he pins s σ H _ h0 I h) (fun v s1 q => ?_) fun _ _ z => z) hs
  obtain ⟨y, H1, I1, r1, q1⟩ := q
  exact store_ok I1 hN hi hx r1 (fun s2 I2 => ⟨_, H1, I2, q1⟩) hf
end
local macro_rules | `(tactic| walk_at "cat") => `(tactic| (refine ⟨_, _, rfl, rfl, sz ?_, ?_⟩; (· simp only [List.length_cons, List.length_append, List.length_nil]; omega); rw [SX.S_cat]))
section
variable {P : Program} {w : World} {K : PySem.W.Frag} {mg : Str → Option Value} {base : Heap} {f : Addr} {fd : FuncData}
theorem ok_againQ {k : Nat} {sp1 sp2 : Sp} (F : Fun K "_law_again" "_law_again" sAgain f fd) (Z : TxtA mg) (mA : mg "_law_again" = some (.ref f)) (bA : Binds K fd ["_law_value"] [])
    (GA : FnOk P w K mg base CX0 k f fd ["_law_value"] sp1) (GU : FnT P w K mg base CX0 k f fd ["_law_value"] sp2) : FnT P w K mg base CX0 (k + 1) f fd ["_law_value"] spQ := by
  refine okT F scAgain (fun vs H Q E h => ?_) (fun cdv A outer s H vs Q E hr h => ?_)
  · obtain ⟨t, rfl, _⟩ := h
    rfl
  obtain ⟨t, rfl, ht, q⟩ := h
  refine ⟨_, psst_cons (PST.of (ps_if (pt_cmpR op_isN (pv 0) pe_non (nomark _)) (pss_one (ps_ret pe_str)) pss_nil))
    (psst_cons (CwR.pst_if (pt_val (pe_callB call_isi (by rfl) Z.zi (by decide +kernel) (pa_cons (pv 0) (pa_cons (pe_bltn (v := .ty "str") (by rfl) Z.zs (by decide +kernel) rfl) pa_nil))) (by intro _; rfl)) (psst_cons (pst_set (i := 0) scAgain.nd rfl (Or.inr rfl) (CwR.pet_replC (pv 0)))
      (CwR.psst_one (PST.of (ps_ret (pe_op op_add_str (PEK.pe (pek_l op_add_str pek_str (CwR.pet_replC (pv 0)))) pe_str))))) CwR.psst_nil)
    (PSsT.of (pss_cons (ps_if (pt_val (pe_callB call_isi (by rfl) Z.zi (by decide +kernel) (pa_cons (pv 0) (pa_cons (pe_bltn (v := .ty "list") (by rfl) Z.zl (by decide +kernel) rfl) pa_nil))) (by intro _; rfl)) (pss_one (ps_ret (pe_op op_add_str (pe_op op_add_str pe_str (pe_join pe_str (pe_lc (own := [("_law_one", 2)]) (g := gName 2) (tt := tYes) rfl scAgain.nd (pi_list (pv 0))
      (blkOk_by (N := ["_law_value", "_law_parts", "_law_one", "_law_name_here"]) (sc := defScope sAgain) (by decide +kernel)) (fun _ _ _ _ _ => pg_name (i := 2) scAgain.nd rfl (Or.inl rfl)) (fun _ _ _ _ _ => pts_nil)
      (fun _ _ _ _ _ => pe_call GA hr rfl mA F.kp bA .nil pass0 (pa_cons (pv 2) pa_nil))))) pe_str))) pss_nil)
    (pss_cons (ps_if (pt_val (pe_callB call_isi (by rfl) Z.zi (by decide +kernel) (pa_cons (pv 0) (pa_cons (pe_bltn (v := .ty "tuple") (by rfl) Z.zt (by decide +kernel) rfl) pa_nil))) (by intro _; rfl)) (pss_one (ps_ret (pe_op op_add_str (PEK.pe (pek_l op_add_str (pek_r op_add_str (pe_op op_add_str pe_str (pe_callTy call_str_int (by rfl) Z.zs (by decide +kernel) (pa_cons (pe_ix ix_tup (pv 0) pe_int (fun _ _ => rfl)) pa_nil))) pek_str)
      (pet_call GU hr rfl mA F.kp bA .nil pass0 (pa_cons (pe_ix ix_tup (pv 0) pe_int (fun _ _ => rfl)) pa_nil)))) pe_str))) pss_nil)
    (pss_cons (ps_if (pt_val (pe_callB call_isi (by rfl) Z.zi (by decide +kernel) (pa_cons (pv 0) (pa_cons (pe_bltn (v := .ty "dict") (by rfl) Z.zd (by decide +kernel) rfl) pa_nil))) (by intro _; rfl)) (pss_cons (ps_lock (ps_setLc (i := 1) (own := [("_law_name_here", 3)]) (g := gName 3) (tt := tYes) rfl scAgain.nd rfl rfl (sw_true rfl rfl rfl (by decide +kernel)) (pi_keys (pv 0))
      (blkOk_by (N := ["_law_value", "_law_parts", "_law_one", "_law_name_here"]) (sc := defScope sAgain) (by decide +kernel)) (fun _ _ _ _ _ => pg_name (i := 3) scAgain.nd rfl (Or.inl rfl)) (fun _ _ _ _ _ => pts_nil)
      (fun _ _ _ _ _ => PEK.pe (pek_l op_add_str (pek_r op_add_str (pv 3) pek_str) (pet_call GU hr rfl mA F.kp bA .nil pass0 (pa_cons (pe_dget (hu_of hr) (pv 0) (pv 3) (fun _ _ => rfl)) pa_nil))))))
      (pss_one (ps_ret (pe_op op_add_str (pe_op op_add_str pe_str (pe_join pe_str (pv 1))) pe_str)))) pss_nil)
    (pss_one (ps_ret (pe_callTy call_str_int (by rfl) Z.zs (by decide +kernel) (pa_cons (pv 0) pa_nil))))))))), ?_⟩
  walk_at "ss"
  refine ⟨rfl, ?_⟩
  rw [decide_eq_false (fun z => nomatch z)]
  walk_at "ss"
  refine isi_at (R := fun _ => False) (.str t) (b := true) (by dsimp only [kd]; decide +kernel) ?_
  walk_at "ss"
  rw [sg92, sg9292, sg34, sg9234]
  refine ⟨_, rfl, _, rfl, ?_, ?_⟩
  · rw [SX.S_len, SX.S_len]
    show t.length + (t.length + 1) * 2 ≤ _
    omega
  rw [repl_S (by decide)]
  have hl : (PySem.StrLaws.replL [92] [92, 92] t).length ≤ t.length + (t.length + 1) * 2 := by
    have := TK.replace_len (SX.S t) (SX.S [92]) (SX.S [92, 92])
    rw [repl_S (by decide), SX.S_len, SX.S_len, SX.S_len] at this
    exact this
  have hl2 : (escq t).length ≤ (PySem.StrLaws.replL [92] [92, 92] t).length + ((PySem.StrLaws.replL [92] [92, 92] t).length + 1) * 2 := by
    have := TK.replace_len (SX.S (PySem.StrLaws.replL [92] [92, 92] t)) (SX.S [34]) (SX.S [92, 34])
    rw [repl_S (by decide), SX.S_len, SX.S_len, SX.S_len] at this
    exact this
  walk_at "ss"
  refine ⟨_, rfl, _, rfl, ?_, ?_⟩
  · rw [SX.S_len, SX.S_len]
    show (PySem.StrLaws.replL [92] [92, 92] t).length + ((PySem.StrLaws.replL [92] [92, 92] t).length + 1) * 2 ≤ _
    omega
  rw [repl_S (by decide), show PySem.StrLaws.replL [34] [92, 34] (PySem.StrLaws.replL [92] [92, 92] t) = escq t from rfl]
  walk_at "cat"
  walk_at "ss"
  walk_at "cat"
  exact q
/-- shown, by the depth -/
theorem all_again (F : Fun K "_law_again" "_law_again" sAgain f fd) (Z : TxtA mg) (mA : mg "_law_again" = some (.ref f)) (bA : Binds K fd ["_law_value"] []) :
    ∀ n : Nat, FnOk P w K mg base CX0 (n + 1) f fd ["_law_value"] (spA n) ∧ FnT P w K mg base CX0 (n + 1) f fd ["_law_value"] (spU n)
  | 0 => by
    have h0 : FnOk P w K mg base CX0 0 f fd ["_law_value"] (spA 0) := none_fn.imp fun vs H Q E h => by
      obtain ⟨_, _, _, _, _, z, _⟩ := h
      exact nomatch z
    have q : FnT P w K mg base CX0 1 f fd ["_law_value"] spQ := ok_againQ (k := 0) F Z mA bA h0 (FnT.of h0)
    exact ⟨h0.mono (by omega), q.or (FnT.of (h0.mono (by omega)))⟩
  | n + 1 => by
    obtain ⟨a, u⟩ := all_again F Z mA bA n
    have h1 := ok_again n F Z mA bA a u
    exact ⟨h1, ((ok_againQ F Z mA bA a u)).or (FnT.of h1)⟩
end
end K91

set_option Elab.async false
set_option linter.all false
set_option maxRecDepth 100000
set_option maxHeartbeats 4000000
namespace K91
open PySem L2
local macro_rules | `(tactic| walk_at "s") => `(tactic| (with_reducible first
  | refine Hd.and_ ?_ | refine Hd.or_ ?_ | refine Hd.not_ ?_ | refine Hd.test ?_ | refine Hd.tb ?_ | refine Hd.bl ?_ | refine Hd.chain ?_ | refine Hd.op ?_ | refine Hd.un ?_
  | refine Hd.cb ?_ | refine Hd.nil ?_ | refine Hd.cons ?_ | refine Hd.if_ ?_ | refine Hd.seq ?_ | refine Hd.nx ?_ | refine Hd.ifs ?_ | refine Hd.ret ?_ | refine Hd.drop ?_
  | refine Hd.asg ?_ | refine Hd.name ?_ | refine Hd.tup ?_ | refine Hd.lst ?_ | refine Hd.int0 ?_ | refine Hd.intU ?_ | refine Hd.eqI ?_ | refine Hd.eqS ?_ | refine Hd.eqB ?_ | refine Hd.neI ?_ | refine Hd.neS ?_ | refine Hd.neB ?_
  | refine Hd.add ?_ | refine Hd.sub ?_ | refine Hd.call ?_ | refine Hd.callS ?_ | refine Hd.ifNT ?_ | refine Hd.ifNF ?_ | refine Hd.dput ?_ | refine Hd.din ?_ | refine Hd.dget ?_ | refine Hd.dnew ?_ | refine Hd.make ?_ | refine Hd.gsub ?_ | refine Hd.bm ?_ | refine Hd.sl ?_ | refine Hd.part ?_ | refine Hd.nopart ?_ | refine Hd.bm0 ?_ | refine Hd.c ?_ | refine Hd.ifT ?_ | refine Hd.ifF ?_))
local macro_rules | `(tactic| walk_at "v") => `(tactic| (with_reducible refine Hd.var ?_; refine ⟨_, rfl, ?_⟩))
local macro_rules | `(tactic| walk_at "ss") => `(tactic| (repeat first | walk_at "s" | walk_at "v"))

local macro_rules | `(tactic| walk_at "t") => `(tactic| (repeat with_reducible first | refine Hd.seq ?_ | refine Hd.nx ?_ | refine Hd.asg ?_ | refine Hd.name ?_ | refine Hd.ifT ?_ | refine Hd.ifF ?_))
local macro_rules | `(tactic| walk_at "m") => `(tactic| (repeat with_reducible first | exact Hd.mVar | exact Hd.mC | exact Hd.mNil | exact Hd.mI0 | exact Hd.mEq | exact Hd.mNe | exact Hd.mLen | exact Hd.mStarts | refine Hd.mBM ?_ ?_ ?_ | refine Hd.mOr ?_ ?_ | refine Hd.mAnd ?_ ?_ | refine Hd.mNot ?_ | refine Hd.mTest ?_ | refine Hd.mTb ?_ | refine Hd.mOp ?_ ?_ ?_ | refine Hd.mFld ?_ | refine Hd.mCB ?_ ?_ | refine Hd.mCons ?_ ?_))

abbrev sSame : Stmt := top 36
/-! ### values alike -/
/-- of bounded size, names apart, plain signs -/
def fit : Nat → PV → Bool
  | 0, _ => false
  | _ + 1, .non => true
  | _ + 1, .int i => decide (i.natAbs < 2 ^ 64)
  | _ + 1, .str s => decide (s.length ≤ 1000) && s.all (fun c => decide (c < 128))
  | n + 1, .lst l => decide (l.length ≤ 1000) && l.all (fit n)
  | n + 1, .tup i y => decide (i.natAbs < 2 ^ 64) && fit n y
  | n + 1, .dct kvs => decide (kvs.length ≤ 60) && decide ((kvs.map (·.1)).Nodup) && kvs.all fun kv => fit n kv.2 && kv.1.all (fun c => decide (c < 128))
/-- what repr tells of a leaf -/
inductive Rp : V → Str → Prop
  | non : Rp .non (Str.ofString "None")
  | int {i : Int} (h : i.natAbs < 2 ^ 64) : Rp (.int i) (toString i)
  | str {x : Str} (h : (reprText x).length ≤ sizeLine) : Rp (.str x) (reprText x)
def rRepr : List V → Hp → VK → Prop := fun xs H Q => ∃ (v : V) (r : Str), xs = [v] ∧ Rp v r ∧ Q (.str r) H
section
open PySem.Spec PyProof.Rows
theorem call_rp {X : Cx} : CallR X (.builtin "repr") rRepr := by
  intro pins s σ H xs us Q I r h
  obtain ⟨v, z, rfl, hr, q⟩ := h
  obtain ⟨u, rfl, ru⟩ := vals1 r
  cases hr with
  | non =>
    cases ru
    exact PySem.P.repr_of_none ⟨.str _, H, I.tok _, ⟨_, rfl⟩, q⟩
  | int h =>
    obtain ⟨t, rfl⟩ := ru
    exact PySem.P.repr_of_int (log_small h) ⟨.str _, H, I.tok _, ⟨_, rfl⟩, q⟩
  | str h =>
    obtain ⟨t, rfl⟩ := ru
    exact PySem.P.repr_of_str ⟨.str _, H, I.tok _, ⟨_, rfl⟩, q⟩ h
end
theorem rising_pw : ∀ (p : Str) (l : List Str), PyProof.Rows.risingS p l = true → (p :: l).Pairwise fun a b => a.cps.toList ≤ b.cps.toList
  | p, [], _ => List.pairwise_singleton _ _
  | p, x :: r, h => by
    unfold PyProof.Rows.risingS at h
    rw [Bool.and_eq_true, PyProof.Rows.ltCps_eq, Bool.not_eq_true', decide_eq_false_iff_not, List.not_lt] at h
    have ih := rising_pw x r h.2
    refine List.pairwise_cons.mpr ⟨fun b hb => ?_, ih⟩
    rcases List.mem_cons.mp hb with e | hb
    · rw [e]; exact h.1
    · exact List.le_trans h.1 ((List.pairwise_cons.mp ih).1 b hb)
theorem sorted_pw : ∀ {l : List Str}, PyProof.Rows.sortedS l = true → l.Pairwise fun a b => a.cps.toList ≤ b.cps.toList
  | [], _ => .nil
  | x :: r, h => rising_pw x r h
theorem sorted_one {a b l : List Str} (h1 : a.Perm l) (h2 : b.Perm l) (s1 : PyProof.Rows.sortedS a = true) (s2 : PyProof.Rows.sortedS b = true) : a = b :=
  List.Perm.eq_of_pairwise (fun x y _ _ h h' => by
    obtain ⟨⟨x⟩⟩ := x
    obtain ⟨⟨y⟩⟩ := y
    have := List.le_antisymm h h'
    simp only at this
    rw [this]) (sorted_pw s1) (sorted_pw s2) (h1.trans h2.symm)
theorem dp_strs {K : PySem.W.Frag} {H : Hp} : ∀ l : List Str, DpAll K H (l.map V.str) (l.map PyData.str)
  | [] => .nil
  | x :: r => .cons (.str x) (dp_strs r)
theorem strs_shaped {l : List Str} (h : ∀ x ∈ l, PyData.strOk x = true) : SeqAt.shaped (.list (l.map PyData.str)) = true := by
  have h1 : ∀ l : List Str, (∀ x ∈ l, PyData.strOk x = true) → PyData.canLayAll0 (l.map PyData.str) = true ∧ PyData.depthAll (l.map PyData.str) = 0 := by
    intro l
    induction l with
    | nil => exact fun _ => ⟨rfl, rfl⟩
    | cons x r ih =>
      intro h
      obtain ⟨a, b⟩ := ih fun y hy => h y (List.mem_cons_of_mem _ hy)
      have hx := h x List.mem_cons_self
      rw [List.map_cons]
      constructor
      · rw [PyData.canLayAll0, a, PyData.canLay0, hx] <;> rfl
      · rw [PyData.depthAll, b, PyData.depth]
        rfl
  obtain ⟨a, b⟩ := h1 l h
  unfold SeqAt.shaped
  rw [PyData.canLay0, a, PyData.depth, b]
  rfl

theorem strOk_small {c : List Nat} (h : c.all (fun c => decide (c < 128)) = true) : PyData.strOk (⟨c.toArray⟩ : Str) = true := by
  unfold PyData.strOk
  rw [Array.all_eq_true']
  intro x hx
  have := of_decide_eq_true (List.all_eq_true.mp h x (by simpa using hx))
  exact decide_eq_true (by omega)
theorem rp_of {n : Nat} {R : Addr → Prop} {H : Hp} {v : V} {x : PV} (h : Is R H v x) (f : fit n x = true) (hk : kd x ≠ "list" ∧ kd x ≠ "tuple" ∧ kd x ≠ "dict") : ∃ r, ∀ {R' : Addr → Prop} {w : V}, Is R' H w x → Rp w r := by
  cases n with
  | zero => exact nomatch f
  | succ n =>
    cases h with
    | non => exact ⟨_, fun h => by cases h; exact .non⟩
    | int i => exact ⟨_, fun h => by cases h; exact .int (of_decide_eq_true f)⟩
    | str s =>
      refine ⟨reprText (⟨s.toArray⟩ : Str), fun {R' w} h => ?_⟩
      have hw : w = V.str ⟨s.toArray⟩ := by cases h; rfl
      rw [hw]
      refine .str ?_
      unfold fit at f
      simp only [Bool.and_eq_true, decide_eq_true_eq, List.all_eq_true] at f
      have := PySem.StrLaws.reprText_len (⟨s.toArray⟩ : Str) fun c hc => by
        have := f.2 c (by simpa using hc)
        exact Nat.lt_of_lt_of_le this (by decide)
      refine Nat.le_trans this ?_
      rw [show (⟨s.toArray⟩ : Str).length = s.length from SX.S_len s]
      exact Nat.le_trans (show _ ≤ 10002 by omega) (by decide)
    | lst => exact absurd rfl hk.1
    | tup => exact absurd rfl hk.2.1
    | dct => exact absurd rfl hk.2.2
theorem kit2 {K : PySem.W.Frag} {t : String} {b1 b2 : Bool} (h1 : kitB t "list" = some b1) (h2 : kitB t "tuple" = some b2) : PySem.W.kitAny K (.type t) [.type "list", .type "tuple"] = some (b1 || b2) :=
  kitAny_cons (kit_ty h1) (fun e => by rw [e]; exact kitAny_cons (kit_ty h2) (fun e => by rw [e]; exact kitAny_nil) fun e => by rw [e]; rfl) fun e => by rw [e]; rfl
theorem isi2_at {K : PySem.W.Frag} {R : Addr → Prop} {H : Hp} {v : V} {x : PV} {tp : Addr} {b1 b2 b : Bool} {Q : VK} (h : Is R H v x) (e : H tp = some (.tup [.ty "list", .ty "tuple"])) (h1 : kitB (kd x) "list" = some b1) (h2 : kitB (kd x) "tuple" = some b2) (hb : (b1 || b2) = b) (q : Q (.bl b) H) :
    rIsiT K [v, .ref tp] H Q := ⟨v, tp, _, _, _, _, rfl, e, .cons (.ty _) (.cons (.ty _) .nil), h.ty, kit2 h1 h2, by rw [hb]; exact q⟩
theorem ix_at {K : PySem.W.Frag} {H : Hp} {a : Addr} {xs : List V} {k : Nat} {v : V} {Q : VK} (h : SqL K H a xs ∨ SqT K H a xs) (e : xs[k]? = some v) (q : Q v H) : rIx K (.ref a) (.int (k : Int)) H Q := by
  rcases h with h | h
  · exact .inl (Hd.ixL h (atI_nat e) q)
  · exact .inr (.inl (Hd.ixT h (atI_nat e) q))
theorem IsL.at {R : Addr → Prop} {H : Hp} : ∀ {vs : List V} {l : List PV} {i : Nat} {x : PV}, IsL R H vs l → l[i]? = some x → ∃ v, vs[i]? = some v ∧ Is R H v x
  | _, _, 0, _, .cons (v := v) a _, e => ⟨v, rfl, by rw [List.getElem?_cons_zero] at e; injection e with e; exact e ▸ a⟩
  | _, _, i + 1, _, .cons _ b, e => by
    rw [List.getElem?_cons_succ] at e ⊢
    exact b.at e
  | _, _, _, _, .nil, e => by simp at e
theorem IsD.at {R : Addr → Prop} {H : Hp} : ∀ {kv : List (Key × V)} {l : List (List Nat × PV)} {i : Nat} {c : List Nat} {x : PV}, IsD R H kv l → l[i]? = some (c, x) → ∃ v, kv[i]? = some (.inr ⟨c.toArray⟩, v) ∧ Is R H v x
  | _, _, 0, _, _, .cons (v := v) a _, e => by
    rw [List.getElem?_cons_zero] at e
    injection e with e
    injection e with e1 e2
    subst e1 e2
    exact ⟨v, rfl, a⟩
  | _, _, i + 1, _, _, .cons _ b, e => by
    rw [List.getElem?_cons_succ] at e ⊢
    exact b.at e
  | _, _, _, _, _, .nil, e => by simp at e
theorem keys_strs {R : Addr → Prop} {H : Hp} {kv : List (Key × V)} {l : List (List Nat × PV)} (h : IsD R H kv l) : (kv.map fun kv => kV kv.1) = (l.map fun x => (⟨x.1.toArray⟩ : Str)).map V.str := by
  rw [show (kv.map fun kv => kV kv.1) = (kv.map (·.1)).map kV by rw [List.map_map]; rfl, h.keys, List.map_map, List.map_map]
  rfl
/-- a list or a tuple -/
def Sq (H : Hp) (a : Addr) (xs : List V) : Prop := H a = some (.lst xs) ∨ H a = some (.tup xs)
theorem Sq.mv {H H' : Hp} {a : Addr} {xs : List V} (h : Sq H a xs) (s : Same H H') : Sq H' a xs := h.imp (s _ _) (s _ _)
theorem Sq.sq {K : PySem.W.Frag} {H : Hp} {a : Addr} {xs : List V} (h : Sq H a xs) : SqL K H a xs ∨ SqT K H a xs := h.imp SqL.of SqT.of
section
variable {P : Program} {w : World} {K : PySem.W.Frag} {mg : Str → Option Value} {base : Heap} {f : Addr} {fd : FuncData}
def spSame (n : Nat) : Sp := fun vs H Q _ => ∃ (v u : V) (x : PV) (R R' : Addr → Prop), vs = [v, u] ∧ Is R H v x ∧ Is R' H u x ∧ fit n x = true ∧ ∀ H', Same H H' → Q (.bl true) H'
structure TxtS (mg : Str → Option Value) : Prop where
  zi : mg "isinstance" = none
  zl : mg "list" = none
  zt : mg "tuple" = none
  zd : mg "dict" = none
  zo : mg "sorted" = none
  zn : mg "len" = none
  zr : mg "range" = none
  zp : mg "repr" = none
theorem scSame : FnScope ["_law_found", "_law_due", "_law_name_here", "_law_k"] ["_law_found", "_law_due"] (defScope sSame) := ⟨rfl, rfl, rfl, by decide +kernel, rfl, by decide +kernel, by decide +kernel⟩
theorem ok_same {k : Nat} (n : Nat) (F : Fun K "_law_same" "_law_same" sSame f fd) (Z : TxtS mg) (mS : mg "_law_same" = some (.ref f)) (bS : Binds K fd ["_law_found", "_law_due"] [])
    (GS : FnOk P w K mg base CX0 k f fd ["_law_found", "_law_due"] (spSame n)) : FnOk P w K mg base CX0 (k + 1) f fd ["_law_found", "_law_due"] (spSame (n + 1)) := by
  refine F.ok scSame (fun vs H Q E h => ?_) (fun cdv A outer s H vs Q E hr h => ?_)
  · obtain ⟨v, u, x, R, R', rfl, _⟩ := h
    rfl
  obtain ⟨v, u, x, R, R', rfl, hv, hu, g, q⟩ := h
  refine ⟨_, pss_cons (ps_if (pt_val (pe_callB call_isi (by rfl) Z.zi (by decide +kernel) (pa_cons (pv 1) (pa_cons (pe_bltn (v := .ty "dict") (by rfl) Z.zd (by decide +kernel) rfl) pa_nil))) (by intro _; rfl)) (pss_cons (ps_if (PW.pt (pw_or (pt_not (pt_val (pe_callB call_isi (by rfl) Z.zi (by decide +kernel) (pa_cons (pv 0) (pa_cons (pe_bltn (v := .ty "dict") (by rfl) Z.zd (by decide +kernel) rfl) pa_nil))) (by intro _; rfl))) (pw_or1 (pt_cmpR (op_neD hr.units) (pe_callB cr_sortedS (by rfl) Z.zo (by decide +kernel) (pa_cons (pe_callTy (call_list_dK rfl) (by rfl) Z.zl (by decide +kernel) (pa_cons (pv 0) pa_nil)) pa_nil)) (pe_callB cr_sortedS (by rfl) Z.zo (by decide +kernel) (pa_cons (pe_callTy (call_list_dK rfl) (by rfl) Z.zl (by decide +kernel) (pa_cons (pv 1) pa_nil)) pa_nil)) (nomark _))))) (pss_one (ps_ret pe_bl)) pss_nil)
      (pss_one (ps_ret (pe_cmpR (op_eqD hr.units) (pe_lock (pe_lc (own := [("_law_name_here", 2)]) (g := gName 2) rfl scSame.nd (pi_keys (pv 1)) (blkOk_by (N := ["_law_found", "_law_due", "_law_name_here", "_law_k"]) (sc := defScope sSame) (by decide +kernel)) (fun _ _ _ _ _ => pg_name (i := 2) scSame.nd rfl (Or.inl rfl))
        (fun _ _ _ _ _ => pts_one (pt_not (pt_val (pe_call GS hr rfl mS F.kp bS .nil pass0 (pa_cons (pe_dget (hu_of hr) (pv 0) (pv 2) (fun _ _ => rfl)) (pa_cons (pe_dget (hu_of hr) (pv 1) (pv 2) (fun _ _ => rfl)) pa_nil))) (by intro _; rfl)))) (fun _ _ _ _ _ => pv 2))) (pe_lst pa_nil) (nomark _))))) pss_nil)
    (pss_cons (ps_if (pt_val (pe_callB call_isiT (by rfl) Z.zi (by decide +kernel) (pa_cons (pv 1) (pa_cons (pe_tup (pa_cons (pe_bltn (v := .ty "list") (by rfl) Z.zl (by decide +kernel) rfl) (pa_cons (pe_bltn (v := .ty "tuple") (by rfl) Z.zt (by decide +kernel) rfl) pa_nil))) pa_nil))) (by intro _; rfl))
      (pss_cons (ps_if (pt_cmpR op_ne (pe_callB call_isi (by rfl) Z.zi (by decide +kernel) (pa_cons (pv 0) (pa_cons (pe_bltn (v := .ty "list") (by rfl) Z.zl (by decide +kernel) rfl) pa_nil))) (pe_callB call_isi (by rfl) Z.zi (by decide +kernel) (pa_cons (pv 1) (pa_cons (pe_bltn (v := .ty "list") (by rfl) Z.zl (by decide +kernel) rfl) pa_nil))) (nomark _)) (pss_one (ps_ret pe_bl)) pss_nil)
      (pss_cons (ps_if (PW.pt (pw_or (pt_cmpR op_ne (pe_callB call_isi (by rfl) Z.zi (by decide +kernel) (pa_cons (pv 0) (pa_cons (pe_bltn (v := .ty "tuple") (by rfl) Z.zt (by decide +kernel) rfl) pa_nil))) (pe_callB call_isi (by rfl) Z.zi (by decide +kernel) (pa_cons (pv 1) (pa_cons (pe_bltn (v := .ty "tuple") (by rfl) Z.zt (by decide +kernel) rfl) pa_nil))) (nomark _)) (pw_or1 (pt_cmpR op_ne (pe_callB call_len_seq (by rfl) Z.zn (by decide +kernel) (pa_cons (pv 0) pa_nil)) (pe_callB call_len_seq (by rfl) Z.zn (by decide +kernel) (pa_cons (pv 1) pa_nil)) (nomark _))))) (pss_one (ps_ret pe_bl)) pss_nil)
      (pss_one (ps_ret (pe_cmpR (op_eqD hr.units) (pe_lc (own := [("_law_k", 3)]) (g := gName 3) rfl scSame.nd (pi_range1 (by rfl) Z.zr (pa_cons (pe_callB call_len_seq (by rfl) Z.zn (by decide +kernel) (pa_cons (pv 1) pa_nil)) pa_nil)) (blkOk_by (N := ["_law_found", "_law_due", "_law_name_here", "_law_k"]) (sc := defScope sSame) (by decide +kernel)) (fun _ _ _ _ _ => pg_name (i := 3) scSame.nd rfl (Or.inl rfl))
        (fun _ _ _ _ _ => pts_one (pt_not (pt_val (pe_call GS hr rfl mS F.kp bS .nil pass0 (pa_cons (pe_ix (r := rIx K) ix_seq (pv 0) (pv 3) (fun _ _ => rfl)) (pa_cons (pe_ix (r := rIx K) ix_seq (pv 1) (pv 3) (fun _ _ => rfl)) pa_nil))) (by intro _; rfl)))) (fun _ _ _ _ _ => pv 3)) (pe_lst pa_nil) (nomark _)))))) pss_nil)
    (pss_one (ps_ret (pe_cmpR op_eq (pe_callB call_rp (by rfl) Z.zp (by decide +kernel) (pa_cons (pv 0) pa_nil)) (pe_callB call_rp (by rfl) Z.zp (by decide +kernel) (pa_cons (pv 1) pa_nil)) (nomark _))))), ?_⟩
  refine Classical.byContradiction fun ng => ?_
  have leaf : kitB (kd x) "dict" = some false → kitB (kd x) "list" = some false → kitB (kd x) "tuple" = some false → (kd x ≠ "list" ∧ kd x ≠ "tuple" ∧ kd x ≠ "dict") → False := by
    intro e1 e2 e3 hk
    obtain ⟨r, hr⟩ := rp_of hv g hk
    refine ng ?_
    walk_at "ss"
    refine isi_at hu e1 ?_
    walk_at "ss"
    refine ⟨(by show 2 ≤ sizeLine; decide), fun tp htp => ?_⟩
    walk_at "ss"
    refine isi2_at (b := false) (hu.imp (fun _ z => z) (keep_new htp _)) upd_same e2 e3 rfl ?_
    walk_at "ss"
    refine ⟨v, r, rfl, hr hv, ?_⟩
    walk_at "ss"
    refine ⟨u, r, rfl, hr hu, ?_⟩
    walk_at "ss"
    rw [decide_eq_true rfl]
    exact q _ (Same.put htp _)
  have seq : ∀ (a b : Addr) (xs ys : List V) (C : List PV) (b1 b2 : Bool), v = .ref a → u = .ref b → Sq H a xs → Sq H b ys → IsL R H xs C → IsL R' H ys C → C.length ≤ 1000 → (∀ y ∈ C, fit n y = true) →
      kitB (kd x) "dict" = some false → kitB (kd x) "list" = some b1 → kitB (kd x) "tuple" = some b2 → (b1 || b2) = true → False := by
    intro a b xs ys C b1 b2 ev eu sa sb ha hb hC hf e1 e2 e3 e12
    subst ev eu
    have lx : xs.length = C.length := ha.len
    have ly : ys.length = C.length := hb.len
    refine ng ?_
    walk_at "ss"
    refine isi_at hu e1 ?_
    walk_at "ss"
    refine ⟨(by show 2 ≤ sizeLine; decide), fun tp htp => ?_⟩
    have s1 : Same H (upd H tp (.tup [V.ty "list", V.ty "tuple"])) := Same.put htp _
    have hu1 := hu.imp (fun _ z => z) (keep_new htp (.tup [V.ty "list", V.ty "tuple"]))
    have hv1 := hv.imp (fun _ z => z) (keep_new htp (.tup [V.ty "list", V.ty "tuple"]))
    have et : (upd H tp (.tup [V.ty "list", V.ty "tuple"])) tp = some (.tup [V.ty "list", V.ty "tuple"]) := upd_same
    generalize upd H tp (.tup [V.ty "list", V.ty "tuple"]) = H1 at *
    walk_at "ss"
    refine isi2_at hu1 et e2 e3 e12 ?_
    walk_at "ss"
    refine isi_at hv1 e2 ?_
    walk_at "ss"
    refine isi_at hu1 e2 ?_
    walk_at "ss"
    rw [decide_eq_true rfl]
    walk_at "ss"
    refine isi_at hv1 e3 ?_
    walk_at "ss"
    refine isi_at hu1 e3 ?_
    walk_at "ss"
    rw [decide_eq_true rfl]
    walk_at "ss"
    refine ⟨a, xs, rfl, (sa.mv s1).sq, ?_⟩
    walk_at "ss"
    refine ⟨b, ys, rfl, (sb.mv s1).sq, ?_⟩
    walk_at "ss"
    rw [lx, ly, decide_eq_true rfl]
    walk_at "ss"
    unfold tLc iRng1
    walk_at "ss"
    refine ⟨b, ys, rfl, (sb.mv s1).sq, ?_⟩
    rw [ly]
    walk_at "ss"
    refine ⟨_, rfl, by omega, by omega, fun D hD => ?_⟩
    refine lc_range (fun i H' => Same H1 H' ∧ H' D = some (.lst [])) ⟨Same.put hD _, upd_same⟩ ?_ ?_
    · rintro i H' hi ⟨s2, e4⟩
      rw [Int.toNat_natCast] at hi
      obtain ⟨y, hy⟩ : ∃ y, C[i]? = some y := ⟨_, List.getElem?_eq_getElem hi⟩
      obtain ⟨v1, hv1, iv⟩ := ha.at hy
      obtain ⟨u1, hu1, iu⟩ := hb.at hy
      rw [Int.zero_add]
      refine Hd.name ⟨rfl, ?_⟩
      walk_at "ss"
      refine ix_at ((sa.mv (s1.trans s2)).sq) hv1 ?_
      walk_at "ss"
      refine ix_at ((sb.mv (s1.trans s2)).sq) hu1 ?_
      walk_at "ss"
      refine ⟨v1, u1, y, R, R', rfl, iv.imp (fun _ z => z) fun b o _ z => (s1.trans s2) b o z, iu.imp (fun _ z => z) fun b o _ z => (s1.trans s2) b o z, hf y (List.mem_of_getElem? hy), fun H4 s4 => ?_⟩
      walk_at "ss"
      exact ⟨s2.trans s4, s4 _ _ e4⟩
    · rintro H' ⟨s2, e4⟩
      walk_at "ss"
      refine ⟨Nat.zero_le _, fun p hp => ?_⟩
      refine ⟨.list [], .list [], .lst (SqL.of (Same.put hp _ _ _ e4)) .nil, .lst (SqL.of upd_same) .nil, rfl, rfl, ?_⟩
      exact q _ ((s1.trans s2).trans (Same.put hp _))
  cases hv with
  | non => exact leaf (by decide +kernel) (by decide +kernel) (by decide +kernel) (by decide)
  | int i => exact leaf (by dsimp only [kd]; decide +kernel) (by dsimp only [kd]; decide +kernel) (by dsimp only [kd]; decide +kernel) (by dsimp only [kd]; decide)
  | str t => exact leaf (by dsimp only [kd]; decide +kernel) (by dsimp only [kd]; decide +kernel) (by dsimp only [kd]; decide +kernel) (by dsimp only [kd]; decide)
  | lst hs e hl =>
    cases hu with
    | lst hs' e' hl' =>
      unfold fit at g
      simp only [Bool.and_eq_true, decide_eq_true_eq, List.all_eq_true] at g
      exact seq _ _ _ _ _ true false rfl rfl (.inl e) (.inl e') hl hl' g.1 g.2 (by dsimp only [kd]; decide +kernel) (by dsimp only [kd]; decide +kernel) (by dsimp only [kd]; decide +kernel) rfl
  | tup hs e hl =>
    cases hu with
    | tup hs' e' hl' =>
      rename_i i v' y b u'
      unfold fit at g
      simp only [Bool.and_eq_true, decide_eq_true_eq] at g
      have z : n ≠ 0 := fun z => by rw [z] at g; exact nomatch g.2
      obtain ⟨m, rfl⟩ := Nat.exists_eq_succ_of_ne_zero z
      refine seq _ _ _ _ [.int i, y] false true rfl rfl (.inr e) (.inr e') (.cons (.int i) (.cons hl .nil)) (.cons (.int i) (.cons hl' .nil)) (by show 2 ≤ 1000; decide) (fun w hw => ?_) (by dsimp only [kd]; decide +kernel) (by dsimp only [kd]; decide +kernel) (by dsimp only [kd]; decide +kernel) rfl
      rcases List.mem_cons.mp hw with rfl | hw
      · exact decide_eq_true g.1
      · rw [List.mem_singleton.mp hw]
        exact g.2
  | dct hs e hl =>
    cases hu with
    | dct hs' e' hl' =>
      rename_i a kv l b kw
      unfold fit at g
      simp only [Bool.and_eq_true, decide_eq_true_eq, List.all_eq_true] at g
      obtain ⟨⟨g60, gnd⟩, gall⟩ := g
      have lk : kv.length = l.length := hl.len
      have lw : kw.length = l.length := hl'.len
      have okS : ∀ {ys : List Str}, ys.Perm (l.map fun x => (⟨x.1.toArray⟩ : Str)) → ∀ x ∈ ys, PyData.strOk x = true := fun p x hx => by
        obtain ⟨y, hy, rfl⟩ := List.mem_map.mp (p.mem_iff.mp hx)
        exact strOk_small (List.all_eq_true.mpr fun c hc => decide_eq_true ((gall y hy).2 c hc))
      refine ng ?_
      walk_at "ss"
      refine isi_at (.dct hs' e' hl') (b := true) (by dsimp only [kd]; decide +kernel) ?_
      walk_at "ss"
      refine isi_at (.dct hs e hl) (b := true) (by dsimp only [kd]; decide +kernel) ?_
      walk_at "ss"
      refine ⟨a, kv, rfl, e, fun p1 hp1 => ?_⟩
      have s1 := Same.put hp1 (.lst (kv.map fun kv => kV kv.1))
      have e1 : (upd H p1 (.lst (kv.map fun kv => kV kv.1))) p1 = some (.lst (kv.map fun kv => kV kv.1)) := upd_same
      generalize upd H p1 (.lst (kv.map fun kv => kV kv.1)) = H1 at s1 e1 ⊢
      rw [keys_strs hl] at e1
      walk_at "ss"
      refine ⟨p1, _, rfl, SqL.of e1, by rw [List.length_map]; omega, fun ys p2 hy sy hp2 => ?_⟩
      have s2 := s1.trans (Same.put hp2 (.lst (ys.map V.str)))
      have e2 : (upd H1 p2 (.lst (ys.map V.str))) p2 = some (.lst (ys.map V.str)) := upd_same
      generalize upd H1 p2 (.lst (ys.map V.str)) = H2 at s2 e2 ⊢
      walk_at "ss"
      refine ⟨b, kw, rfl, s2 _ _ e', fun p3 hp3 => ?_⟩
      have s3 := Same.put hp3 (.lst (kw.map fun kv => kV kv.1))
      have e3 : (upd H2 p3 (.lst (kw.map fun kv => kV kv.1))) p3 = some (.lst (kw.map fun kv => kV kv.1)) := upd_same
      generalize upd H2 p3 (.lst (kw.map fun kv => kV kv.1)) = H3 at s3 e3 ⊢
      rw [keys_strs hl'] at e3
      walk_at "ss"
      refine ⟨p3, _, rfl, SqL.of e3, by rw [List.length_map]; omega, fun zs p4 hz sz' hp4 => ?_⟩
      have s4 := Same.put hp4 (.lst (zs.map V.str))
      have e4 : (upd H3 p4 (.lst (zs.map V.str))) p4 = some (.lst (zs.map V.str)) := upd_same
      generalize upd H3 p4 (.lst (zs.map V.str)) = H4 at s4 e4 ⊢
      have ez : zs = ys := sorted_one hz hy sz' sy
      subst ez
      have s5 : Same H H4 := s2.trans (s3.trans s4)
      refine ⟨_, _, .lst (SqL.of ((s3.trans s4) _ _ e2)) (dp_strs _), .lst (SqL.of e4) (dp_strs _), strs_shaped (okS hy), strs_shaped (okS hy), ?_⟩
      rw [SeqAt.eqv_refl _ (SeqAt.canLay_of_shaped (strs_shaped (okS hy)))]
      walk_at "ss"
      have e'4 := s5 _ _ e'
      refine ⟨b, _, e'4, trivial, fun od => ?_⟩
      have ea : (upd H4 b (.frz od (.dK kw))) b = some (.frz od (.dK kw)) := upd_same
      have hD1 : IsD (fun c => R c ∧ c ≠ b) H kv l := IsD.avoid (.dct hs' e' hl') hl (by simp)
      have hD2 : IsD (fun c => R' c ∧ c ≠ b) H kw l := IsD.avoid (.dct hs' e' hl') hl' (by simp)
      have hf1 := hD1.imp (S' := fun c => R c ∧ c ≠ b) (H' := upd H4 b (.frz od (.dK kw))) (fun _ z => z) fun c o z e => by rw [upd_ne z.2]; exact s5 _ _ e
      have hf2 := hD2.imp (S' := fun c => R' c ∧ c ≠ b) (H' := upd H4 b (.frz od (.dK kw))) (fun _ z => z) fun c o z e => by rw [upd_ne z.2]; exact s5 _ _ e
      have rd : Rd (upd H4 b (.frz od (.dK kw))) a (.dK kv) := by
        by_cases c : a = b
        · subst c
          rw [e] at e'
          injection e' with e'
          injection e' with e'
          subst e'
          exact .inr ⟨od, upd_same⟩
        · exact .inl (by rw [upd_ne c]; exact s5 _ _ e)
      have back : ∀ {H' : Hp}, Same (upd H4 b (.frz od (.dK kw))) H' → Same H (upd H' b (.dK kw)) := fun s1 c o z => by
        by_cases cb : c = b
        · subst cb
          rw [e'] at z
          injection z with z
          rw [upd_same, z]
        · rw [upd_ne cb]
          exact s1 _ _ (by rw [upd_ne cb]; exact s5 _ _ z)
      generalize upd H4 b (.frz od (.dK kw)) = Hf at ea hf1 hf2 rd back ⊢
      refine ⟨_, rfl, b, od, rfl, .inl ⟨kw, ea, fun D hD => ?_⟩⟩
      have nDb : D ≠ b := fun z => by rw [z, ea] at hD; cases hD
      refine lc_keys (fun i H' => Same Hf H' ∧ H' D = some (.lst [])) ⟨Same.put hD _, upd_same⟩ (fun i H' _ p => p.1 _ _ ea) ?_ ?_
      · rintro i k v' H' hkv ⟨t1, e5⟩
        obtain ⟨c, y, hy', rfl, iy⟩ := hf2.get hkv
        obtain ⟨v2, hv2, iv⟩ := hf1.at hy'
        refine Hd.name ⟨rfl, ?_⟩
        walk_at "ss"
        refine ⟨a, v2, rfl, .inl ⟨kv, _, rd.imp (t1 _ _) (fun ⟨o, z⟩ => ⟨o, t1 _ _ z⟩), rfl, (val_nd (keys_nodup hl gnd) (List.mem_of_getElem? hv2)).symm⟩, ?_⟩
        walk_at "ss"
        refine ⟨b, v', rfl, .inl ⟨kw, _, .inr ⟨od, t1 _ _ ea⟩, rfl, (val_nd (keys_nodup hl' gnd) (List.mem_of_getElem? hkv)).symm⟩, ?_⟩
        walk_at "ss"
        refine ⟨v2, v', y, _, _, rfl, iv.imp (fun _ z => z) fun b o _ z => t1 b o z, iy.imp (fun _ z => z) fun b o _ z => t1 b o z, (gall _ (List.mem_of_getElem? hy')).1, fun H5 t2 => ?_⟩
        walk_at "ss"
        exact ⟨t1.trans t2, t2 _ _ e5⟩
      · rintro H' ⟨t1, e5⟩
        refine ⟨t1 _ _ ea, ?_⟩
        walk_at "ss"
        refine ⟨Nat.zero_le _, fun p hp => ?_⟩
        refine ⟨.list [], .list [], .lst (SqL.of (Same.put hp _ _ _ (by rw [upd_ne nDb]; exact e5))) .nil, .lst (SqL.of upd_same) .nil, rfl, rfl, ?_⟩
        exact q _ ((back t1).trans (Same.put hp _))
theorem all_same (F : Fun K "_law_same" "_law_same" sSame f fd) (Z : TxtS mg) (mS : mg "_law_same" = some (.ref f)) (bS : Binds K fd ["_law_found", "_law_due"] []) :
    ∀ n : Nat, FnOk P w K mg base CX0 n f fd ["_law_found", "_law_due"] (spSame n)
  | 0 => none_fn.imp fun vs H Q E h => by
    obtain ⟨_, _, _, _, _, _, _, _, z, _⟩ := h
    exact nomatch z
  | n + 1 => ok_same n F Z mS bS (all_same F Z mS bS n)
end
end K91

set_option Elab.async false
set_option linter.all false
set_option maxRecDepth 100000
set_option maxHeartbeats 4000000
namespace K91
open PySem L2
local macro_rules | `(tactic| walk_at "s") => `(tactic| (with_reducible first
  | refine Hd.and_ ?_ | refine Hd.or_ ?_ | refine Hd.not_ ?_ | refine Hd.test ?_ | refine Hd.tb ?_ | refine Hd.bl ?_ | refine Hd.chain ?_ | refine Hd.op ?_ | refine Hd.un ?_
  | refine Hd.cb ?_ | refine Hd.nil ?_ | refine Hd.cons ?_ | refine Hd.if_ ?_ | refine Hd.seq ?_ | refine Hd.nx ?_ | refine Hd.ifs ?_ | refine Hd.ret ?_ | refine Hd.drop ?_
  | refine Hd.asg ?_ | refine Hd.name ?_ | refine Hd.tup ?_ | refine Hd.lst ?_ | refine Hd.int0 ?_ | refine Hd.intU ?_ | refine Hd.eqI ?_ | refine Hd.eqS ?_ | refine Hd.eqB ?_ | refine Hd.neI ?_ | refine Hd.neS ?_ | refine Hd.neB ?_
  | refine Hd.add ?_ | refine Hd.sub ?_ | refine Hd.call ?_ | refine Hd.callS ?_ | refine Hd.ifNT ?_ | refine Hd.ifNF ?_ | refine Hd.dput ?_ | refine Hd.din ?_ | refine Hd.dget ?_ | refine Hd.dnew ?_ | refine Hd.make ?_ | refine Hd.gsub ?_ | refine Hd.bm ?_ | refine Hd.sl ?_ | refine Hd.part ?_ | refine Hd.nopart ?_ | refine Hd.bm0 ?_ | refine Hd.c ?_ | refine Hd.ifT ?_ | refine Hd.ifF ?_))
local macro_rules | `(tactic| walk_at "v") => `(tactic| (with_reducible refine Hd.var ?_; refine ⟨_, rfl, ?_⟩))
local macro_rules | `(tactic| walk_at "ss") => `(tactic| (repeat first | walk_at "s" | walk_at "v"))

local macro_rules | `(tactic| walk_at "t") => `(tactic| (repeat with_reducible first | refine Hd.seq ?_ | refine Hd.nx ?_ | refine Hd.asg ?_ | refine Hd.name ?_ | refine Hd.ifT ?_ | refine Hd.ifF ?_))
local macro_rules | `(tactic| walk_at "m") => `(tactic| (repeat with_reducible first | exact Hd.mVar | exact Hd.mC | exact Hd.mNil | exact Hd.mI0 | exact Hd.mEq | exact Hd.mNe | exact Hd.mLen | exact Hd.mStarts | refine Hd.mBM ?_ ?_ ?_ | refine Hd.mOr ?_ ?_ | refine Hd.mAnd ?_ ?_ | refine Hd.mNot ?_ | refine Hd.mTest ?_ | refine Hd.mTb ?_ | refine Hd.mOp ?_ ?_ ?_ | refine Hd.mFld ?_ | refine Hd.mCB ?_ ?_ | refine Hd.mCons ?_ ?_))

abbrev sDeep : Stmt := top 34
/-! ### the facts of deep texts -/
def rep (l : List Nat) : Nat → List Nat
  | 0 => []
  | d + 1 => l ++ rep l d
def ahd (j : Nat) : List Nat := [[91], [123, 97, 58], [40, 49, 44]].getD j []
def bhd (j : Nat) : List Nat := [[93], [125], [41]].getD j []
def dtext (j d : Nat) (mid : List Nat) : List Nat := rep (ahd j) d ++ mid ++ rep (bhd j) d
def dchk (j d : Nat) (mid : List Nat) (m : Nat) : Bool :=
  match valueOf (dtext j d mid) with
  | .ok _ => decide (d ≤ m)
  | .no => decide (m < d)
  | .bad => false
theorem deep7 : ∀ j, j < 3 → ∀ d, d < 61 → dchk j d [55] 40 = true := by decide +kernel
theorem deepL : ∀ j, j < 3 → ∀ d, d < 61 → dchk j d [91, 93] 39 = true := by decide +kernel
theorem deepD : ∀ j, j < 3 → ∀ d, d < 61 → dchk j d [123, 125] 39 = true := by decide +kernel
theorem rep_fold (l : Array Nat) : ∀ (d : Nat) (acc : Array Nat), ((List.replicate d l).foldl (· ++ ·) acc).toList = acc.toList ++ rep l.toList d
  | 0, acc => (List.append_nil _).symm
  | d + 1, acc => by
    rw [List.replicate_succ, List.foldl_cons, rep_fold l d (acc ++ l), Array.toList_append, List.append_assoc]
    rfl
theorem rep_len (l : List Nat) : ∀ d, (rep l d).length = d * l.length
  | 0 => by simp [rep]
  | d + 1 => by
    rw [rep, List.length_append, rep_len l d, Nat.succ_mul]
    omega
theorem mul_rep (l : List Nat) (d : Nat) : Txt.mul (SX.S l) (d : Int) = SX.S (rep l d) := by
  unfold Txt.mul
  by_cases h : (d : Int) < 1
  · rw [if_pos h]
    obtain rfl : d = 0 := by omega
    rfl
  · rw [if_neg h]
    by_cases h2 : ((d : Int) == 1 || (SX.S l).length == 0) = true
    · rw [if_pos h2]
      rw [Bool.or_eq_true, beq_iff_eq, beq_iff_eq, SX.S_len] at h2
      rcases h2 with h2 | h2
      · obtain rfl : d = 1 := by omega
        show SX.S l = SX.S (l ++ [])
        rw [List.append_nil]
      · obtain rfl := List.eq_nil_of_length_eq_zero h2
        have : rep [] d = [] := List.eq_nil_of_length_eq_zero (by rw [rep_len]; rfl)
        rw [this]
    · rw [if_neg h2, ← SX.S_tl ⟨_⟩, Int.toNat_natCast]
      refine congrArg SX.S ?_
      exact rep_fold l.toArray d #[]
theorem mul_ok {l : List Nat} {d : Nat} (hl : l.length ≤ 3) (hd : d ≤ 60) : MulOk (SX.S l) (d : Int) := by
  refine ⟨?_, fun h _ => ?_, fun _ _ => ?_⟩
  · rw [Bool.or_eq_false_iff]
    exact ⟨decide_eq_false (by omega), decide_eq_false (by omega)⟩
  · have : (3 : Int) ≤ (2 ^ 63 - 1) / (d : Int) := (Int.le_ediv_iff_mul_le (by omega)).mpr (by omega)
    rw [SX.S_len]
    omega
  · unfold Builtin.Str.tooLong
    rw [SX.S_len, Int.toNat_natCast]
    have h1 : l.length * d ≤ 3 * 60 := Nat.mul_le_mul hl hd
    have h2 : (sizeLine : Nat) = 16777216 := sizeLine_eq
    exact decide_eq_false (by omega)
section
open PySem.Spec PyProof.Rows
variable {X : Cx}
/-- text * int -/
def rMulS : R2 := fun x y H Q => ∃ (s : Str) (n : Int), x = .str s ∧ y = .int n ∧ MulOk s n ∧ Q (.str (Txt.mul s n)) H
theorem op_mulS : OpR X (binaryOp .Mult) rMulS := by
  intro pins s σ H x y v u Q I rx ry h
  obtain ⟨z, n, rfl, rfl, ok, q⟩ := h
  obtain ⟨t, rfl⟩ := rx
  obtain ⟨t', rfl⟩ := ry
  exact PySem.SB.mul ok fun _ k => ⟨.str _, H, I.tok k, ⟨_, rfl⟩, q⟩
/-- a tuple == () -/
def rEqT0 (K : PySem.W.Frag) : R2 := fun x y H Q => ∃ (a b : Addr) (xs : List V), x = .ref a ∧ y = .ref b ∧ SqT K H a xs ∧ SqT K H b [] ∧ Q (.bl xs.isEmpty) H
theorem op_eqT0 (hu : X.A.units < cLine) : OpR X (compareOp .Eq) (rEqT0 X.K) := by
  intro pins s σ H x y v u Q I rx ry h
  obtain ⟨a, b, xs, rfl, rfl, ha, hb, q⟩ := h
  cases rx
  cases ry
  obtain ⟨its, rv, ht, _⟩ := I.tuple ha
  obtain ⟨its2, rv2, ht2, _⟩ := I.tuple hb
  cases rv2
  refine PySem.SeqAt.eq_tupleAt (e := fun _ => true) (show s.heap.IsTuple a its.toArray from ht) (show s.heap.IsTuple b #[] from ht2) hu (fun j _ h2 => absurd h2 (Nat.not_lt_zero j)) ?_
  refine ⟨.bl xs.isEmpty, H, I, ?_, q⟩
  have hl := rv.length
  cases rv with
  | nil => rfl
  | cons _ _ => rfl
end
local macro_rules | `(tactic| walk_at "cat") => `(tactic| (refine ⟨_, _, rfl, rfl, sz ?_, ?_⟩; (· first | omega | (simp only [List.length_cons, List.length_append, List.length_nil]; omega)); rw [SX.S_cat]))
section
variable {P : Program} {w : World} {K : PySem.W.Frag} {mg : Str → Option Value} {base : Heap} {f g : Addr} {fd gd : FuncData}
/-- told of a text, as a tuple -/
theorem told_of {T : List Nat} {H : Hp} {Q : VK} {E : XK} {m : Bool} (hl : T.length ≤ 2000) (h : (match valueOf T with | .ok _ => m = false | .no => m = true | .bad => False))
    (q : ∀ (a : Addr) (xs : List V) (H' : Hp), Same H H' → H' a = some (.tup xs) → xs.isEmpty = m → Q (.ref a) H') : spTold [.str (SX.S T)] H Q E := by
  refine ⟨_, rfl, .inl ⟨_, rfl, by rw [SX.S_len]; exact hl, ?_⟩⟩
  show (match valueOf T with
    | .ok y => ∀ (v : V) (a : Addr) (H' : Hp), Same H H' → H a = none → H' a = some (.tup [v]) → Is (fun a => H a = none) H' v y → Q (.ref a) H'
    | .no => ∀ (a : Addr) (H' : Hp), Same H H' → H a = none → H' a = some (.tup []) → Q (.ref a) H'
    | .bad => False)
  cases e : valueOf T with
  | bad => rw [e] at h; exact h
  | no => rw [e] at h; exact fun a H' s _ e2 => q a _ H' s e2 h.symm
  | ok y => rw [e] at h; exact fun v a H' s _ e2 _ => q a _ H' s e2 h.symm
theorem dchk_told {j d m : Nat} {mid : List Nat} (h : dchk j d mid m = true) : (match valueOf (dtext j d mid) with | .ok _ => (decide (m < d)) = false | .no => (decide (m < d)) = true | .bad => False) := by
  unfold dchk at h
  cases e : valueOf (dtext j d mid) with
  | bad => rw [e] at h; exact nomatch h
  | no => rw [e] at h; exact h
  | ok y =>
    rw [e] at h
    have := of_decide_eq_true h
    exact decide_eq_false (by omega)
def spDeep : Sp := fun vs H Q _ => ∃ c : Int, vs = [.int c] ∧ ∀ H', Same H H' → Q (.bl true) H'
theorem scDeep : FnScope ["_law_cell", "_law_deep_here", "_law_ahead", "_law_behind", "_law_found"] ["_law_cell"] (defScope sDeep) := ⟨rfl, rfl, rfl, by decide +kernel, rfl, by decide +kernel, by decide +kernel⟩
theorem ok_deep {k : Nat} (F : Fun K "_law_deep" "_law_deep" sDeep f fd) (GT : FnOk P w K mg base CX0 k g gd ["_law_text"] spTold) (mT : mg "_law_told" = some (.ref g)) (kT : PySem.W.keepIn K (.ref g) = true) (bT : Binds K gd ["_law_text"] []) :
    FnOk P w K mg base CX0 (k + 1) f fd ["_law_cell"] spDeep := by
  refine F.ok scDeep (fun vs H Q E h => ?_) (fun cdv A outer s H vs Q E hr h => ?_)
  · obtain ⟨c, rfl, _⟩ := h
    rfl
  obtain ⟨c, rfl, k⟩ := h
  refine ⟨_, pss_cons (ps_set (i := 1) scDeep.nd rfl (Or.inl rfl) (pe_ix ix_list (pe_lst (pa_cons pe_int (pa_cons pe_int (pa_cons pe_int (pa_cons (pe_op op_mod (pe_op op_fdivW (pv 0) pe_int) pe_int) pa_nil))))) (pe_op op_mod (pv 0) pe_int) (fun _ _ => rfl)))
    (pss_cons (ps_asg (pe_ix ix_list (pe_lst (pa_cons (pe_tup (pa_cons pe_str (pa_cons pe_str pa_nil))) (pa_cons (pe_tup (pa_cons pe_str (pa_cons pe_str pa_nil))) (pa_cons (pe_tup (pa_cons pe_str (pa_cons pe_str pa_nil))) pa_nil)))) (pe_op op_mod (pe_op op_fdivW (pv 0) pe_int) pe_int) (fun _ _ => rfl))
      (pg_tup rfl (pgs_cons (pg_name (i := 2) scDeep.nd rfl (Or.inl rfl)) (pgs_cons (pg_name (i := 3) scDeep.nd rfl (Or.inl rfl)) pgs_nil))))
    (pss_cons (ps_set (i := 4) scDeep.nd rfl (Or.inl rfl) (pe_call GT hr rfl mT kT bT .nil pass0 (pa_cons (pe_op op_add_str (pe_op op_add_str (pe_op op_mulS (pv 2) (pv 1)) pe_str) (pe_op op_mulS (pv 3) (pv 1))) pa_nil)))
    (pss_cons (ps_if (PW.pt (pw_or (pt_cmpR op_isN (pv 4) pe_non (nomark _)) (pw_or1 (pt_cmpR op_ne (pe_cmpR (op_eqT0 hr.units0) (pv 4) (pe_tup pa_nil) (nomark _)) (pe_cmpR op_gt (pv 1) pe_int (nomark _)) (nomark _))))) (pss_one (ps_ret pe_bl)) pss_nil)
    (pss_cons (ps_set (i := 4) scDeep.nd rfl (Or.inl rfl) (pe_call GT hr rfl mT kT bT .nil pass0 (pa_cons (pe_op op_add_str (pe_op op_add_str (pe_op op_mulS (pv 2) (pv 1)) (pe_ix ix_list (pe_lst (pa_cons pe_str (pa_cons pe_str pa_nil))) (pe_op op_mod (pv 0) pe_int) (fun _ _ => rfl))) (pe_op op_mulS (pv 3) (pv 1))) pa_nil)))
    (pss_one (ps_ret (pe_and (pe_cmpR op_notN (pv 4) pe_non (nomark _)) (pe_one (pe_cmpR op_eq (pe_cmpR (op_eqT0 hr.units0) (pv 4) (pe_tup pa_nil) (nomark _)) (pe_cmpR op_gt (pv 1) pe_int (nomark _)) (nomark _)))))))))), ?_⟩
  walk_at "ss"
  refine Hd.intC ?_ (wide_div (b := 4) (by decide) (by decide) (by decide) (by decide))
  walk_at "ss"
  refine Hd.intC ?_ (by decide)
  have w0 : 0 ≤ c / 9 % 61 := Int.emod_nonneg _ (by decide)
  have w1 : c / 9 % 61 < 61 := Int.emod_lt_of_pos _ (by decide)
  generalize c / 9 % 61 = wi at w0 w1 ⊢
  obtain ⟨wn, rfl⟩ := Int.eq_ofNat_of_zero_le w0
  walk_at "ss"
  refine ⟨(by show 4 ≤ sizeLine; decide), fun p1 h1 => ?_⟩
  have s1 := Same.put h1 (.lst [V.int 40, V.int 41, V.int 39, V.int (wn : Int)])
  have e1 : (upd H p1 (.lst [V.int 40, V.int 41, V.int 39, V.int (wn : Int)])) p1 = some (.lst [V.int 40, V.int 41, V.int 39, V.int (wn : Int)]) := upd_same
  generalize upd H p1 (.lst [V.int 40, V.int 41, V.int 39, V.int (wn : Int)]) = H1 at s1 e1 ⊢
  walk_at "ss"
  refine Hd.intC ?_ (by decide)
  have i0 : 0 ≤ c % 4 := Int.emod_nonneg _ (by decide)
  have i1 : c % 4 < 4 := Int.emod_lt_of_pos _ (by decide)
  generalize c % 4 = ii at i0 i1 ⊢
  obtain ⟨i, rfl⟩ := Int.eq_ofNat_of_zero_le i0
  obtain ⟨d, hd, ed⟩ : ∃ d : Nat, d < 61 ∧ [V.int 40, V.int 41, V.int 39, V.int (wn : Int)][i]? = some (.int (d : Int)) := by
    have hi : i < 4 := by omega
    match i, hi with
    | 0, _ => exact ⟨40, by decide, rfl⟩
    | 1, _ => exact ⟨41, by decide, rfl⟩
    | 2, _ => exact ⟨39, by decide, rfl⟩
    | 3, _ => exact ⟨wn, by omega, rfl⟩
  refine Hd.ixL (SqL.of e1) (atI_nat ed) ?_
  walk_at "ss"
  refine ⟨(by show 2 ≤ sizeLine; decide), fun q1 h2 => ?_⟩
  have t1 : ∀ {H2 : Hp}, Same (upd H1 q1 (.tup [V.str (Str.ofString "["), V.str (Str.ofString "]")])) H2 → H2 q1 = some (.tup [V.str (SX.S (ahd 0)), V.str (SX.S (bhd 0))]) := fun z => z _ _ upd_same
  have s2 := s1.trans (Same.put h2 (.tup [V.str (Str.ofString "["), V.str (Str.ofString "]")]))
  generalize upd H1 q1 (.tup [V.str (Str.ofString "["), V.str (Str.ofString "]")]) = H2 at t1 s2 ⊢
  walk_at "ss"
  refine ⟨(by show 2 ≤ sizeLine; decide), fun q2 h3 => ?_⟩
  have t2 : ∀ {H3 : Hp}, Same (upd H2 q2 (.tup [V.str (Str.ofString "{a:"), V.str (Str.ofString "}")])) H3 → H3 q2 = some (.tup [V.str (SX.S (ahd 1)), V.str (SX.S (bhd 1))]) := fun z => z _ _ upd_same
  have s3 := (Same.put h3 (.tup [V.str (Str.ofString "{a:"), V.str (Str.ofString "}")]))
  generalize upd H2 q2 (.tup [V.str (Str.ofString "{a:"), V.str (Str.ofString "}")]) = H3 at t2 s3 ⊢
  walk_at "ss"
  refine ⟨(by show 2 ≤ sizeLine; decide), fun q3 h4 => ?_⟩
  have t3 : ∀ {H4 : Hp}, Same (upd H3 q3 (.tup [V.str (Str.ofString "(1,"), V.str (Str.ofString ")")])) H4 → H4 q3 = some (.tup [V.str (SX.S (ahd 2)), V.str (SX.S (bhd 2))]) := fun z => z _ _ upd_same
  have s4 := (Same.put h4 (.tup [V.str (Str.ofString "(1,"), V.str (Str.ofString ")")]))
  generalize upd H3 q3 (.tup [V.str (Str.ofString "(1,"), V.str (Str.ofString ")")]) = H4 at t3 s4 ⊢
  walk_at "ss"
  refine ⟨(by show 3 ≤ sizeLine; decide), fun q4 h5 => ?_⟩
  have s5 := (Same.put h5 (.lst [V.ref q1, V.ref q2, V.ref q3]))
  have e5 : (upd H4 q4 (.lst [V.ref q1, V.ref q2, V.ref q3])) q4 = some (.lst [V.ref q1, V.ref q2, V.ref q3]) := upd_same
  generalize upd H4 q4 (.lst [V.ref q1, V.ref q2, V.ref q3]) = H5 at s5 e5 ⊢
  walk_at "ss"
  refine Hd.intC ?_ (wide_div (b := 6) (by decide) (by decide) (by decide) (by decide))
  walk_at "ss"
  refine Hd.intC ?_ (by decide)
  have j0 : 0 ≤ c / 61 % 3 := Int.emod_nonneg _ (by decide)
  have j1 : c / 61 % 3 < 3 := Int.emod_lt_of_pos _ (by decide)
  generalize c / 61 % 3 = ji at j0 j1 ⊢
  obtain ⟨j, rfl⟩ := Int.eq_ofNat_of_zero_le j0
  have hj : j < 3 := by omega
  obtain ⟨qj, eq, tj⟩ : ∃ qj, [V.ref q1, V.ref q2, V.ref q3][j]? = some (.ref qj) ∧ H5 qj = some (.tup [V.str (SX.S (ahd j)), V.str (SX.S (bhd j))]) := by
    match j, hj with
    | 0, _ => exact ⟨q1, rfl, t1 (s3.trans (s4.trans s5))⟩
    | 1, _ => exact ⟨q2, rfl, t2 (s4.trans s5)⟩
    | 2, _ => exact ⟨q3, rfl, t3 s5⟩
  refine Hd.ixL (SqL.of e5) (atI_nat eq) ?_
  have sH : Same H H5 := s2.trans (s3.trans (s4.trans s5))
  refine ⟨qj, _, rfl, SqT.of tj, rfl, _, _, rfl, Hd.name ⟨_, _, rfl, Hd.name ⟨rfl, ?_⟩⟩⟩
  have la3 : (ahd j).length ≤ 3 := (by decide : ∀ j, j < 3 → (ahd j).length ≤ 3) j hj
  have lb3 : (bhd j).length ≤ 3 := (by decide : ∀ j, j < 3 → (bhd j).length ≤ 3) j hj
  have la : (rep (ahd j) d).length ≤ 180 := by rw [rep_len]; exact Nat.mul_le_mul (show d ≤ 60 by omega) la3
  have lb : (rep (bhd j) d).length ≤ 180 := by rw [rep_len]; exact Nat.mul_le_mul (show d ≤ 60 by omega) lb3
  have big40 : (decide ((40 : Int) < (d : Int))) = decide (40 < d) := decide_eq_decide.mpr (by omega)
  have big39 : (decide ((39 : Int) < (d : Int))) = decide (39 < d) := decide_eq_decide.mpr (by omega)
  walk_at "ss"
  refine ⟨_, _, rfl, rfl, mul_ok la3 (by omega), ?_⟩
  rw [mul_rep]
  walk_at "ss"
  rw [show (Str.ofString "7") = SX.S [55] by decide +kernel]
  walk_at "cat"
  walk_at "ss"
  refine ⟨_, _, rfl, rfl, mul_ok lb3 (by omega), ?_⟩
  rw [mul_rep]
  walk_at "cat"
  walk_at "ss"
  refine told_of (by simp only [List.length_append, List.length_cons, List.length_nil]; omega) (dchk_told (deep7 j hj d hd)) fun a xs H6 s6 e6 em => ?_
  walk_at "ss"
  refine ⟨rfl, ?_⟩
  rw [decide_eq_false (fun z => nomatch z)]
  walk_at "ss"
  refine ⟨Nat.zero_le _, fun p2 h7 => ?_⟩
  refine ⟨a, p2, xs, rfl, rfl, SqT.of (Same.put h7 _ _ _ e6), SqT.of upd_same, ?_⟩
  have s7 := Same.put h7 (.tup [])
  generalize upd H6 p2 (.tup []) = H7 at s7 ⊢
  walk_at "ss"
  rw [em, big40, decide_eq_true rfl]
  walk_at "ss"
  refine ⟨_, _, rfl, rfl, mul_ok la3 (by omega), ?_⟩
  rw [mul_rep]
  walk_at "ss"
  refine ⟨(by show 2 ≤ sizeLine; decide), fun p3 h8 => ?_⟩
  have s8 := Same.put h8 (.lst [V.str (Str.ofString "[]"), V.str (Str.ofString "{}")])
  have e8 : (upd H7 p3 (.lst [V.str (Str.ofString "[]"), V.str (Str.ofString "{}")])) p3 = some (.lst [V.str (Str.ofString "[]"), V.str (Str.ofString "{}")]) := upd_same
  generalize upd H7 p3 (.lst [V.str (Str.ofString "[]"), V.str (Str.ofString "{}")]) = H8 at s8 e8 ⊢
  walk_at "ss"
  refine Hd.intC ?_ (by decide)
  have k0 : 0 ≤ c % 2 := Int.emod_nonneg _ (by decide)
  have k1 : c % 2 < 2 := Int.emod_lt_of_pos _ (by decide)
  generalize c % 2 = ki at k0 k1 ⊢
  obtain ⟨kk, rfl⟩ := Int.eq_ofNat_of_zero_le k0
  obtain ⟨mid, hm, ek, hc⟩ : ∃ mid : List Nat, mid.length = 2 ∧ [V.str (Str.ofString "[]"), V.str (Str.ofString "{}")][kk]? = some (.str (SX.S mid)) ∧ dchk j d mid 39 = true := by
    have hi : kk < 2 := by omega
    match kk, hi with
    | 0, _ => exact ⟨[91, 93], rfl, by rw [show (Str.ofString "[]") = SX.S [91, 93] by decide +kernel]; rfl, deepL j hj d hd⟩
    | 1, _ => exact ⟨[123, 125], rfl, by rw [show (Str.ofString "{}") = SX.S [123, 125] by decide +kernel]; rfl, deepD j hj d hd⟩
  refine Hd.ixL (SqL.of e8) (atI_nat ek) ?_
  walk_at "cat"
  walk_at "ss"
  refine ⟨_, _, rfl, rfl, mul_ok lb3 (by omega), ?_⟩
  rw [mul_rep]
  walk_at "cat"
  walk_at "ss"
  refine told_of (by simp only [List.length_append, List.length_cons, List.length_nil]; omega) (dchk_told hc) fun a2 ys H9 s9 e9 en => ?_
  walk_at "ss"
  unfold tAndV
  walk_at "ss"
  refine ⟨rfl, true, ?_, ?_⟩
  · rw [decide_eq_false (fun z => nomatch z)]
    rfl
  walk_at "ss"
  refine ⟨Nat.zero_le _, fun p4 h9 => ?_⟩
  refine ⟨a2, p4, ys, rfl, rfl, SqT.of (Same.put h9 _ _ _ e9), SqT.of upd_same, ?_⟩
  walk_at "ss"
  rw [en, big39, decide_eq_true rfl]
  exact k _ ((sH.trans (s6.trans (s7.trans (s8.trans s9)))).trans (Same.put h9 _))
end
end K91

set_option Elab.async false
set_option linter.all false
set_option maxRecDepth 100000
set_option maxHeartbeats 4000000
namespace K91
open PySem L2
local macro_rules | `(tactic| walk_at "s") => `(tactic| (with_reducible first
  | refine Hd.and_ ?_ | refine Hd.or_ ?_ | refine Hd.not_ ?_ | refine Hd.test ?_ | refine Hd.tb ?_ | refine Hd.bl ?_ | refine Hd.chain ?_ | refine Hd.op ?_ | refine Hd.un ?_
  | refine Hd.cb ?_ | refine Hd.nil ?_ | refine Hd.cons ?_ | refine Hd.if_ ?_ | refine Hd.seq ?_ | refine Hd.nx ?_ | refine Hd.ifs ?_ | refine Hd.ret ?_ | refine Hd.drop ?_
  | refine Hd.asg ?_ | refine Hd.name ?_ | refine Hd.tup ?_ | refine Hd.lst ?_ | refine Hd.int0 ?_ | refine Hd.intU ?_ | refine Hd.eqI ?_ | refine Hd.eqS ?_ | refine Hd.eqB ?_ | refine Hd.neI ?_ | refine Hd.neS ?_ | refine Hd.neB ?_
  | refine Hd.add ?_ | refine Hd.sub ?_ | refine Hd.call ?_ | refine Hd.callS ?_ | refine Hd.ifNT ?_ | refine Hd.ifNF ?_ | refine Hd.dput ?_ | refine Hd.din ?_ | refine Hd.dget ?_ | refine Hd.dnew ?_ | refine Hd.make ?_ | refine Hd.gsub ?_ | refine Hd.bm ?_ | refine Hd.sl ?_ | refine Hd.part ?_ | refine Hd.nopart ?_ | refine Hd.bm0 ?_ | refine Hd.c ?_ | refine Hd.ifT ?_ | refine Hd.ifF ?_))
local macro_rules | `(tactic| walk_at "v") => `(tactic| (with_reducible refine Hd.var ?_; refine ⟨_, rfl, ?_⟩))
local macro_rules | `(tactic| walk_at "ss") => `(tactic| (repeat first | walk_at "s" | walk_at "v"))

local macro_rules | `(tactic| walk_at "t") => `(tactic| (repeat with_reducible first | refine Hd.seq ?_ | refine Hd.nx ?_ | refine Hd.asg ?_ | refine Hd.name ?_ | refine Hd.ifT ?_ | refine Hd.ifF ?_))
local macro_rules | `(tactic| walk_at "m") => `(tactic| (repeat with_reducible first | exact Hd.mVar | exact Hd.mC | exact Hd.mNil | exact Hd.mI0 | exact Hd.mEq | exact Hd.mNe | exact Hd.mLen | exact Hd.mStarts | refine Hd.mBM ?_ ?_ ?_ | refine Hd.mOr ?_ ?_ | refine Hd.mAnd ?_ ?_ | refine Hd.mNot ?_ | refine Hd.mTest ?_ | refine Hd.mTb ?_ | refine Hd.mOp ?_ ?_ ?_ | refine Hd.mFld ?_ | refine Hd.mCB ?_ ?_ | refine Hd.mCons ?_ ?_))

/-! ### the facts of the texts -/
mutual
def PV.eqb : PV → PV → Bool
  | .non, .non => true
  | .int i, .int j => decide (i = j)
  | .str s, .str t => decide (s = t)
  | .lst l, .lst m => eqbL l m
  | .tup i x, .tup j y => decide (i = j) && PV.eqb x y
  | .dct k, .dct m => eqbD k m
  | _, _ => false
def eqbL : List PV → List PV → Bool
  | [], [] => true
  | x :: r, y :: s => PV.eqb x y && eqbL r s
  | _, _ => false
def eqbD : List (List Nat × PV) → List (List Nat × PV) → Bool
  | [], [] => true
  | (a, x) :: r, (b, y) :: s => decide (a = b) && PV.eqb x y && eqbD r s
  | _, _ => false
end
mutual
theorem PV.eqb_eq : ∀ (x y : PV), PV.eqb x y = true → x = y
  | .non, .non, _ => rfl
  | .int i, .int j, h => by rw [PV.eqb] at h; rw [of_decide_eq_true h]
  | .str s, .str t, h => by rw [PV.eqb] at h; rw [of_decide_eq_true h]
  | .lst l, .lst m, h => by rw [PV.eqb] at h; rw [eqbL_eq l m h]
  | .tup i x, .tup j y, h => by
    rw [PV.eqb, Bool.and_eq_true] at h
    rw [of_decide_eq_true h.1, PV.eqb_eq x y h.2]
  | .dct k, .dct m, h => by rw [PV.eqb] at h; rw [eqbD_eq k m h]
  | .non, .int _, h | .non, .str _, h | .non, .lst _, h | .non, .tup _ _, h | .non, .dct _, h => by simp [PV.eqb] at h
  | .int _, .non, h | .int _, .str _, h | .int _, .lst _, h | .int _, .tup _ _, h | .int _, .dct _, h => by simp [PV.eqb] at h
  | .str _, .non, h | .str _, .int _, h | .str _, .lst _, h | .str _, .tup _ _, h | .str _, .dct _, h => by simp [PV.eqb] at h
  | .lst _, .non, h | .lst _, .int _, h | .lst _, .str _, h | .lst _, .tup _ _, h | .lst _, .dct _, h => by simp [PV.eqb] at h
  | .tup _ _, .non, h | .tup _ _, .int _, h | .tup _ _, .str _, h | .tup _ _, .lst _, h | .tup _ _, .dct _, h => by simp [PV.eqb] at h
  | .dct _, .non, h | .dct _, .int _, h | .dct _, .str _, h | .dct _, .lst _, h | .dct _, .tup _ _, h => by simp [PV.eqb] at h
theorem eqbL_eq : ∀ (x y : List PV), eqbL x y = true → x = y
  | [], [], _ => rfl
  | x :: r, y :: s, h => by
    rw [eqbL, Bool.and_eq_true] at h
    rw [PV.eqb_eq x y h.1, eqbL_eq r s h.2]
  | [], _ :: _, h | _ :: _, [], h => by simp [eqbL] at h
theorem eqbD_eq : ∀ (x y : List (List Nat × PV)), eqbD x y = true → x = y
  | [], [], _ => rfl
  | (a, x) :: r, (b, y) :: s, h => by
    rw [eqbD, Bool.and_eq_true, Bool.and_eq_true] at h
    rw [of_decide_eq_true h.1.1, PV.eqb_eq x y h.1.2, eqbD_eq r s h.2]
  | [], _ :: _, h | _ :: _, [], h => by simp [eqbD] at h
end
def nchk (s : Str) : Bool := match valueOf (cds s) with
  | .no => decide (s.length ≤ 2000)
  | _ => false
def schk (x : Str × PV) : Bool := match valueOf (cds x.1) with
  | .ok z => PV.eqb z x.2 && fit 8 x.2 && decide (x.1.length ≤ 2000)
  | _ => false
def echk (l : List Nat) : Bool := match valueOf l with
  | .ok y => good 8 false y && fit 8 y && (match valueOf (again 8 y) with
    | .ok z => PV.eqb z y
    | _ => false)
  | .no => true
  | .bad => false
theorem none_all : ∀ s ∈ noneS, nchk s = true := by decide +kernel
theorem some_all : ∀ x ∈ someS, schk x = true := by decide +kernel
theorem edit_all : ∀ at_, at_ < edT.length + 1 → ∀ d, d < 2 → echk (edit at_ d []) = true ∧ ∀ c ∈ edS, echk (edit at_ d [c]) = true := by decide +kernel
end K91

set_option Elab.async false
set_option linter.all false
set_option maxRecDepth 100000
set_option maxHeartbeats 4000000
namespace K91
open PySem L2
local macro_rules | `(tactic| walk_at "s") => `(tactic| (with_reducible first
  | refine Hd.and_ ?_ | refine Hd.or_ ?_ | refine Hd.not_ ?_ | refine Hd.test ?_ | refine Hd.tb ?_ | refine Hd.bl ?_ | refine Hd.chain ?_ | refine Hd.op ?_ | refine Hd.un ?_
  | refine Hd.cb ?_ | refine Hd.nil ?_ | refine Hd.cons ?_ | refine Hd.if_ ?_ | refine Hd.seq ?_ | refine Hd.nx ?_ | refine Hd.ifs ?_ | refine Hd.ret ?_ | refine Hd.drop ?_
  | refine Hd.asg ?_ | refine Hd.name ?_ | refine Hd.tup ?_ | refine Hd.lst ?_ | refine Hd.int0 ?_ | refine Hd.intU ?_ | refine Hd.eqI ?_ | refine Hd.eqS ?_ | refine Hd.eqB ?_ | refine Hd.neI ?_ | refine Hd.neS ?_ | refine Hd.neB ?_
  | refine Hd.add ?_ | refine Hd.sub ?_ | refine Hd.call ?_ | refine Hd.callS ?_ | refine Hd.ifNT ?_ | refine Hd.ifNF ?_ | refine Hd.dput ?_ | refine Hd.din ?_ | refine Hd.dget ?_ | refine Hd.dnew ?_ | refine Hd.make ?_ | refine Hd.gsub ?_ | refine Hd.bm ?_ | refine Hd.sl ?_ | refine Hd.part ?_ | refine Hd.nopart ?_ | refine Hd.bm0 ?_ | refine Hd.c ?_ | refine Hd.ifT ?_ | refine Hd.ifF ?_))
local macro_rules | `(tactic| walk_at "v") => `(tactic| (with_reducible refine Hd.var ?_; refine ⟨_, rfl, ?_⟩))
local macro_rules | `(tactic| walk_at "ss") => `(tactic| (repeat first | walk_at "s" | walk_at "v"))

local macro_rules | `(tactic| walk_at "t") => `(tactic| (repeat with_reducible first | refine Hd.seq ?_ | refine Hd.nx ?_ | refine Hd.asg ?_ | refine Hd.name ?_ | refine Hd.ifT ?_ | refine Hd.ifF ?_))
local macro_rules | `(tactic| walk_at "m") => `(tactic| (repeat with_reducible first | exact Hd.mVar | exact Hd.mC | exact Hd.mNil | exact Hd.mI0 | exact Hd.mEq | exact Hd.mNe | exact Hd.mLen | exact Hd.mStarts | refine Hd.mBM ?_ ?_ ?_ | refine Hd.mOr ?_ ?_ | refine Hd.mAnd ?_ ?_ | refine Hd.mNot ?_ | refine Hd.mTest ?_ | refine Hd.mTb ?_ | refine Hd.mOp ?_ ?_ ?_ | refine Hd.mFld ?_ | refine Hd.mCB ?_ ?_ | refine Hd.mCons ?_ ?_))

abbrev sLaw : Stmt := top 37
theorem and_gone {t u : TT} {σ : L2.St} {H : Hp} {B : Bool → Hp → Prop} (h : ∀ H1, Same H H1 → B false H1) (g : ∀ B' : Bool → Hp → Prop, (∀ H1, Same H H1 → B' false H1) → tAnd t u σ H B') : tAnd t u σ H B := g B h
theorem Prs.mem {S : Addr → Prop} {H : Hp} {us : List V} {xs : List (Str × PV)} (h : Prs S H us xs) {v : V} (hv : v ∈ us) : ∃ x ∈ xs, Pr S H v x := by
  induction h with
  | nil => cases hv
  | cons a b ih =>
    rcases List.mem_cons.mp hv with e | e
    · subst e
      exact ⟨_, List.mem_cons_self, a⟩
    · obtain ⟨x, hx, p⟩ := ih e
      exact ⟨x, List.mem_cons_of_mem _ hx, p⟩
theorem str_S (s : Str) : V.str s = V.str (SX.S (cds s)) := by rw [SX.S_tl]
section
variable {P : Program} {w : World} {K : PySem.W.Frag} {mg : Str → Option Value} {base : Heap}
/-- a promise at its place in the module -/
structure At (P : Program) (w : World) (K : PySem.W.Frag) (mg : Str → Option Value) (base : Heap) (CX : CXT) (k : Nat) (n : Str) (ps : List Str) (sp : Sp) : Prop where
  ex : ∃ (f : Addr) (fd : FuncData), FnOk P w K mg base CX k f fd ps sp ∧ mg n = some (.ref f) ∧ PySem.W.keepIn K (.ref f) = true ∧ Binds K fd ps []
def spLaw (K : PySem.W.Frag) : Sp := fun vs H Q _ => ∃ (a : Addr) (ns : List Int), vs = [.ref a] ∧ SqL K H a (ns.map V.int) ∧ ∀ H', Q (.bl true) H'
theorem scLaw : FnScope ["_law_script", "_law_cell", "_law_k", "_law_more", "_law_text", "_law_due", "_law_found"] ["_law_script"] (defScope sLaw) := ⟨rfl, rfl, rfl, by decide +kernel, rfl, by decide +kernel, by decide +kernel⟩
theorem ok_law {f NT : Addr} {fd : FuncData} (F : Fun K "law" "law" sLaw f fd) (zr : mg "range" = none) (zl : mg "len" = none)
    (AC : At P w K mg base CX0 1 "_law_cell_at" ["_law_script", "_law_k"] (spCell K)) (AD : At P w K mg base CX0 87 "_law_deep" ["_law_cell"] spDeep) (AT : At P w K mg base CX0 86 "_law_told" ["_law_text"] spTold)
    (AL : At P w K mg base CX0 1 "_law_of_list" ["_law_some_here", "_law_cell"] (spOfL K)) (AN : At P w K mg base CX0 1 "_law_none" [] spNone) (AS : At P w K mg base CX0 1 "_law_some" [] spSome)
    (AM : At P w K mg base CX0 8 "_law_same" ["_law_found", "_law_due"] (spSame 8)) (AE : At P w K mg base CX0 3 "_law_edited" ["_law_state_here"] spEdit) (AZ : At P w K mg base CX0 2 "_law_state" ["_law_script", "_law_first"] (spState K))
    (AA : At P w K mg base CX0 9 "_law_again" ["_law_value"] (spA 8)) (AV : At P w K mg base (L2.CX P w) 85 "value_of" ["text"] (spTextOf NT)) :
    FnOk P w K mg base (L2.CX P w) 88 f fd ["_law_script"] (spLaw K) := by
  obtain ⟨fC, dC, GC, mC, kC, bC⟩ := AC.ex
  obtain ⟨fD, dD, GD, mD, kD, bD⟩ := AD.ex
  obtain ⟨fT, dT, GT, mT, kT, bT⟩ := AT.ex
  obtain ⟨fL, dL, GL, mL, kL, bL⟩ := AL.ex
  obtain ⟨fN, dN, GN, mN, kN, bN⟩ := AN.ex
  obtain ⟨fS, dS, GS, mS, kS, bS⟩ := AS.ex
  obtain ⟨fM, dM, GM, mM, kM, bM⟩ := AM.ex
  obtain ⟨fE, dE, GE, mE, kE, bE⟩ := AE.ex
  obtain ⟨fZ, dZ, GZ, mZ, kZ, bZ⟩ := AZ.ex
  obtain ⟨fA, dA, GA, mA, kA, bA⟩ := AA.ex
  obtain ⟨fV, dV, GV, mV, kV, bV⟩ := AV.ex
  refine F.okX scLaw (fun vs H Q E h => ?_) (fun cdv A outer s H vs Q E hr h => ?_)
  · obtain ⟨a, ns, rfl, _⟩ := h
    rfl
  obtain ⟨a, ns, rfl, hS, q⟩ := h
  refine ⟨_, pss_cons (ps_set (i := 1) scLaw.nd rfl (Or.inl rfl) (pe_call GC (hr.mono (by decide)) rfl mC kC bC .nil pass0 (pa_cons (pv 0) (pa_cons pe_int pa_nil))))
    (pss_cons (ps_if (PW.pt (pw_and (pt_cmpR op_eq (pe_op op_mod (pv 1) pe_int) pe_int (nomark _)) (pw_and1 (pt_not (pt_val (pe_call GD hr rfl mD kD bD .nil pass0 (pa_cons (pe_op op_fdivW (pv 1) pe_int) pa_nil)) (by intro _; rfl)))))) (pss_one (ps_ret pe_bl)) pss_nil)
    (pss_cons (ps_for (passes_of rfl) rfl (pi_range1 (by rfl) zr (pa_cons pe_int pa_nil)) (pg_name (i := 2) scLaw.nd rfl (Or.inl rfl))
      (pss_cons (ps_set (i := 3) scLaw.nd rfl (Or.inl rfl) (pe_op op_add (pe_call GC (hr.mono (by decide)) rfl mC kC bC .nil pass0 (pa_cons (pv 0) (pa_cons (pe_op op_add pe_int (pv 2)) pa_nil))) (pe_op op_mul pe_int (pv 2))))
      (pss_cons (ps_if (pt_cmpR (op_neD hr.units) (pe_call GT (hr.mono (by decide)) rfl mT kT bT .nil pass0 (pa_cons (pe_call GL (hr.mono (by decide)) rfl mL kL bL .nil pass0 (pa_cons (pe_call0 GN (hr.mono (by decide)) rfl mN kN bN .nil pass0) (pa_cons (pv 3) pa_nil))) pa_nil)) (pe_tup pa_nil) (nomark _)) (pss_one (ps_ret pe_bl)) pss_nil)
      (pss_cons (ps_asg (pe_call GL (hr.mono (by decide)) rfl mL kL bL .nil pass0 (pa_cons (pe_call0 GS (hr.mono (by decide)) rfl mS kS bS .nil pass0) (pa_cons (pe_op op_fdivW (pv 3) pe_int) pa_nil))) (pg_tup rfl (pgs_cons (pg_name (i := 4) scLaw.nd rfl (Or.inl rfl)) (pgs_cons (pg_name (i := 5) scLaw.nd rfl (Or.inl rfl)) pgs_nil))))
      (pss_cons (ps_set (i := 6) scLaw.nd rfl (Or.inl rfl) (pe_call GT (hr.mono (by decide)) rfl mT kT bT .nil pass0 (pa_cons (pv 4) pa_nil)))
      (pss_one (ps_if (PW.pt (pw_or (pt_cmpR op_isN (pv 6) pe_non (nomark _)) (pw_or (pt_cmpR op_ne (pe_callB call_len_seq (by rfl) zl (by decide +kernel) (pa_cons (pv 6) pa_nil)) pe_int (nomark _)) (pw_or1 (pt_not (pt_val (pe_call GM (hr.mono (by decide)) rfl mM kM bM .nil pass0 (pa_cons (pe_ix ix_tup (pv 6) pe_int (fun _ _ => rfl)) (pa_cons (pv 5) pa_nil))) (by intro _; rfl))))))) (pss_one (ps_ret pe_bl)) pss_nil)))))))
    (pss_cons (ps_if (pt_cmpR (op_neD hr.units) (pe_call GT (hr.mono (by decide)) rfl mT kT bT .nil pass0 (pa_cons (pe_ix ix_list (pe_lst (pa_cons pe_non (pa_cons pe_int (pa_cons (pe_lst (pa_cons pe_str pa_nil)) (pa_cons pe_bl pa_nil))))) (pe_op op_mod (pe_op op_fdivW (pv 1) pe_int) pe_int) (fun _ _ => rfl)) pa_nil)) (pe_tup pa_nil) (nomark _)) (pss_one (ps_ret pe_bl)) pss_nil)
    (pss_cons (ps_set (i := 6) scLaw.nd rfl (Or.inl rfl) (pe_call GT (hr.mono (by decide)) rfl mT kT bT .nil pass0 (pa_cons (pe_call GE (hr.mono (by decide)) rfl mE kE bE .nil pass0 (pa_cons (pe_call GZ (hr.mono (by decide)) rfl mZ kZ bZ .nil pass0 (pa_cons (pv 0) (pa_cons pe_int pa_nil))) pa_nil)) pa_nil)))
    (pss_cons (ps_if (pt_cmpR op_isN (pv 6) pe_non (nomark _)) (pss_one (ps_ret pe_bl)) pss_nil)
    (pss_one (ps_ret (pe_or (pe_cmpR (op_eqT0 hr.units0) (pv 6) (pe_tup pa_nil) (nomark _)) (pe_one (pe_call GM (hr.mono (by decide)) rfl mM kM bM .nil pass0 (pa_cons
      (pe_call GV (hr.mono (by decide)) rfl mV kV bV .nil (passes_call (takes_of rfl rfl rfl rfl) (fun _ _ _ _ h => h)) (pa_cons (pe_call GA (hr.mono (by decide)) rfl mA kA bA .nil pass0 (pa_cons (pe_ix ix_tup (pv 6) pe_int (fun _ _ => rfl)) pa_nil)) pa_nil)) (pa_cons (pe_ix ix_tup (pv 6) pe_int (fun _ _ => rfl)) pa_nil)))))))))))), ?_⟩
  walk_at "ss"
  refine ⟨a, ns, 0, rfl, hS, ?_⟩
  generalize ns.getD 0 0 = c
  walk_at "t"
  refine Hd.ifs ?_
  refine and_gone (fun H1 s1 => ?_) (fun B k => ?_)
  rotate_left
  · walk_at "ss"
    refine Hd.intC ?_ (by decide)
    walk_at "ss"
    refine Hd.split (fun c1 => ?_) (fun c1 => k H (Same.refl H))
    walk_at "ss"
    refine Hd.intC ?_ (wide_div (b := 2) (by decide) (by decide) (by decide) (by decide))
    walk_at "ss"
    refine ⟨_, rfl, fun H1 s1 => ?_⟩
    walk_at "ss"
    exact k H1 s1
  walk_at "ss"
  refine ⟨4, rfl, by decide, by decide, for_range (n := 4) (fun _ σ H' => Same H H' ∧ ∃ x2 x3 x4 x5 x6, σ = [some (.ref a), some (.int c), x2, x3, x4, x5, x6]) ⟨s1, _, _, _, _, _, rfl⟩ ?_ ?_⟩
  · rintro i σ H2 hi ⟨s2, x2, x3, x4, x5, x6, rfl⟩
    refine Hd.name ?_
    walk_at "ss"
    refine ⟨a, ns, i + 1, ?_, Same.seq s2 hS, ?_⟩
    · show [V.ref a, V.int (1 + (0 + (i : Int)))] = [V.ref a, V.int ((i + 1 : Nat) : Int)]
      rw [show (1 + (0 + (i : Int))) = ((i + 1 : Nat) : Int) by omega]
    generalize ns.getD (i + 1) 0 = ci
    walk_at "ss"
    refine Hd.intC ?_ (.inl ⟨by omega, by omega⟩)
    walk_at "ss"
    generalize ci + 7 * (0 + (i : Int)) = m
    refine ⟨rfl, fun an Hn sn nn en => ?_⟩
    walk_at "ss"
    refine ⟨an, noneS.map V.str, m, rfl, SqL.of en, (fun z => nomatch z), fun x hx => ?_⟩
    obtain ⟨t, ht, rfl⟩ := List.mem_map.mp hx
    walk_at "ss"
    have nc := none_all t ht
    unfold nchk at nc
    rw [str_S t]
    refine told_of (m := true) ?_ ?_ fun a4 xs H4 s4 e4 em => ?_
    · cases e : valueOf (cds t) with
      | no => rw [e] at nc; rw [← len_cds]; exact of_decide_eq_true nc
      | ok y => rw [e] at nc; exact nomatch nc
      | bad => rw [e] at nc; exact nomatch nc
    · cases e : valueOf (cds t) with
      | no => rfl
      | ok y => rw [e] at nc; exact nomatch nc
      | bad => rw [e] at nc; exact nomatch nc
    obtain rfl : xs = [] := List.isEmpty_iff.mp em
    walk_at "ss"
    refine ⟨Nat.zero_le _, fun p5 h5 => ?_⟩
    refine ⟨.tuple [], .tuple [], .tup (SqT.of (Same.put h5 _ _ _ e4)) .nil, .tup (SqT.of upd_same) .nil, rfl, rfl, ?_⟩
    have s5 : Same H (upd H4 p5 (.tup [])) := ((s2.trans sn).trans s4).trans (Same.put h5 _)
    generalize upd H4 p5 (.tup []) = H5 at s5 ⊢
    rw [show (!PyData.eqv (.tuple []) (.tuple [])) = false from rfl]
    walk_at "ss"
    refine ⟨rfl, fun as us H6 s6 n6 e6 p6 => ?_⟩
    walk_at "ss"
    refine Hd.intC ?_ (wide_div (b := 6) (by decide) (by decide) (by decide) (by decide))
    walk_at "ss"
    have une : us ≠ [] := fun z => by
      have := p6.len
      rw [z] at this
      exact nomatch this
    refine ⟨as, us, _, rfl, SqL.of e6, une, fun x hx => ?_⟩
    obtain ⟨it, hit, tt, dv, rfl, nt, et, hd⟩ := p6.mem hx
    have sc := some_all it hit
    unfold schk at sc
    refine ⟨tt, _, rfl, SqT.of et, rfl, _, _, rfl, Hd.name ⟨_, _, rfl, Hd.name ⟨rfl, ?_⟩⟩⟩
    walk_at "ss"
    cases ev : valueOf (cds it.1) with
    | no => rw [ev] at sc; exact nomatch sc
    | bad => rw [ev] at sc; exact nomatch sc
    | ok y =>
      rw [ev] at sc
      simp only [Bool.and_eq_true, decide_eq_true_eq] at sc
      obtain ⟨⟨sc1, sc2⟩, sc3⟩ := sc
      obtain rfl := PV.eqb_eq _ _ sc1
      refine ⟨_, rfl, .inl ⟨_, rfl, sc3, ?_⟩⟩
      rw [ev]
      intro v a7 H7 s7 n7 e7 i7
      walk_at "ss"
      refine ⟨rfl, ?_⟩
      rw [decide_eq_false (fun z => nomatch z)]
      walk_at "ss"
      refine ⟨a7, [v], rfl, .inr (SqT.of e7), ?_⟩
      walk_at "ss"
      rw [decide_eq_true (show (([v] : List V).length : Int) = 1 from rfl)]
      walk_at "ss"
      refine Hd.ixT (SqT.of e7) (atI_nat rfl) ?_
      walk_at "ss"
      refine ⟨v, dv, it.2, _, _, rfl, i7, hd.imp (fun _ z => z) (fun b o _ z => s7 b o z), sc2, fun H8 s8 => ?_⟩
      walk_at "ss"
      exact ⟨((s5.trans s6).trans s7).trans s8, _, _, _, _, _, rfl⟩
  · rintro σ H2 ⟨s2, x2, x3, x4, x5, x6, rfl⟩
    walk_at "ss"
    refine ⟨(by show 1 ≤ sizeLine; decide), fun p1 h1 => ?_⟩
    have e1 : (upd H2 p1 (.lst [V.str (Str.ofString "1")])) p1 = some (.lst [V.str (Str.ofString "1")]) := upd_same
    have s3 := Same.put h1 (.lst [V.str (Str.ofString "1")])
    generalize upd H2 p1 (.lst [V.str (Str.ofString "1")]) = H3 at e1 s3 ⊢
    walk_at "ss"
    refine ⟨(by show 4 ≤ sizeLine; decide), fun p2 h2 => ?_⟩
    have e2 : (upd H3 p2 (.lst [V.non, V.int 7, V.ref p1, V.bl true])) p2 = some (.lst [V.non, V.int 7, V.ref p1, V.bl true]) := upd_same
    have s4 := Same.put h2 (.lst [V.non, V.int 7, V.ref p1, V.bl true])
    generalize upd H3 p2 (.lst [V.non, V.int 7, V.ref p1, V.bl true]) = H4 at e2 s4 ⊢
    walk_at "ss"
    refine Hd.intC ?_ (wide_div (b := 3) (by decide) (by decide) (by decide) (by decide))
    walk_at "ss"
    refine Hd.intC ?_ (by decide)
    have k0 : 0 ≤ c / 7 % 4 := Int.emod_nonneg _ (by decide)
    have k1 : c / 7 % 4 < 4 := Int.emod_lt_of_pos _ (by decide)
    generalize c / 7 % 4 = ki at k0 k1 ⊢
    obtain ⟨kk, rfl⟩ := Int.eq_ofNat_of_zero_le k0
    obtain ⟨x, ex, hx⟩ : ∃ x, [V.non, V.int 7, V.ref p1, V.bl true][kk]? = some x ∧ NoStr H4 x := by
      have hi : kk < 4 := by omega
      match kk, hi with
      | 0, _ => exact ⟨_, rfl, trivial⟩
      | 1, _ => exact ⟨_, rfl, trivial⟩
      | 2, _ => exact ⟨_, rfl, _, s4 _ _ e1⟩
      | 3, _ => exact ⟨_, rfl, trivial⟩
    refine Hd.ixL (SqL.of e2) (atI_nat ex) ?_
    walk_at "ss"
    refine ⟨x, rfl, .inr ⟨hx, fun a5 H5 s5 n5 e5 => ?_⟩⟩
    walk_at "ss"
    refine ⟨Nat.zero_le _, fun p6 h6 => ?_⟩
    refine ⟨.tuple [], .tuple [], .tup (SqT.of (Same.put h6 _ _ _ e5)) .nil, .tup (SqT.of upd_same) .nil, rfl, rfl, ?_⟩
    have s6 : Same H (upd H5 p6 (.tup [])) := (s2.trans (s3.trans (s4.trans s5))).trans (Same.put h6 _)
    generalize upd H5 p6 (.tup []) = H6 at s6 ⊢
    rw [show (!PyData.eqv (.tuple []) (.tuple [])) = false from rfl]
    walk_at "ss"
    refine ⟨a, ns, 5, rfl, Same.seq s6 hS, fun st H7 n7 s7 t7 => ?_⟩
    walk_at "ss"
    refine ⟨st, rfl, t7, fun at_ d nw H8 hat hd hnw b8 => ?_⟩
    have s8 : Same H6 H8 := fun b o e => b8.2 b o (s7 b o e) (ne_of_none e n7)
    walk_at "ss"
    have lT : edT.length ≤ 100 := by decide
    have ec : echk (edit at_ d nw) = true := by
      obtain ⟨h1, h2⟩ := edit_all at_ (by omega) d (by omega)
      rcases hnw with rfl | ⟨cc, hc, rfl⟩
      · exact h1
      · exact h2 cc hc
    have el : (edit at_ d nw).length ≤ 2000 := by
      have h3 : nw.length ≤ 1 := by rcases hnw with rfl | ⟨cc, hc, rfl⟩ <;> simp
      unfold edit
      rw [List.length_append, List.length_append, List.length_take, List.length_drop]
      omega
    unfold echk at ec
    cases ev : valueOf (edit at_ d nw) with
    | bad => rw [ev] at ec; exact nomatch ec
    | no =>
      refine told_of (m := true) el (by rw [ev]) fun a9 xs H9 s9 e9 em => ?_
      walk_at "ss"
      refine ⟨rfl, ?_⟩
      rw [decide_eq_false (fun z => nomatch z)]
      walk_at "ss"
      unfold tOrV
      walk_at "ss"
      refine ⟨Nat.zero_le _, fun pa ha => ?_⟩
      refine ⟨a9, pa, xs, rfl, rfl, SqT.of (Same.put ha _ _ _ e9), SqT.of upd_same, true, by rw [em], ?_⟩
      walk_at "ss"
      exact q _
    | ok y =>
      rw [ev] at ec
      simp only [Bool.and_eq_true] at ec
      obtain ⟨⟨g1, g2⟩, g3⟩ := ec
      refine ⟨_, rfl, .inl ⟨_, rfl, by rw [SX.S_len]; exact el, ?_⟩⟩
      rw [show valueOf (cds (SX.S (edit at_ d nw))) = .ok y from ev]
      intro v a9 H9 s9 n9 e9 i9
      walk_at "ss"
      refine ⟨rfl, ?_⟩
      rw [decide_eq_false (fun z => nomatch z)]
      walk_at "ss"
      unfold tOrV
      walk_at "ss"
      refine ⟨Nat.zero_le _, fun pa ha => ?_⟩
      have eA : (upd H9 pa (.tup [])) a9 = some (.tup [v]) := Same.put ha _ _ _ e9
      have iA := i9.imp (fun _ z => z) (keep_new ha (.tup []))
      refine ⟨a9, pa, [v], rfl, rfl, SqT.of eA, SqT.of upd_same, false, rfl, ?_⟩
      generalize upd H9 pa (.tup []) = HA at eA iA ⊢
      walk_at "ss"
      refine Hd.ixT (SqT.of eA) (atI_nat rfl) ?_
      walk_at "ss"
      refine ⟨v, y, _, rfl, iA, g1, fun HB sB => ?_⟩
      walk_at "ss"
      cases ew : valueOf (again 8 y) with
      | bad => rw [ew] at g3; exact nomatch g3
      | no => rw [ew] at g3; exact nomatch g3
      | ok z =>
        rw [ew] at g3
        obtain rfl := PV.eqb_eq _ _ g3
        refine ⟨_, rfl, .inl ⟨_, rfl, by rw [SX.S_len]; exact good_len g1, ?_⟩⟩
        rw [show valueOf (cds (SX.S (again 8 z))) = .ok z from ew]
        intro v2 HC sC iC
        walk_at "ss"
        refine Hd.ixT (SqT.of (sC _ _ (sB _ _ eA))) (atI_nat rfl) ?_
        walk_at "ss"
        refine ⟨v2, v, z, _, _, rfl, iC, iA.imp (fun _ z => z) (fun b o _ z => sC _ _ (sB _ _ z)), g2, fun HD sD => q HD⟩
end
end K91

set_option Elab.async false
set_option linter.all false
set_option maxRecDepth 100000
set_option maxHeartbeats 4000000
namespace K91
open PySem L2
local macro_rules | `(tactic| walk_at "s") => `(tactic| (with_reducible first
  | refine Hd.and_ ?_ | refine Hd.or_ ?_ | refine Hd.not_ ?_ | refine Hd.test ?_ | refine Hd.tb ?_ | refine Hd.bl ?_ | refine Hd.chain ?_ | refine Hd.op ?_ | refine Hd.un ?_
  | refine Hd.cb ?_ | refine Hd.nil ?_ | refine Hd.cons ?_ | refine Hd.if_ ?_ | refine Hd.seq ?_ | refine Hd.nx ?_ | refine Hd.ifs ?_ | refine Hd.ret ?_ | refine Hd.drop ?_
  | refine Hd.asg ?_ | refine Hd.name ?_ | refine Hd.tup ?_ | refine Hd.lst ?_ | refine Hd.int0 ?_ | refine Hd.intU ?_ | refine Hd.eqI ?_ | refine Hd.eqS ?_ | refine Hd.eqB ?_ | refine Hd.neI ?_ | refine Hd.neS ?_ | refine Hd.neB ?_
  | refine Hd.add ?_ | refine Hd.sub ?_ | refine Hd.call ?_ | refine Hd.callS ?_ | refine Hd.ifNT ?_ | refine Hd.ifNF ?_ | refine Hd.dput ?_ | refine Hd.din ?_ | refine Hd.dget ?_ | refine Hd.dnew ?_ | refine Hd.make ?_ | refine Hd.gsub ?_ | refine Hd.bm ?_ | refine Hd.sl ?_ | refine Hd.part ?_ | refine Hd.nopart ?_ | refine Hd.bm0 ?_ | refine Hd.c ?_ | refine Hd.ifT ?_ | refine Hd.ifF ?_))
local macro_rules | `(tactic| walk_at "v") => `(tactic| (with_reducible refine Hd.var ?_; refine ⟨_, rfl, ?_⟩))
local macro_rules | `(tactic| walk_at "ss") => `(tactic| (repeat first | walk_at "s" | walk_at "v"))

local macro_rules | `(tactic| walk_at "t") => `(tactic| (repeat with_reducible first | refine Hd.seq ?_ | refine Hd.nx ?_ | refine Hd.asg ?_ | refine Hd.name ?_ | refine Hd.ifT ?_ | refine Hd.ifF ?_))
local macro_rules | `(tactic| walk_at "m") => `(tactic| (repeat with_reducible first | exact Hd.mVar | exact Hd.mC | exact Hd.mNil | exact Hd.mI0 | exact Hd.mEq | exact Hd.mNe | exact Hd.mLen | exact Hd.mStarts | refine Hd.mBM ?_ ?_ ?_ | refine Hd.mOr ?_ ?_ | refine Hd.mAnd ?_ ?_ | refine Hd.mNot ?_ | refine Hd.mTest ?_ | refine Hd.mTb ?_ | refine Hd.mOp ?_ ?_ ?_ | refine Hd.mFld ?_ | refine Hd.mCB ?_ ?_ | refine Hd.mCons ?_ ?_))

theorem all_mk {P : Program} {w : World} {K : PySem.W.Frag} {h : Heap} {mg : Str → Option Value} {fa C NT NB NL NF FE fIni fSee fWan fRun fNum fQuo fLst fNam fDct fOpn fVal fOf fCel fNxt fSta fOfS fTld fNon fSom fAgn fOfL fDep fEdt fSam fLaw : Addr} (X : K.In h) (G : h.Ns mainGlobals mg) (hfa : mg "law" = some (.ref fa))
    {odIni anIni odSee anSee odWan anWan odRun anRun odNum anNum odQuo anQuo odLst anLst odNam anNam odDct anDct odOpn anOpn odVal anVal odOf anOf odCel anCel odNxt anNxt odSta anSta odOfS anOfS odTld anTld odNon anNon odSom anSom odAgn anAgn odOfL anOfL odDep anDep odEdt anEdt odSam anSam odLaw anLaw : Option Addr} {slIni slSee slWan slRun slNum slQuo slLst slNam slDct slOpn slVal slOf slCel slNxt slSta slOfS slTld slNon slSom slAgn slOfL slDep slEdt slSam slLaw : Array (Option Value)} {ocIni kVIni dcIni pmIni cdIni ctIni ocSee kVSee dcSee pmSee cdSee ctSee ocWan kVWan dcWan pmWan cdWan ctWan ocRun kVRun dcRun pmRun cdRun ctRun ocNum kVNum dcNum pmNum cdNum ctNum ocQuo kVQuo dcQuo pmQuo cdQuo ctQuo ocLst kVLst dcLst pmLst cdLst ctLst ocNam kVNam dcNam pmNam cdNam ctNam ocDct kVDct dcDct pmDct cdDct ctDct ocOpn kVOpn dcOpn pmOpn cdOpn ctOpn ocVal kVVal dcVal pmVal cdVal ctVal ocOf kVOf dcOf pmOf cdOf ctOf ocCel kVCel dcCel pmCel cdCel ctCel ocNxt kVNxt dcNxt pmNxt cdNxt ctNxt ocSta kVSta dcSta pmSta cdSta ctSta ocOfS kVOfS dcOfS pmOfS cdOfS ctOfS ocTld kVTld dcTld pmTld cdTld ctTld ocNon kVNon dcNon pmNon cdNon ctNon ocSom kVSom dcSom pmSom cdSom ctSom ocAgn kVAgn dcAgn pmAgn cdAgn ctAgn ocOfL kVOfL dcOfL pmOfL cdOfL ctOfL ocDep kVDep dcDep pmDep cdDep ctDep ocEdt kVEdt dcEdt pmEdt cdEdt ctEdt ocSam kVSam dcSam pmSam cdSam ctSam ocLaw kVLaw dcLaw pmLaw cdLaw ctLaw : Value} {t1 t2 t3 t4 t5 : Tok}
    (aC : PySem.W.nsIn K mainGlobals "Signs" = some (some (.ref C)))
    (aIni : PySem.W.findIn K (.ref C) "__init__" = some (some (.ref fIni)))
    (iIni : PySem.W.isFn K (.ref fIni) = true)
    (lIni : K.lookup fIni = some ⟨ocIni, odIni, .func (PySem.W.fnOf "__init__" "Signs.__init__" (defArgs sInit) (defBody sInit) (defScope sInit) .none kVIni dcIni pmIni anIni cdIni ctIni), slIni⟩)
    (cIni : PySem.W.codeIn K cdIni "Signs.__init__" = true)
    (kIni : PySem.W.keepIn K (.ref fIni) = true)
    (aSee : PySem.W.findIn K (.ref C) "sees" = some (some (.ref fSee)))
    (iSee : PySem.W.isFn K (.ref fSee) = true)
    (lSee : K.lookup fSee = some ⟨ocSee, odSee, .func (PySem.W.fnOf "sees" "Signs.sees" (defArgs sSees) (defBody sSees) (defScope sSees) .none kVSee dcSee pmSee anSee cdSee ctSee), slSee⟩)
    (cSee : PySem.W.codeIn K cdSee "Signs.sees" = true)
    (kSee : PySem.W.keepIn K (.ref fSee) = true)
    (aWan : PySem.W.findIn K (.ref C) "wants" = some (some (.ref fWan)))
    (iWan : PySem.W.isFn K (.ref fWan) = true)
    (lWan : K.lookup fWan = some ⟨ocWan, odWan, .func (PySem.W.fnOf "wants" "Signs.wants" (defArgs sWants) (defBody sWants) (defScope sWants) .none kVWan dcWan pmWan anWan cdWan ctWan), slWan⟩)
    (cWan : PySem.W.codeIn K cdWan "Signs.wants" = true)
    (kWan : PySem.W.keepIn K (.ref fWan) = true)
    (aRun : PySem.W.findIn K (.ref C) "run" = some (some (.ref fRun)))
    (iRun : PySem.W.isFn K (.ref fRun) = true)
    (lRun : K.lookup fRun = some ⟨ocRun, odRun, .func (PySem.W.fnOf "run" "Signs.run" (defArgs sRun) (defBody sRun) (defScope sRun) .none kVRun dcRun pmRun anRun cdRun ctRun), slRun⟩)
    (cRun : PySem.W.codeIn K cdRun "Signs.run" = true)
    (kRun : PySem.W.keepIn K (.ref fRun) = true)
    (aNum : PySem.W.nsIn K mainGlobals "number_here" = some (some (.ref fNum)))
    (lNum : K.lookup fNum = some ⟨ocNum, odNum, .func (PySem.W.fnOf "number_here" "number_here" (defArgs sNum) (defBody sNum) (defScope sNum) .none kVNum dcNum pmNum anNum cdNum ctNum), slNum⟩)
    (cNum : PySem.W.codeIn K cdNum "number_here" = true)
    (kNum : PySem.W.keepIn K (.ref fNum) = true)
    (aQuo : PySem.W.nsIn K mainGlobals "quoted_here" = some (some (.ref fQuo)))
    (lQuo : K.lookup fQuo = some ⟨ocQuo, odQuo, .func (PySem.W.fnOf "quoted_here" "quoted_here" (defArgs sQuo) (defBody sQuo) (defScope sQuo) .none kVQuo dcQuo pmQuo anQuo cdQuo ctQuo), slQuo⟩)
    (cQuo : PySem.W.codeIn K cdQuo "quoted_here" = true)
    (kQuo : PySem.W.keepIn K (.ref fQuo) = true)
    (aLst : PySem.W.nsIn K mainGlobals "list_here" = some (some (.ref fLst)))
    (lLst : K.lookup fLst = some ⟨ocLst, odLst, .func (PySem.W.fnOf "list_here" "list_here" (defArgs sList) (defBody sList) (defScope sList) .none kVLst dcLst pmLst anLst cdLst ctLst), slLst⟩)
    (cLst : PySem.W.codeIn K cdLst "list_here" = true)
    (kLst : PySem.W.keepIn K (.ref fLst) = true)
    (aNam : PySem.W.nsIn K mainGlobals "name_here" = some (some (.ref fNam)))
    (lNam : K.lookup fNam = some ⟨ocNam, odNam, .func (PySem.W.fnOf "name_here" "name_here" (defArgs sName) (defBody sName) (defScope sName) .none kVNam dcNam pmNam anNam cdNam ctNam), slNam⟩)
    (cNam : PySem.W.codeIn K cdNam "name_here" = true)
    (kNam : PySem.W.keepIn K (.ref fNam) = true)
    (aDct : PySem.W.nsIn K mainGlobals "dict_here" = some (some (.ref fDct)))
    (lDct : K.lookup fDct = some ⟨ocDct, odDct, .func (PySem.W.fnOf "dict_here" "dict_here" (defArgs sDict) (defBody sDict) (defScope sDict) .none kVDct dcDct pmDct anDct cdDct ctDct), slDct⟩)
    (cDct : PySem.W.codeIn K cdDct "dict_here" = true)
    (kDct : PySem.W.keepIn K (.ref fDct) = true)
    (aOpn : PySem.W.nsIn K mainGlobals "opens" = some (some (.ref fOpn)))
    (lOpn : K.lookup fOpn = some ⟨ocOpn, odOpn, .func (PySem.W.fnOf "opens" "opens" (defArgs sOpens) (defBody sOpens) (defScope sOpens) .none kVOpn dcOpn pmOpn anOpn cdOpn ctOpn), slOpn⟩)
    (cOpn : PySem.W.codeIn K cdOpn "opens" = true)
    (kOpn : PySem.W.keepIn K (.ref fOpn) = true)
    (aVal : PySem.W.nsIn K mainGlobals "value_here" = some (some (.ref fVal)))
    (lVal : K.lookup fVal = some ⟨ocVal, odVal, .func (PySem.W.fnOf "value_here" "value_here" (defArgs sVal) (defBody sVal) (defScope sVal) .none kVVal dcVal pmVal anVal cdVal ctVal), slVal⟩)
    (cVal : PySem.W.codeIn K cdVal "value_here" = true)
    (kVal : PySem.W.keepIn K (.ref fVal) = true)
    (aOf : PySem.W.nsIn K mainGlobals "value_of" = some (some (.ref fOf)))
    (lOf : K.lookup fOf = some ⟨ocOf, odOf, .func (PySem.W.fnOf "value_of" "value_of" (defArgs sOf) (defBody sOf) (defScope sOf) .none kVOf dcOf pmOf anOf cdOf ctOf), slOf⟩)
    (cOf : PySem.W.codeIn K cdOf "value_of" = true)
    (kOf : PySem.W.keepIn K (.ref fOf) = true)
    (aCel : PySem.W.nsIn K mainGlobals "_law_cell_at" = some (some (.ref fCel)))
    (lCel : K.lookup fCel = some ⟨ocCel, odCel, .func (PySem.W.fnOf "_law_cell_at" "_law_cell_at" (defArgs sCell) (defBody sCell) (defScope sCell) .none kVCel dcCel pmCel anCel cdCel ctCel), slCel⟩)
    (cCel : PySem.W.codeIn K cdCel "_law_cell_at" = true)
    (kCel : PySem.W.keepIn K (.ref fCel) = true)
    (aNxt : PySem.W.nsIn K mainGlobals "_law_next" = some (some (.ref fNxt)))
    (lNxt : K.lookup fNxt = some ⟨ocNxt, odNxt, .func (PySem.W.fnOf "_law_next" "_law_next" (defArgs sNext) (defBody sNext) (defScope sNext) .none kVNxt dcNxt pmNxt anNxt cdNxt ctNxt), slNxt⟩)
    (cNxt : PySem.W.codeIn K cdNxt "_law_next" = true)
    (kNxt : PySem.W.keepIn K (.ref fNxt) = true)
    (aSta : PySem.W.nsIn K mainGlobals "_law_state" = some (some (.ref fSta)))
    (lSta : K.lookup fSta = some ⟨ocSta, odSta, .func (PySem.W.fnOf "_law_state" "_law_state" (defArgs sState) (defBody sState) (defScope sState) .none kVSta dcSta pmSta anSta cdSta ctSta), slSta⟩)
    (cSta : PySem.W.codeIn K cdSta "_law_state" = true)
    (kSta : PySem.W.keepIn K (.ref fSta) = true)
    (aOfS : PySem.W.nsIn K mainGlobals "_law_of" = some (some (.ref fOfS)))
    (lOfS : K.lookup fOfS = some ⟨ocOfS, odOfS, .func (PySem.W.fnOf "_law_of" "_law_of" (defArgs sOfS) (defBody sOfS) (defScope sOfS) .none kVOfS dcOfS pmOfS anOfS cdOfS ctOfS), slOfS⟩)
    (cOfS : PySem.W.codeIn K cdOfS "_law_of" = true)
    (kOfS : PySem.W.keepIn K (.ref fOfS) = true)
    (aTld : PySem.W.nsIn K mainGlobals "_law_told" = some (some (.ref fTld)))
    (lTld : K.lookup fTld = some ⟨ocTld, odTld, .func (PySem.W.fnOf "_law_told" "_law_told" (defArgs sTold) (defBody sTold) (defScope sTold) .none kVTld dcTld pmTld anTld cdTld ctTld), slTld⟩)
    (cTld : PySem.W.codeIn K cdTld "_law_told" = true)
    (kTld : PySem.W.keepIn K (.ref fTld) = true)
    (aNon : PySem.W.nsIn K mainGlobals "_law_none" = some (some (.ref fNon)))
    (lNon : K.lookup fNon = some ⟨ocNon, odNon, .func (PySem.W.fnOf "_law_none" "_law_none" (defArgs sNone) (defBody sNone) (defScope sNone) .none kVNon dcNon pmNon anNon cdNon ctNon), slNon⟩)
    (cNon : PySem.W.codeIn K cdNon "_law_none" = true)
    (kNon : PySem.W.keepIn K (.ref fNon) = true)
    (aSom : PySem.W.nsIn K mainGlobals "_law_some" = some (some (.ref fSom)))
    (lSom : K.lookup fSom = some ⟨ocSom, odSom, .func (PySem.W.fnOf "_law_some" "_law_some" (defArgs sSome) (defBody sSome) (defScope sSome) .none kVSom dcSom pmSom anSom cdSom ctSom), slSom⟩)
    (cSom : PySem.W.codeIn K cdSom "_law_some" = true)
    (kSom : PySem.W.keepIn K (.ref fSom) = true)
    (aAgn : PySem.W.nsIn K mainGlobals "_law_again" = some (some (.ref fAgn)))
    (lAgn : K.lookup fAgn = some ⟨ocAgn, odAgn, .func (PySem.W.fnOf "_law_again" "_law_again" (defArgs sAgain) (defBody sAgain) (defScope sAgain) .none kVAgn dcAgn pmAgn anAgn cdAgn ctAgn), slAgn⟩)
    (cAgn : PySem.W.codeIn K cdAgn "_law_again" = true)
    (kAgn : PySem.W.keepIn K (.ref fAgn) = true)
    (aOfL : PySem.W.nsIn K mainGlobals "_law_of_list" = some (some (.ref fOfL)))
    (lOfL : K.lookup fOfL = some ⟨ocOfL, odOfL, .func (PySem.W.fnOf "_law_of_list" "_law_of_list" (defArgs sOfL) (defBody sOfL) (defScope sOfL) .none kVOfL dcOfL pmOfL anOfL cdOfL ctOfL), slOfL⟩)
    (cOfL : PySem.W.codeIn K cdOfL "_law_of_list" = true)
    (kOfL : PySem.W.keepIn K (.ref fOfL) = true)
    (aDep : PySem.W.nsIn K mainGlobals "_law_deep" = some (some (.ref fDep)))
    (lDep : K.lookup fDep = some ⟨ocDep, odDep, .func (PySem.W.fnOf "_law_deep" "_law_deep" (defArgs sDeep) (defBody sDeep) (defScope sDeep) .none kVDep dcDep pmDep anDep cdDep ctDep), slDep⟩)
    (cDep : PySem.W.codeIn K cdDep "_law_deep" = true)
    (kDep : PySem.W.keepIn K (.ref fDep) = true)
    (aEdt : PySem.W.nsIn K mainGlobals "_law_edited" = some (some (.ref fEdt)))
    (lEdt : K.lookup fEdt = some ⟨ocEdt, odEdt, .func (PySem.W.fnOf "_law_edited" "_law_edited" (defArgs sEdit) (defBody sEdit) (defScope sEdit) .none kVEdt dcEdt pmEdt anEdt cdEdt ctEdt), slEdt⟩)
    (cEdt : PySem.W.codeIn K cdEdt "_law_edited" = true)
    (kEdt : PySem.W.keepIn K (.ref fEdt) = true)
    (aSam : PySem.W.nsIn K mainGlobals "_law_same" = some (some (.ref fSam)))
    (lSam : K.lookup fSam = some ⟨ocSam, odSam, .func (PySem.W.fnOf "_law_same" "_law_same" (defArgs sSame) (defBody sSame) (defScope sSame) .none kVSam dcSam pmSam anSam cdSam ctSam), slSam⟩)
    (cSam : PySem.W.codeIn K cdSam "_law_same" = true)
    (kSam : PySem.W.keepIn K (.ref fSam) = true)
    (aLaw : PySem.W.nsIn K mainGlobals "law" = some (some (.ref fLaw)))
    (lLaw : K.lookup fLaw = some ⟨ocLaw, odLaw, .func (PySem.W.fnOf "law" "law" (defArgs sLaw) (defBody sLaw) (defScope sLaw) .none kVLaw dcLaw pmLaw anLaw cdLaw ctLaw), slLaw⟩)
    (cLaw : PySem.W.codeIn K cdLaw "law" = true)
    (kLaw : PySem.W.keepIn K (.ref fLaw) = true)
    (pg : PySem.W.plainGet K C Str.empty = true)
    (hd : PySem.W.hasDictIn K C = true)
    (po : PySem.W.plainOver K C = true)
    (sa : PySem.W.findIn K (.ref C) "__setattr__" = some (some (.builtin "object.__setattr__")))
    (mk : PySem.W.makesIn K C = true)
    (kc : PySem.W.keepIn K (.ref C) = true)
    (nT : PySem.W.findIn K (.ref C) "text" = some none)
    (nA : PySem.W.findIn K (.ref C) "at" = some none)
    (z_len : PySem.W.nsIn K mainGlobals "len" = some none)
    (z_int : PySem.W.nsIn K mainGlobals "int" = some none)
    (z_isinstance : PySem.W.nsIn K mainGlobals "isinstance" = some none)
    (z_str : PySem.W.nsIn K mainGlobals "str" = some none)
    (z_list : PySem.W.nsIn K mainGlobals "list" = some none)
    (z_tuple : PySem.W.nsIn K mainGlobals "tuple" = some none)
    (z_dict : PySem.W.nsIn K mainGlobals "dict" = some none)
    (z_sorted : PySem.W.nsIn K mainGlobals "sorted" = some none)
    (z_range : PySem.W.nsIn K mainGlobals "range" = some none)
    (z_repr : PySem.W.nsIn K mainGlobals "repr" = some none)
    (z_abs : PySem.W.nsIn K mainGlobals "abs" = some none)
    (z_ValueError : PySem.W.nsIn K mainGlobals "ValueError" = some none)
    (gFig : PySem.W.nsIn K mainGlobals "FIGURES" = some (some (.str "0123456789" t1)))
    (gLet : PySem.W.nsIn K mainGlobals "LETTERS" = some (some (.str "abcdefghijklmnopqrstuvwxyz" t2)))
    (gMf : PySem.W.nsIn K mainGlobals "MOST_FIGURES" = some (some (.int 12 t3)))
    (gMl : PySem.W.nsIn K mainGlobals "MOST_LETTERS" = some (some (.int 8 t4)))
    (gMd : PySem.W.nsIn K mainGlobals "MOST_DEEP" = some (some (.int 40 t5)))
    (aNT : PySem.W.nsIn K mainGlobals "NoText" = some (some (.ref NT)))
    (aNB : PySem.W.nsIn K mainGlobals "NoBytes" = some (some (.ref NB)))
    (aNL : PySem.W.nsIn K mainGlobals "NoLayout" = some (some (.ref NL)))
    (aNF : PySem.W.nsIn K mainGlobals "NoFit" = some (some (.ref NF)))
    (aFE : PySem.W.nsIn K mainGlobals "FormError" = some (some (.ref FE)))
    (xN : PySem.W.excIn K NT [.type "ValueError", .type "Exception", .type "BaseException", .type "object"] "ValueError.__new__" = true)
    (kN : PySem.W.keepIn K (.ref NT) = true)
    (bN : PySem.W.subIn K (.ref NT) (.type "BaseException") = some true)
    (tN : PySem.W.typeIn K (.ref NT) = some (.type "type"))
    (exm : PySem.W.exmOne K (.ref NT) (.ref FE) = some true)
    (oB : PySem.W.kitOne K (.ref NT) (.ref NB) = some false)
    (oL : PySem.W.kitOne K (.ref NT) (.ref NL) = some false)
    (oF : PySem.W.kitOne K (.ref NT) (.ref NF) = some false)
    (oT : PySem.W.kitOne K (.ref NT) (.ref NT) = some true)
    (oV : PySem.W.kitOne K (.ref NT) (.type "ValueError") = some true)
    (xg : PySem.W.findIn K (.ref NT) "__getattribute__" = some (some (.builtin "BaseException.__getattribute__")))
    (xk : PySem.W.findIn K (.ref NT) "__getattr__" = some none)
    (xd : PySem.W.hasDictIn K NT = true)
    (xa : PySem.W.findIn K (.ref NT) "__class__" = some (some (.builtin "object.__class__")))
    (xn : PySem.W.specialIn K (.builtin "object.__class__") "__get__" = some (some (.builtin "getset_descriptor.__get__")))
    (xt : PySem.W.takesIn K (.builtin "object.__class__") = some true)
    (xm : PySem.W.mroIn K NT (.type "object") = some true) :
    ∃ fd : FuncData, (∀ (s : Shared) (v : Value), BindsTo s fd ⟨[v], []⟩ [("_law_script", v)]) ∧ ∀ base : Heap, K.In base → base.Ns mainGlobals mg → FnOk P w K mg base (L2.CX P w) 88 fa fd ["_law_script"] (spLaw K) := by
  have e := hfa.symm.trans (PySem.W.mg_of X G aLaw)
  cases e
  have FIni := fun_mk (st := sInit) lIni cIni kIni
  have bIni := FIni.binds (ps := ["self", "text"]) fun _ _ _ _ _ _ us hl => match us, hl with | [_, _], _ => rfl
  have FSee := fun_mk (st := sSees) lSee cSee kSee
  have bSee := FSee.binds (ps := ["self", "sign"]) fun _ _ _ _ _ _ us hl => match us, hl with | [_, _], _ => rfl
  have FWan := fun_mk (st := sWants) lWan cWan kWan
  have bWan := FWan.binds (ps := ["self", "sign"]) fun _ _ _ _ _ _ us hl => match us, hl with | [_, _], _ => rfl
  have FRun := fun_mk (st := sRun) lRun cRun kRun
  have bRun := FRun.binds (ps := ["self", "signs"]) fun _ _ _ _ _ _ us hl => match us, hl with | [_, _], _ => rfl
  have FNum := fun_mk (st := sNum) lNum cNum kNum
  have bNum := FNum.binds (ps := ["signs"]) fun _ _ _ _ _ _ us hl => match us, hl with | [_], _ => rfl
  have FQuo := fun_mk (st := sQuo) lQuo cQuo kQuo
  have bQuo := FQuo.binds (ps := ["signs"]) fun _ _ _ _ _ _ us hl => match us, hl with | [_], _ => rfl
  have FLst := fun_mk (st := sList) lLst cLst kLst
  have bLst := FLst.binds (ps := ["signs", "deep"]) fun _ _ _ _ _ _ us hl => match us, hl with | [_, _], _ => rfl
  have FNam := fun_mk (st := sName) lNam cNam kNam
  have bNam := FNam.binds (ps := ["signs"]) fun _ _ _ _ _ _ us hl => match us, hl with | [_], _ => rfl
  have FDct := fun_mk (st := sDict) lDct cDct kDct
  have bDct := FDct.binds (ps := ["signs", "deep"]) fun _ _ _ _ _ _ us hl => match us, hl with | [_, _], _ => rfl
  have FOpn := fun_mk (st := sOpens) lOpn cOpn kOpn
  have bOpn := FOpn.binds (ps := ["signs", "bracket", "deep"]) fun _ _ _ _ _ _ us hl => match us, hl with | [_, _, _], _ => rfl
  have FVal := fun_mk (st := sVal) lVal cVal kVal
  have bVal := FVal.binds (ps := ["signs", "deep"]) fun _ _ _ _ _ _ us hl => match us, hl with | [_, _], _ => rfl
  have FOf := fun_mk (st := sOf) lOf cOf kOf
  have bOf := FOf.binds (ps := ["text"]) fun _ _ _ _ _ _ us hl => match us, hl with | [_], _ => rfl
  have FCel := fun_mk (st := sCell) lCel cCel kCel
  have bCel := FCel.binds (ps := ["_law_script", "_law_k"]) fun _ _ _ _ _ _ us hl => match us, hl with | [_, _], _ => rfl
  have FNxt := fun_mk (st := sNext) lNxt cNxt kNxt
  have bNxt := FNxt.binds (ps := ["_law_state_here"]) fun _ _ _ _ _ _ us hl => match us, hl with | [_], _ => rfl
  have FSta := fun_mk (st := sState) lSta cSta kSta
  have bSta := FSta.binds (ps := ["_law_script", "_law_first"]) fun _ _ _ _ _ _ us hl => match us, hl with | [_, _], _ => rfl
  have FOfS := fun_mk (st := sOfS) lOfS cOfS kOfS
  have bOfS := FOfS.binds (ps := ["_law_state_here", "_law_some_here"]) fun _ _ _ _ _ _ us hl => match us, hl with | [_, _], _ => rfl
  have FTld := fun_mk (st := sTold) lTld cTld kTld
  have bTld := FTld.binds (ps := ["_law_text"]) fun _ _ _ _ _ _ us hl => match us, hl with | [_], _ => rfl
  have FNon := fun_mk (st := sNone) lNon cNon kNon
  have bNon := FNon.binds (ps := []) fun _ _ _ _ _ _ us hl => match us, hl with | [], _ => rfl
  have FSom := fun_mk (st := sSome) lSom cSom kSom
  have bSom := FSom.binds (ps := []) fun _ _ _ _ _ _ us hl => match us, hl with | [], _ => rfl
  have FAgn := fun_mk (st := sAgain) lAgn cAgn kAgn
  have bAgn := FAgn.binds (ps := ["_law_value"]) fun _ _ _ _ _ _ us hl => match us, hl with | [_], _ => rfl
  have FOfL := fun_mk (st := sOfL) lOfL cOfL kOfL
  have bOfL := FOfL.binds (ps := ["_law_some_here", "_law_cell"]) fun _ _ _ _ _ _ us hl => match us, hl with | [_, _], _ => rfl
  have FDep := fun_mk (st := sDeep) lDep cDep kDep
  have bDep := FDep.binds (ps := ["_law_cell"]) fun _ _ _ _ _ _ us hl => match us, hl with | [_], _ => rfl
  have FEdt := fun_mk (st := sEdit) lEdt cEdt kEdt
  have bEdt := FEdt.binds (ps := ["_law_state_here"]) fun _ _ _ _ _ _ us hl => match us, hl with | [_], _ => rfl
  have FSam := fun_mk (st := sSame) lSam cSam kSam
  have bSam := FSam.binds (ps := ["_law_found", "_law_due"]) fun _ _ _ _ _ _ us hl => match us, hl with | [_, _], _ => rfl
  have FLaw := fun_mk (st := sLaw) lLaw cLaw kLaw
  have bLaw := FLaw.binds (ps := ["_law_script"]) fun _ _ _ _ _ _ us hl => match us, hl with | [_], _ => rfl
  have mNum := PySem.W.mg_of X G aNum
  have mQuo := PySem.W.mg_of X G aQuo
  have mLst := PySem.W.mg_of X G aLst
  have mNam := PySem.W.mg_of X G aNam
  have mDct := PySem.W.mg_of X G aDct
  have mOpn := PySem.W.mg_of X G aOpn
  have mVal := PySem.W.mg_of X G aVal
  have mOf := PySem.W.mg_of X G aOf
  have mCel := PySem.W.mg_of X G aCel
  have mNxt := PySem.W.mg_of X G aNxt
  have mSta := PySem.W.mg_of X G aSta
  have mOfS := PySem.W.mg_of X G aOfS
  have mTld := PySem.W.mg_of X G aTld
  have mNon := PySem.W.mg_of X G aNon
  have mSom := PySem.W.mg_of X G aSom
  have mAgn := PySem.W.mg_of X G aAgn
  have mOfL := PySem.W.mg_of X G aOfL
  have mDep := PySem.W.mg_of X G aDep
  have mEdt := PySem.W.mg_of X G aEdt
  have mSam := PySem.W.mg_of X G aSam
  have mLaw := PySem.W.mg_of X G aLaw
  have y_len := PySem.W.mg_none_of X G z_len
  have y_int := PySem.W.mg_none_of X G z_int
  have y_isinstance := PySem.W.mg_none_of X G z_isinstance
  have y_str := PySem.W.mg_none_of X G z_str
  have y_list := PySem.W.mg_none_of X G z_list
  have y_tuple := PySem.W.mg_none_of X G z_tuple
  have y_dict := PySem.W.mg_none_of X G z_dict
  have y_sorted := PySem.W.mg_none_of X G z_sorted
  have y_range := PySem.W.mg_none_of X G z_range
  have y_repr := PySem.W.mg_none_of X G z_repr
  have y_abs := PySem.W.mg_none_of X G z_abs
  have y_ValueError := PySem.W.mg_none_of X G z_ValueError
  have T : Txt K mg C := ⟨⟨pg, hd, po, sa⟩, nT, nA, y_len⟩
  have N : TxtN K mg NT := ⟨PySem.W.mg_of X G aNT, xN, kN, bN, tN⟩
  have GG : TxtG mg := ⟨⟨_, PySem.W.mg_of X G gFig⟩, ⟨_, PySem.W.mg_of X G gLet⟩, ⟨_, PySem.W.mg_of X G gMf⟩, ⟨_, PySem.W.mg_of X G gMl⟩, ⟨_, PySem.W.mg_of X G gMd⟩⟩
  have EE : TxtE K mg NT NB NL NF FE := ⟨PySem.W.mg_of X G aNB, PySem.W.mg_of X G aNL, PySem.W.mg_of X G aNF, PySem.W.mg_of X G aFE, exm, oB, oL, oF, oT, oV, ⟨xg, xk, bN, xd, xa, xn, xt, xm⟩⟩
  have MS : Meth K C "sees" fSee := ⟨aSee, iSee, kSee⟩
  have Z : Std K mg fLst fDct fVal fNam _ _ _ _ := ⟨FLst, mLst, bLst, FDct, mDct, bDct, FVal, mVal, bVal, FNam, mNam, bNam⟩
  refine ⟨PySem.W.fnOf "law" "law" (defArgs sLaw) (defBody sLaw) (defScope sLaw) .none kVLaw dcLaw pmLaw anLaw cdLaw ctLaw, fun s v => .of_eq rfl, fun base _ _ => ?_⟩
  have gSee := ok_sees (P := P) (w := w) (base := base) FSee T
  have M : Mths P w K mg base C NT fSee fWan fRun _ _ _ := ⟨MS, ⟨aWan, iWan, kWan⟩, ⟨aRun, iRun, kRun⟩, bSee, bWan, bRun, gSee, ok_wants FWan T N gSee MS bSee, ok_run FRun T gSee MS bSee⟩
  have D : Defs P w K mg base C NT fNum fOpn fQuo _ _ _ := ⟨ok_num FNum T N GG y_int M, mNum, kNum, bNum, ok_opens FOpn T N GG M, mOpn, kOpn, bOpn, ok_quo FQuo T N, mQuo, kQuo, bQuo⟩
  have gOf := ok_of FOf T N GG M D Z y_isinstance y_str (PySem.W.mg_of X G aC) ⟨mk, aIni, iIni, kc⟩ (ok_init FIni T) bIni
  have gTld := ok_told FTld N EE y_isinstance y_ValueError gOf mOf kOf bOf
  have gCel := ok_cell (P := P) (w := w) (base := base) FCel y_len
  have gNxt := ok_next (P := P) (w := w) (mg := mg) (base := base) FNxt
  have gSta := ok_state FSta y_abs gCel mCel kCel bCel
  have gOfS := ok_ofS FOfS y_len gNxt mNxt kNxt bNxt
  have gEdt := ok_edit FEdt y_len gNxt mNxt kNxt bNxt gOfS mOfS kOfS bOfS
  have gAgn := (all_again (P := P) (w := w) (base := base) FAgn ⟨y_isinstance, y_str, y_list, y_tuple, y_dict⟩ mAgn bAgn 8).1
  have gSam := all_same (P := P) (w := w) (base := base) FSam ⟨y_isinstance, y_list, y_tuple, y_dict, y_sorted, y_len, y_range, y_repr⟩ mSam bSam 8
  exact ok_law (NT := NT) FLaw y_range y_len ⟨_, _, gCel, mCel, kCel, bCel⟩ ⟨_, _, ok_deep FDep gTld mTld kTld bTld, mDep, kDep, bDep⟩ ⟨_, _, gTld, mTld, kTld, bTld⟩ ⟨_, _, ok_ofL FOfL y_len, mOfL, kOfL, bOfL⟩
    ⟨_, _, ok_none FNon, mNon, kNon, bNon⟩ ⟨_, _, ok_some FSom, mSom, kSom, bSom⟩ ⟨_, _, gSam, mSam, kSam, bSam⟩ ⟨_, _, gEdt, mEdt, kEdt, bEdt⟩ ⟨_, _, gSta, mSta, kSta, bSta⟩ ⟨_, _, gAgn, mAgn, kAgn, bAgn⟩ ⟨_, _, gOf, mOf, kOf, bOf⟩
theorem walk_k91 {l : PySem.W.OpenLaw} {q : Program} {loose : List Str} {XP : (Str → Option Value) → Heap → Prop} {YP : World → Heap → Prop} {d : DefRec} {K : Params → PySem.W.Frag} (hn : l.most = some 63) (hdf : d.params.defaults = [])
    (hY : ∀ (w : World) (h : Heap), YP w h → (K w.params).In h)
    (F : ∀ (w : World) (mg : Str → Option Value) (fa : Addr) (h : Heap), (K w.params).In h → h.Ns mainGlobals mg → mg d.name = some (.ref fa) → ∃ fd : FuncData, (∀ (s : Shared) (u : Value), BindsTo s fd ⟨[u], []⟩ [("_law_script", u)]) ∧
      ∀ base : Heap, (K w.params).In base → base.Ns mainGlobals mg → FnOk l.prog w (K w.params) mg base (L2.CX l.prog w) 88 fa fd ["_law_script"] (spLaw (K w.params))) :
    PySem.W.WalkO q loose XP YP l.row.toRowW d [] (fun f vs => PySem.call f vs) :=
  L2.walk_of (n := 63) (k := 88) (x := "_law_script") (CX := fun w => L2.CX l.prog w) (sp := fun w => spLaw (K w.params)) hn (by decide) hdf ⟨rfl, by decide, by decide⟩ hY F (fun _ _ a ns _ _ hS => ⟨a, ns, rfl, hS, fun _ => rfl⟩)
    fun _ _ _ _ _ ⟨_, _, _, _, _, _, _, _, _, _, _, _, z⟩ => z
end K91

open PySem PySem.W PyProof.Rows
set_option maxRecDepth 100000 in
set_option maxHeartbeats 0 in
theorem PySem.Challenge.cw_formkeep_k91_texts_of_no_value_holds : PySem.Challenge.rw_formkeep_k91_texts_of_no_value.Holds := by
  w_on; o_law; k_head; (case hw => w_witness2)
  k_fill
  refine K91.walk_k91 (l := PySem.Challenge.rw_formkeep_k91_texts_of_no_value) rfl rfl (fun w h Y => PySem.W.kIn_of Y) ?F
  case F =>
    intro w mg fa h KX G hmg
    refine' K91.all_mk KX G hmg ?aC ?aIni ?iIni ?lIni ?cIni ?kIni ?aSee ?iSee ?lSee ?cSee ?kSee ?aWan ?iWan ?lWan ?cWan ?kWan ?aRun ?iRun ?lRun ?cRun ?kRun ?aNum ?lNum ?cNum ?kNum ?aQuo ?lQuo ?cQuo ?kQuo ?aLst ?lLst ?cLst ?kLst ?aNam ?lNam ?cNam ?kNam ?aDct ?lDct ?cDct ?kDct ?aOpn ?lOpn ?cOpn ?kOpn ?aVal ?lVal ?cVal ?kVal ?aOf ?lOf ?cOf ?kOf ?aCel ?lCel ?cCel ?kCel ?aNxt ?lNxt ?cNxt ?kNxt ?aSta ?lSta ?cSta ?kSta ?aOfS ?lOfS ?cOfS ?kOfS ?aTld ?lTld ?cTld ?kTld ?aNon ?lNon ?cNon ?kNon ?aSom ?lSom ?cSom ?kSom ?aAgn ?lAgn ?cAgn ?kAgn ?aOfL ?lOfL ?cOfL ?kOfL ?aDep ?lDep ?cDep ?kDep ?aEdt ?lEdt ?cEdt ?kEdt ?aSam ?lSam ?cSam ?kSam ?aLaw ?lLaw ?cLaw ?kLaw ?pg ?hd ?po ?sa ?mk ?kc ?nT ?nA ?z_len ?z_int ?z_isinstance ?z_str ?z_list ?z_tuple ?z_dict ?z_sorted ?z_range ?z_repr ?z_abs ?z_ValueError ?gFig ?gLet ?gMf ?gMl ?gMd ?aNT ?aNB ?aNL ?aNF ?aFE ?xN ?kN ?bN ?tN ?exm ?oB ?oL ?oF ?oT ?oV ?xg ?xk ?xd ?xa ?xn ?xt ?xm
    (case aC => k_is); (case aIni => k_is); (case iIni => k_is); (case lIni => k_is); (case cIni => k_is)
    (case kIni => k_is); (case aSee => k_is); (case iSee => k_is); (case lSee => k_is); (case cSee => k_is)
    (case kSee => k_is); (case aWan => k_is); (case iWan => k_is); (case lWan => k_is); (case cWan => k_is)
    (case kWan => k_is); (case aRun => k_is); (case iRun => k_is); (case lRun => k_is); (case cRun => k_is)
    (case kRun => k_is); (case aNum => k_is); (case lNum => k_is); (case cNum => k_is); (case kNum => k_is)
    (case aQuo => k_is); (case lQuo => k_is); (case cQuo => k_is); (case kQuo => k_is); (case aLst => k_is)
    (case lLst => k_is); (case cLst => k_is); (case kLst => k_is); (case aNam => k_is); (case lNam => k_is)
    (case cNam => k_is); (case kNam => k_is); (case aDct => k_is); (case lDct => k_is); (case cDct => k_is)
    (case kDct => k_is); (case aOpn => k_is); (case lOpn => k_is); (case cOpn => k_is); (case kOpn => k_is)
    (case aVal => k_is); (case lVal => k_is); (case cVal => k_is); (case kVal => k_is); (case aOf => k_is)
    (case lOf => k_is); (case cOf => k_is); (case kOf => k_is); (case aCel => k_is); (case lCel => k_is)
    (case cCel => k_is); (case kCel => k_is); (case aNxt => k_is); (case lNxt => k_is); (case cNxt => k_is)
    (case kNxt => k_is); (case aSta => k_is); (case lSta => k_is); (case cSta => k_is); (case kSta => k_is)
    (case aOfS => k_is); (case lOfS => k_is); (case cOfS => k_is); (case kOfS => k_is); (case aTld => k_is)
    (case lTld => k_is); (case cTld => k_is); (case kTld => k_is); (case aNon => k_is); (case lNon => k_is)
    (case cNon => k_is); (case kNon => k_is); (case aSom => k_is); (case lSom => k_is); (case cSom => k_is)
    (case kSom => k_is); (case aAgn => k_is); (case lAgn => k_is); (case cAgn => k_is); (case kAgn => k_is)
    (case aOfL => k_is); (case lOfL => k_is); (case cOfL => k_is); (case kOfL => k_is); (case aDep => k_is)
    (case lDep => k_is); (case cDep => k_is); (case kDep => k_is); (case aEdt => k_is); (case lEdt => k_is)
    (case cEdt => k_is); (case kEdt => k_is); (case aSam => k_is); (case lSam => k_is); (case cSam => k_is)
    (case kSam => k_is); (case aLaw => k_is); (case lLaw => k_is); (case cLaw => k_is); (case kLaw => k_is)
    (case pg => k_is); (case hd => k_is); (case po => k_is); (case sa => k_is); (case mk => k_is)
    (case kc => k_is); (case nT => k_is); (case nA => k_is); (case z_len => k_is); (case z_int => k_is)
    (case z_isinstance => k_is); (case z_str => k_is); (case z_list => k_is); (case z_tuple => k_is); (case z_dict => k_is)
    (case z_sorted => k_is); (case z_range => k_is); (case z_repr => k_is); (case z_abs => k_is); (case z_ValueError => k_is)
    (case gFig => k_is); (case gLet => k_is); (case gMf => k_is); (case gMl => k_is); (case gMd => k_is)
    (case aNT => k_is); (case aNB => k_is); (case aNL => k_is); (case aNF => k_is); (case aFE => k_is)
    (case xN => k_exc); (case kN => k_is); (case bN => k_is); (case tN => k_is); (case exm => kts_exm)
    (case oB => kit_is); (case oL => kit_is); (case oF => kit_is); (case oT => kit_is); (case oV => kit_is)
    (case xg => k_is); (case xk => k_is); (case xd => k_is); (case xa => k_is); (case xn => k_is)
    (case xt => k_is); (case xm => k_is)
