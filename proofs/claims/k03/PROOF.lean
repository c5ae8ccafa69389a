import PyProof.Rows.All
import Wide.All
import OpenK.AllK
import Wide.FinOn
import HandS.ForMost
import HandS.TupAny
import HandS.TupMul
import HandS.TupLe
import HandS.IsInst
import HandS.Deep
import HandS.More
import HandS.Style
import KE.SortData
import KE.DataCmp
import HandS.Strs
import HandS.SetFor
import HandS.TupSets
import HandS.StrMore
import HandS.Conv
import HandS.WordsDict
import HandS.Small
import HandS.TupLen
import HandS.Iter
import PyProof.CollectStr
import PyProof.ListRange
import HandS.Replace
import PySem.Challenge.RW_spansure_k03_whole_compositions
set_option Elab.async false
set_option linter.all false
set_option maxRecDepth 100000
section
set_option autoImplicit false
set_option linter.all false
namespace XL
/-- plain data: None, truths, ints, texts (their codes), tuples, lists that nobody changes -/
inductive P where
  | non
  | bl (b : Bool)
  | int (i : Int)
  | str (s : List Nat)
  | tup (ds : List P)
  | lst (ds : List P)
mutual
def P.beq : P → P → Bool
  | .non, .non => true
  | .bl a, .bl b => a == b
  | .int i, .int j => decide (i = j)
  | .str s, .str t => decide (s = t)
  | .tup xs, .tup ys => P.beqs xs ys
  | .lst xs, .lst ys => P.beqs xs ys
  | _, _ => false
def P.beqs : List P → List P → Bool
  | [], [] => true
  | x :: xs, y :: ys => P.beq x y && P.beqs xs ys
  | _, _ => false
end
mutual
theorem P.beq_eq : ∀ (a b : P), P.beq a b = true → a = b
  | .non, b, h => by cases b <;> simp_all [P.beq]
  | .bl x, b, h => by cases b <;> simp_all [P.beq]
  | .int x, b, h => by cases b <;> simp_all [P.beq]
  | .str x, b, h => by cases b <;> simp_all [P.beq]
  | .tup xs, b, h => by
    cases b <;> simp [P.beq] at h
    rename_i ys
    rw [P.beqs_eq xs ys h]
  | .lst xs, b, h => by
    cases b <;> simp [P.beq] at h
    rename_i ys
    rw [P.beqs_eq xs ys h]
theorem P.beqs_eq : ∀ (a b : List P), P.beqs a b = true → a = b
  | [], b, h => by cases b <;> simp_all [P.beqs]
  | x :: xs, b, h => by
    cases b with
    | nil => simp [P.beqs] at h
    | cons y ys =>
      simp [P.beqs] at h
      rw [P.beq_eq x y h.1, P.beqs_eq xs ys h.2]
end
mutual
theorem P.beq_refl : ∀ (a : P), P.beq a a = true
  | .non => by simp [P.beq]
  | .bl x => by simp [P.beq]
  | .int x => by simp [P.beq]
  | .str x => by simp [P.beq]
  | .tup xs => by simp [P.beq, P.beqs_refl xs]
  | .lst xs => by simp [P.beq, P.beqs_refl xs]
theorem P.beqs_refl : ∀ (a : List P), P.beqs a a = true
  | [] => by simp [P.beqs]
  | x :: xs => by simp [P.beqs, P.beq_refl x, P.beqs_refl xs]
end
instance : DecidableEq P := fun a b => if h : P.beq a b = true then .isTrue (P.beq_eq a b h) else .isFalse fun e => h (e ▸ P.beq_refl a)

/-- depth at most n, codes of texts in range -/
def P.fit : Nat → P → Bool
  | _, .non => true
  | _, .bl _ => true
  | _, .int _ => true
  | _, .str s => s.all fun c => decide (c < 1114112)
  | 0, .tup _ => false
  | n + 1, .tup ds => ds.all (P.fit n)
  | 0, .lst _ => false
  | n + 1, .lst ds => ds.all (P.fit n)

/-! Python: a == b -/
mutual
def P.pyeq : P → P → Bool
  | .non, .non => true
  | .bl a, .bl b => a == b
  | .bl a, .int j => decide ((if a then 1 else 0) = j)
  | .int i, .bl b => decide (i = (if b then 1 else 0))
  | .int i, .int j => decide (i = j)
  | .str s, .str t => decide (s = t)
  | .tup xs, .tup ys => P.pyeqs xs ys
  | .lst xs, .lst ys => P.pyeqs xs ys
  | _, _ => false
def P.pyeqs : List P → List P → Bool
  | [], [] => true
  | x :: xs, y :: ys => P.pyeq x y && P.pyeqs xs ys
  | _, _ => false
end

/-- what a variable holds -/
inductive D where
  | p (d : P)
  | ref (l : Nat)
deriving DecidableEq
/-- what stands in a cell -/
inductive Cell where
  | lst (ds : List P)
  | dct (lk t : Bool) (kvs : List (P × P))
deriving DecidableEq
/-- what an expression gives: data, a cell, a new list, a new dict -/
inductive R where
  | p (d : P)
  | ref (l : Nat)
  | frl (ds : List P)
  | frd (t : Bool) (kvs : List (P × P))
deriving DecidableEq
abbrev Env := List (Option D)
abbrev Sto := List Cell
abbrev XE := Env → Sto → Option (R × Sto)
abbrev XT := Env → Sto → Option (Bool × Sto)
abbrev XA := Env → Sto → Option (List R × Sto)
abbrev XI := Env → Sto → Option (List P × Option Nat × Sto)
abbrev XF := List D → Sto → Option (R × Sto)
inductive Fl where
  | nx (ρ : Env)
  | rt (r : R)
  | bk (ρ : Env)
  | ct (ρ : Env)
abbrev XS := Env → Sto → Option (Fl × Sto)

/-- what is read now -/
def R.rd (S : Sto) : R → Option P
  | .p d => some d
  | .ref l => match S[l]? with
    | some (.lst ds) => some (.lst ds)
    | _ => none
  | .frl ds => some (.lst ds)
  | .frd _ _ => none
/-- what may be put into a tuple or list -/
def R.fz : R → Option P
  | .p d => some d
  | .frl ds => some (.lst ds)
  | _ => none
/-- the most items of a list -/
abbrev big : Nat := 1000000

/-! ### expressions -/
def xVar (i : Nat) : XE := fun ρ S => match ρ[i]? with
  | some (some (.p d)) => some (.p d, S)
  | some (some (.ref l)) => some (.ref l, S)
  | _ => none
def xC (d : P) : XE := fun _ S => some (.p d, S)
def xBin (f : P → P → Option R) (a b : XE) : XE := fun ρ S =>
  (a ρ S).bind fun x => (b ρ x.2).bind fun y => (x.1.rd y.2).bind fun p => (y.1.rd y.2).bind fun q => (f p q).map fun r => (r, y.2)
def xUn (f : P → Option R) (a : XE) : XE := fun ρ S => (a ρ S).bind fun x => (x.1.rd x.2).bind fun p => (f p).map fun r => (r, x.2)
/-- a op b op' c, b once -/
def xChain (f g : P → P → Option R) (a b c : XE) : XE := fun ρ S =>
  (a ρ S).bind fun x => (b ρ x.2).bind fun y => (x.1.rd y.2).bind fun p => (y.1.rd y.2).bind fun q => (f p q).bind fun r => match r with
    | .p (.bl true) => (c ρ y.2).bind fun z => (y.1.rd z.2).bind fun q => (z.1.rd z.2).bind fun w => (g q w).map fun r => (r, z.2)
    | .p (.bl false) => some (.p (.bl false), y.2)
    | _ => none
def xAnd (a b : XE) : XE := fun ρ S => (a ρ S).bind fun x => match x.1 with
  | .p (.bl true) => b ρ x.2
  | .p (.bl false) => some (.p (.bl false), x.2)
  | _ => none
def xOr (a b : XE) : XE := fun ρ S => (a ρ S).bind fun x => match x.1 with
  | .p (.bl true) => some (.p (.bl true), x.2)
  | .p (.bl false) => b ρ x.2
  | _ => none
def xNot (a : XE) : XE := fun ρ S => (a ρ S).bind fun x => match x.1 with
  | .p (.bl c) => some (.p (.bl (!c)), x.2)
  | _ => none
def xIf (t : XT) (a b : XE) : XE := fun ρ S => (t ρ S).bind fun x => if x.1 then a ρ x.2 else b ρ x.2
/-- tests -/
def xB (a : XE) : XT := fun ρ S => (a ρ S).bind fun x => match x.1 with
  | .p (.bl c) => some (c, x.2)
  | _ => none
def xTand (a b : XT) : XT := fun ρ S => (a ρ S).bind fun x => if x.1 then b ρ x.2 else some (false, x.2)
def xTor (a b : XT) : XT := fun ρ S => (a ρ S).bind fun x => if x.1 then some (true, x.2) else b ρ x.2
def xTnot (a : XT) : XT := fun ρ S => (a ρ S).map fun x => (!x.1, x.2)
def xTyes : XT := fun _ S => some (true, S)
/-- arguments from the left -/
def xNil : XA := fun _ S => some ([], S)
def xCons (a : XE) (r : XA) : XA := fun ρ S => (a ρ S).bind fun x => (r ρ x.2).map fun y => (x.1 :: y.1, y.2)
def fzs : List R → Option (List P)
  | [] => some []
  | r :: rs => (r.fz).bind fun d => (fzs rs).map fun ds => d :: ds
def rds (S : Sto) : List R → Option (List P)
  | [] => some []
  | r :: rs => (r.rd S).bind fun d => (rds S rs).map fun ds => d :: ds
def xTup (a : XA) : XE := fun ρ S => (a ρ S).bind fun x => (fzs x.1).bind fun ds => if ds.length ≤ big then some (.p (.tup ds), x.2) else none
def xLst (a : XA) : XE := fun ρ S => (a ρ S).bind fun x => (fzs x.1).bind fun ds => if ds.length ≤ big then some (.frl ds, x.2) else none
/-- a built-in by values that are read -/
def xCall (f : List P → Option R) (a : XA) : XE := fun ρ S => (a ρ S).bind fun x => (rds x.2 x.1).bind fun ds => (f ds).map fun r => (r, x.2)
/-- a new thing becomes a cell -/
def R.box (S : Sto) : R → D × Sto
  | .p d => (.p d, S)
  | .ref l => (.ref l, S)
  | .frl ds => (.ref S.length, S ++ [.lst ds])
  | .frd t kvs => (.ref S.length, S ++ [.dct false t kvs])
/-- what is handed to a def: a new list as data, a new dict as a cell -/
def R.arg (S : Sto) : R → D × Sto
  | .frl ds => (.p (.lst ds), S)
  | r => r.box S
abbrev XD := Env → Sto → Option (List D × Sto)
def xNilD : XD := fun _ S => some ([], S)
def xConsB (a : XE) (r : XD) : XD := fun ρ S => (a ρ S).bind fun x => (r ρ (x.1.box x.2).2).map fun y => ((x.1.box x.2).1 :: y.1, y.2)
def xConsD (a : XE) (r : XD) : XD := fun ρ S => (a ρ S).bind fun x => (r ρ (x.1.arg x.2).2).map fun y => ((x.1.arg x.2).1 :: y.1, y.2)
def xDef (f : XF) (a : XD) : XE := fun ρ S => (a ρ S).bind fun x => f x.1 x.2

/-! ### statements -/
/-- x = r -/
def xSet (i : Nat) (a : XE) : XS := fun ρ S => (a ρ S).map fun x => (.nx (ρ.set i (some (x.1.box x.2).1)), (x.1.box x.2).2)
/-- names of a target: one, or a flat tuple -/
inductive Tg where
  | nm (i : Nat)
  | tp (is : List Nat)
def setAll : List Nat → List P → Env → Option Env
  | [], [], ρ => some ρ
  | i :: is, d :: ds, ρ => setAll is ds (ρ.set i (some (.p d)))
  | _, _, _ => none
def Tg.put (t : Tg) (d : P) (ρ : Env) : Option Env := match t with
  | .nm i => some (ρ.set i (some (.p d)))
  | .tp is => match d with
    | .tup ds => setAll is ds ρ
    | _ => none
def xUnp (is : List Nat) (a : XE) : XS := fun ρ S => (a ρ S).bind fun x => (x.1.rd x.2).bind fun d => ((Tg.tp is).put d ρ).map fun ρ' => (.nx ρ', x.2)
/-- a, b = e1, e2 -/
def setAllD : List Nat → List D → Env → Option Env
  | [], [], ρ => some ρ
  | i :: is, d :: ds, ρ => setAllD is ds (ρ.set i (some d))
  | _, _, _ => none
def xPar (is : List Nat) (a : XD) : XS := fun ρ S => (a ρ S).bind fun x => (setAllD is x.1 ρ).map fun ρ' => (.nx ρ', x.2)
def xDrop (a : XE) : XS := fun ρ S => (a ρ S).map fun x => (.nx ρ, x.2)
def xRet (a : XE) : XS := fun ρ S => (a ρ S).map fun x => (.rt x.1, x.2)
def xRetN : XS := fun _ S => some (.rt (.p .non), S)
def xPass : XS := fun ρ S => some (.nx ρ, S)
def xSeq (a b : XS) : XS := fun ρ S => (a ρ S).bind fun x => match x.1 with
  | .nx ρ' => b ρ' x.2
  | fl => some (fl, x.2)
def xIfS (t : XT) (a b : XS) : XS := fun ρ S => (t ρ S).bind fun x => if x.1 then a ρ x.2 else b ρ x.2
/-- a statement that is never reached -/
def xNever : XS := fun _ _ => none

/-! ### what is dropped behind a turn: the cells made in it that no slot holds -/
def slotRefs (n0 : Nat) : Env → List Nat
  | [] => []
  | some (.ref l) :: ρ => if n0 ≤ l ∧ l ∉ slotRefs n0 ρ then l :: slotRefs n0 ρ else slotRefs n0 ρ
  | _ :: ρ => slotRefs n0 ρ
def renRef (n0 : Nat) (ks : List Nat) (l : Nat) : Nat := if l < n0 then l else n0 + ks.idxOf l
def renSlot (n0 : Nat) (ks : List Nat) : Option D → Option D
  | some (.ref l) => some (.ref (renRef n0 ks l))
  | x => x
def keptCells (S : Sto) (ks : List Nat) : Sto := ks.map fun k => S.getD k (.lst [])
def gc (n0 : Nat) (ρ : Env) (S : Sto) : Env × Sto :=
  if S.length ≤ n0 then (ρ, S) else
  let ks := slotRefs n0 ρ
  (ρ.map (renSlot n0 ks), S.take n0 ++ keptCells S ks)

/-! ### loops -/
def cellOk (l : Option Nat) (S0 S : Sto) : Bool := match l with
  | none => true
  | some l => decide (S[l]? = S0[l]?)
def forGo (n0 : Nat) (l : Option Nat) (S0 : Sto) (t : Tg) (b : XS) : List P → Env → Sto → Option (Fl × Sto)
  | [], ρ, S => some (.nx ρ, S)
  | d :: ds, ρ, S => (t.put d ρ).bind fun ρ1 => (b ρ1 S).bind fun x => match x.1 with
    | .nx ρ2 => let y := gc n0 ρ2 x.2; if cellOk l S0 y.2 then forGo n0 l S0 t b ds y.1 y.2 else none
    | .ct ρ2 => let y := gc n0 ρ2 x.2; if cellOk l S0 y.2 then forGo n0 l S0 t b ds y.1 y.2 else none
    | .bk ρ2 => some (.nx ρ2, x.2)
    | .rt r => some (.rt r, x.2)
def xFor (it : XI) (t : Tg) (b : XS) : XS := fun ρ S => (it ρ S).bind fun x => forGo x.2.2.length x.2.1 x.2.2 t b x.1 ρ x.2.2
def whGo (n0 : Nat) (t : XT) (b : XS) : Nat → Env → Sto → Option (Fl × Sto)
  | 0, _, _ => none
  | n + 1, ρ, S => (t ρ S).bind fun x => if x.1 then (b ρ x.2).bind fun y => match y.1 with
      | .nx ρ2 => let z := gc n0 ρ2 y.2; whGo n0 t b n z.1 z.2
      | .ct ρ2 => let z := gc n0 ρ2 y.2; whGo n0 t b n z.1 z.2
      | .bk ρ2 => some (.nx ρ2, y.2)
      | .rt r => some (.rt r, y.2)
    else some (.nx ρ, x.2)
/-- while, at most n turns -/
def xWhile (n : Nat) (t : XT) (b : XS) : XS := fun ρ S => whGo S.length t b n ρ S
/-- what is walked: a list (a cell's too), a tuple; a text; a range -/
def xIt (a : XE) : XI := fun ρ S => (a ρ S).bind fun x => match x.1 with
  | .p (.lst ds) => some (ds, none, x.2)
  | .p (.tup ds) => some (ds, none, x.2)
  | .frl ds => some (ds, none, x.2)
  | .ref l => match x.2[l]? with
    | some (.lst ds) => some (ds, some l, x.2)
    | _ => none
  | _ => none
def xItS (a : XE) : XI := fun ρ S => (a ρ S).bind fun x => match x.1 with
  | .p (.str s) => some (s.map fun c => .str [c], none, x.2)
  | _ => none
def intsFrom (lo : Int) : Nat → List P
  | 0 => []
  | n + 1 => .int lo :: intsFrom (lo + 1) n
def xRng1 (a : XE) : XI := fun ρ S => (a ρ S).bind fun x => match x.1 with
  | .p (.int j) => if j ≤ 1000000 ∧ -1000000 ≤ j then some (intsFrom 0 j.toNat, none, x.2) else none
  | _ => none
def xRng2 (a b : XE) : XI := fun ρ S => (a ρ S).bind fun x => (b ρ x.2).bind fun y => match x.1, y.1 with
  | .p (.int i), .p (.int j) => if j ≤ 1000000 ∧ -1000000 ≤ i ∧ i ≤ 1000000 ∧ -1000000 ≤ j then some (intsFrom i (j - i).toNat, none, y.2) else none
  | _, _ => none
/-- the comprehension's own slots forgotten -/
def wipeE (ρ : Env) : List Nat → Env
  | [] => ρ
  | v :: vs => (wipeE ρ vs).set v none
def lcGo (l : Option Nat) (S0 : Sto) (t : Tg) (c : XT) (e : XE) (ρ : Env) : List P → List P → Sto → Option (List P × Sto)
  | [], acc, S => some (acc, S)
  | d :: ds, acc, S => (t.put d ρ).bind fun ρ1 => (c ρ1 S).bind fun x => if x.1 then
      (e ρ1 x.2).bind fun y => (y.1.fz).bind fun v => if acc.length < big ∧ cellOk l S0 y.2 then lcGo l S0 t c e ρ ds (acc ++ [v]) y.2 else none
    else if cellOk l S0 x.2 then lcGo l S0 t c e ρ ds acc x.2 else none
def xLc (it : XI) (t : Tg) (c : XT) (e : XE) (vs : List Nat) : XE := fun ρ S => (it ρ S).bind fun x =>
  (lcGo x.2.1 x.2.2 t c e (wipeE ρ vs) x.1 [] x.2.2).map fun y => (.frl y.1, y.2)
/-- two fors: the inner one over its own source, again and again -/
def lc2In (l : Option Nat) (S0 : Sto) (t : Tg) (c : XT) (e : XE) (ρ : Env) : List P → List P → Sto → Option (List P × Sto) := lcGo l S0 t c e ρ
def lc2Go (l : Option Nat) (S0 : Sto) (t : Tg) (c : XT) (it1 : XI) (t1 : Tg) (c1 : XT) (e : XE) (ρ : Env) (vs1 : List Nat) : List P → List P → Sto → Option (List P × Sto)
  | [], acc, S => some (acc, S)
  | d :: ds, acc, S => (t.put d ρ).bind fun ρ1 => (c ρ1 S).bind fun x => if x.1 then
      (it1 ρ1 x.2).bind fun z => (lcGo z.2.1 z.2.2 t1 c1 e (wipeE ρ1 vs1) z.1 acc z.2.2).bind fun y => if cellOk l S0 y.2 then lc2Go l S0 t c it1 t1 c1 e ρ vs1 ds y.1 y.2 else none
    else if cellOk l S0 x.2 then lc2Go l S0 t c it1 t1 c1 e ρ vs1 ds acc x.2 else none
def xLc2 (it : XI) (t : Tg) (c : XT) (it1 : XI) (t1 : Tg) (c1 : XT) (e : XE) (vs vs1 : List Nat) : XE := fun ρ S => (it ρ S).bind fun x =>
  (lc2Go x.2.1 x.2.2 t c it1 t1 c1 e (wipeE ρ vs) vs1 x.1 [] x.2.2).map fun y => (.frl y.1, y.2)

/-! ### defs -/
def finish (base : Nat) (r : R) (S : Sto) : Option (R × Sto) := match r with
  | .p d => some (.p d, S.take base)
  | .frl ds => some (.frl ds, S.take base)
  | .frd t kvs => some (.frd t kvs, S.take base)
  | .ref l => if l < base then some (.ref l, S.take base) else match S[l]? with
    | some (.lst ds) => some (.frl ds, S.take base)
    | some (.dct false t kvs) => some (.frd t kvs, S.take base)
    | _ => none
def startE (n : Nat) (args : List D) : Env := args.map some ++ List.replicate (n - args.length) none
def mkF (k n : Nat) (b : XS) : XF := fun args S => if args.length = k then (b (startE n args) S).bind fun x => match x.1 with
  | .nx _ => finish S.length (.p .non) x.2
  | .rt r => finish S.length r x.2
  | _ => none
  else none

/-! ### methods of built-in types -/
inductive Ty where
  | str
  | lst
def isTy : Ty → P → Bool
  | .str, .str _ => true
  | .lst, .lst _ => true
  | _, _ => false
def xMeth (ty : Ty) (f : P → List P → Option R) (o : XE) (a : XA) : XE := fun ρ S => (o ρ S).bind fun x => (x.1.rd x.2).bind fun p0 => if isTy ty p0 then
  (a ρ x.2).bind fun y => (x.1.rd y.2).bind fun p => (rds y.2 y.1).bind fun ps => (f p ps).map fun r => (r, y.2) else none

/-! ### stores to cells -/
/-- o.append(e), o a cell -/
def xApp (o a : XE) : XE := fun ρ S => (o ρ S).bind fun x => match x.1 with
  | .ref l => match x.2[l]? with
    | some (.lst _) => (a ρ x.2).bind fun y => match y.2[l]? with
      | some (.lst ds) => (y.1.fz).bind fun d => if ds.length < big then some (.p .non, y.2.set l (.lst (ds ++ [d]))) else none
      | _ => none
    | _ => none
  | _ => none
def asList (S : Sto) : R → Option (List P)
  | .p (.lst ds) => some ds
  | .frl ds => some ds
  | .ref l => match S[l]? with
    | some (.lst ds) => some ds
    | _ => none
  | _ => none
/-- o.extend(e), o a cell, e a list -/
def xExt (o a : XE) : XE := fun ρ S => (o ρ S).bind fun x => match x.1 with
  | .ref l => match x.2[l]? with
    | some (.lst _) => (a ρ x.2).bind fun y => match y.2[l]? with
      | some (.lst ds) => match y.1 with
        | .frl es => if ds.length + es.length ≤ big then some (.p .non, y.2.set l (.lst (ds ++ es))) else none
        | _ => none
      | _ => none
    | _ => none
  | _ => none
/-- o.pop() -/
def xPop (o : XE) : XE := fun ρ S => (o ρ S).bind fun x => match x.1 with
  | .ref l => match x.2[l]? with
    | some (.lst ds) => match ds.getLast? with
      | some d => some (.p d, x.2.set l (.lst ds.dropLast))
      | none => none
    | _ => none
  | _ => none
/-- Python's index into n items -/
def ixP (n : Nat) (i : Int) : Option Nat := if 0 ≤ i then (if i.toNat < n then some i.toNat else none) else (if (-i).toNat ≤ n then some (n - (-i).toNat) else none)
/-- o[i] = e, o a cell with a list -/
def xPutL (e o i : XE) : XS := fun ρ S => (e ρ S).bind fun v => (o ρ v.2).bind fun x => (i ρ x.2).bind fun y => match x.1, y.1 with
  | .ref l, .p (.int j) => match y.2[l]? with
    | some (.lst ds) => (v.1.fz).bind fun d => (ixP ds.length j).map fun k => (.nx ρ, y.2.set l (.lst (ds.set k d)))
    | _ => none
  | _, _ => none
end XL
end
section
set_option Elab.async false
set_option linter.all false
set_option maxRecDepth 100000
set_option maxHeartbeats 1000000
namespace XL
open PySem L2

/-! ### how data lie in the heap -/
/-- (no written lists) -/
def KL (K : PySem.W.Frag) (a : Addr) (xs : List V) : Prop := False
def KT (K : PySem.W.Frag) (a : Addr) (xs : List V) : Prop := ∃ (o : Obj) (its : Array Value) (n : Nat), K.lookup a = some o ∧ o.cls = .type "tuple" ∧ o.data = .seq its n ∧ its.size ≤ sizeLine ∧ Vals xs its.toList
def FzL (K : PySem.W.Frag) (m : List Addr) (H : Hp) (a : Addr) (xs : List V) : Prop := (Rd H a (.lst xs) ∧ a ∉ m) ∨ KL K a xs
def FzT (K : PySem.W.Frag) (m : List Addr) (H : Hp) (a : Addr) (xs : List V) : Prop := (Rd H a (.tup xs) ∧ a ∉ m) ∨ KT K a xs
theorem FzL.sq {K : PySem.W.Frag} {m : List Addr} {H : Hp} {a : Addr} {xs : List V} (h : FzL K m H a xs) : SqL K H a xs := h.elim (fun z => .inl z.1) fun z => z.elim
theorem FzL.rd {K : PySem.W.Frag} {m : List Addr} {H : Hp} {a : Addr} {xs : List V} (h : FzL K m H a xs) : Rd H a (.lst xs) := h.elim (fun z => z.1) fun z => z.elim
theorem FzT.sq {K : PySem.W.Frag} {m : List Addr} {H : Hp} {a : Addr} {xs : List V} (h : FzT K m H a xs) : SqT K H a xs := h.elim (fun z => .inl z.1) .inr
mutual
def RepP (K : PySem.W.Frag) (m : List Addr) (H : Hp) : P → V → Prop
  | .non, v => v = .non
  | .bl b, v => v = .bl b
  | .int i, v => v = .int i
  | .str s, v => v = .str ⟨s.toArray⟩
  | .tup ds, v => ∃ a vs, v = .ref a ∧ FzT K m H a vs ∧ RepPs K m H ds vs
  | .lst ds, v => ∃ a vs, v = .ref a ∧ FzL K m H a vs ∧ RepPs K m H ds vs
def RepPs (K : PySem.W.Frag) (m : List Addr) (H : Hp) : List P → List V → Prop
  | [], vs => vs = []
  | d :: ds, vs => ∃ v r, vs = v :: r ∧ RepP K m H d v ∧ RepPs K m H ds r
end
/-- as it is read now: the list itself may be a cell -/
def RdT (K : PySem.W.Frag) (m : List Addr) (H : Hp) : P → V → Prop
  | .lst ds, v => ∃ a vs, v = .ref a ∧ Rd H a (.lst vs) ∧ RepPs K m H ds vs
  | d, v => RepP K m H d v
def RdTs (K : PySem.W.Frag) (m : List Addr) (H : Hp) : List P → List V → Prop
  | [], vs => vs = []
  | d :: ds, vs => ∃ v r, vs = v :: r ∧ RdT K m H d v ∧ RdTs K m H ds r
/-- keys: ints, texts; tuples of them -/
def keyP : P → Option Key
  | .int i => some (.inl i)
  | .str s => some (.inr ⟨s.toArray⟩)
  | _ => none
def tksP : List P → Option (List Key)
  | [] => some []
  | d :: ds => (keyP d).bind fun k => (tksP ds).map fun ks => k :: ks
def tkP : P → Option (List Key)
  | .tup ds => tksP ds
  | _ => none
def Cell.vals : Cell → List P
  | .lst ds => ds
  | .dct _ _ kvs => kvs.map (·.2)
/-- a dict's object by its keys and values -/
def DictU (t : Bool) (ks : List P) (ws : List V) (u : HO) : Prop := match t with
  | false => ∃ k : List Key, ks.map keyP = k.map some ∧ u = .dK (k.zip ws)
  | true => ∃ k : List (List Key), ks.map tkP = k.map some ∧ u = .dT (k.zip ws)
/-- the object of a cell with the values ws -/
def HoOf : Cell → List V → HO → Prop
  | .lst _, ws, o => o = .lst ws
  | .dct false t kvs, ws, o => DictU t (kvs.map (·.1)) ws o
  | .dct true t kvs, ws, o => ∃ ob u, o = .frz ob u ∧ DictU t (kvs.map (·.1)) ws u
def RepC (K : PySem.W.Frag) (m : List Addr) (H : Hp) (a : Addr) (c : Cell) : Prop := ∃ ws o, H a = some o ∧ HoOf c ws o ∧ RepPs K m H c.vals ws
theorem RepC.lst {K : PySem.W.Frag} {m : List Addr} {H : Hp} {a : Addr} {ds : List P} : RepC K m H a (.lst ds) ↔ ∃ vs, H a = some (.lst vs) ∧ RepPs K m H ds vs := by
  constructor
  · rintro ⟨ws, o, h1, h2, h3⟩
    cases h2
    exact ⟨ws, h1, h3⟩
  · rintro ⟨vs, h1, h2⟩
    exact ⟨vs, _, h1, rfl, h2⟩
/-- the cells stand at m; G: what else no data may hold (a list that is being made) -/
structure RepSt (K : PySem.W.Frag) (G m : List Addr) (S : Sto) (H : Hp) : Prop where
  len : m.length = S.length
  nd : m.Nodup
  cell : ∀ (l : Nat) (a : Addr) (c : Cell), m[l]? = some a → S[l]? = some c → RepC K (m ++ G) H a c
  gd : ∀ a ∈ G, H a ≠ none ∧ a ∉ m
def RepD (K : PySem.W.Frag) (G m : List Addr) (H : Hp) : D → V → Prop
  | .p d, v => RepP K (m ++ G) H d v
  | .ref l, v => ∃ a, v = .ref a ∧ m[l]? = some a
def RepDs (K : PySem.W.Frag) (G m : List Addr) (H : Hp) : List D → List V → Prop
  | [], vs => vs = []
  | d :: ds, vs => ∃ v r, vs = v :: r ∧ RepD K G m H d v ∧ RepDs K G m H ds r
structure RepE (K : PySem.W.Frag) (G m : List Addr) (H : Hp) (ρ : Env) (σ : L2.St) : Prop where
  len : ρ.length = σ.length
  slot : ∀ (i : Nat) (d : D), ρ[i]? = some (some d) → ∃ v, σ[i]? = some (some v) ∧ RepD K G m H d v
def RepR (K : PySem.W.Frag) (G m : List Addr) (H : Hp) : R → V → Prop
  | .p d, v => RepP K (m ++ G) H d v
  | .ref l, v => ∃ a, v = .ref a ∧ m[l]? = some a
  | .frl ds, v => ∃ a vs, v = .ref a ∧ a ∉ m ++ G ∧ H a = some (.lst vs) ∧ RepPs K (m ++ G) H ds vs
  | .frd t kvs, v => ∃ a, v = .ref a ∧ a ∉ m ++ G ∧ RepC K (m ++ G) H a (.dct false t kvs)
def RepRs (K : PySem.W.Frag) (G m : List Addr) (H : Hp) : List R → List V → Prop
  | [], vs => vs = []
  | d :: ds, vs => ∃ v r, vs = v :: r ∧ RepR K G m H d v ∧ RepRs K G m H ds r
/-- what is new may become a cell; H0: the heap ahead, in which it is not -/
def Own (K : PySem.W.Frag) (H0 : Hp) (G m : List Addr) (H : Hp) (S : Sto) : R → V → Prop
  | .p _, _ => True
  | .ref _, _ => True
  | .frl ds, v => ∃ a, v = .ref a ∧ H0 a = none ∧ RepSt K G (m ++ [a]) (S ++ [.lst ds]) H
  | .frd t kvs, v => ∃ a, v = .ref a ∧ H0 a = none ∧ RepSt K G (m ++ [a]) (S ++ [.dct false t kvs]) H
structure Step (m : List Addr) (H : Hp) (m' : List Addr) (H' : Hp) : Prop where
  pre : ∃ t, m' = m ++ t ∧ ∀ a ∈ t, H a = none
  keep : ∀ a o, H a = some o → a ∉ m → H' a = some o
  dom : ∀ a, H' a = none → H a = none
  fz : ∀ a o u, H a = some (.frz o u) → H' a = some (.frz o u)
def Ext (H H' : Hp) : Prop := ∀ a o, H a = some o → H' a = some o
theorem Ext.refl (H : Hp) : Ext H H := fun _ _ h => h
theorem Ext.trans {H H1 H2 : Hp} (a : Ext H H1) (b : Ext H1 H2) : Ext H H2 := fun x o h => b x o (a x o h)
theorem Ext.new {H : Hp} {p : Addr} {o : HO} (h : H p = none) : Ext H (upd H p o) := fun a u e => by
  rw [upd_ne (ne_of_none e h)]
  exact e
theorem Ext.none {H H' : Hp} (e : Ext H H') {a : Addr} (h : H' a = none) : H a = none := by
  cases q : H a with
  | none => rfl
  | some o => rw [e a o q] at h; cases h
theorem Step.of_ext {m : List Addr} {H H' : Hp} (e : Ext H H') : Step m H m H' := ⟨⟨[], by simp, fun _ h => by cases h⟩, fun a o h _ => e a o h, fun a h => e.none h, fun a o u h => e a _ h⟩
theorem Step.refl {m : List Addr} {H : Hp} : Step m H m H := Step.of_ext (Ext.refl H)

section
variable {K : PySem.W.Frag} {G m m' m1 m2 : List Addr} {H H' H0 H1 H2 : Hp}
theorem Step.mem (s : Step m H m' H') {a : Addr} (h : H a ≠ none) (hm : a ∉ m) : a ∉ m' := by
  obtain ⟨t, rfl, ht⟩ := s.pre
  intro z
  rcases List.mem_append.mp z with z | z
  · exact hm z
  · exact h (ht a z)
theorem Step.get (s : Step m H m' H') {l : Nat} {a : Addr} (h : m[l]? = some a) : m'[l]? = some a := by
  obtain ⟨t, rfl, ht⟩ := s.pre
  have hl : l < m.length := (List.getElem?_eq_some_iff.mp h).1
  rw [List.getElem?_append_left hl]
  exact h
theorem Step.trans (s : Step m H m1 H1) (u : Step m1 H1 m2 H2) : Step m H m2 H2 := by
  obtain ⟨t, rfl, ht⟩ := s.pre
  obtain ⟨t', rfl, ht'⟩ := u.pre
  refine ⟨⟨t ++ t', by simp, fun a ha => ?_⟩, fun a o h hm => ?_, fun a h => s.dom a (u.dom a h), fun a o w h => u.fz a o w (s.fz a o w h)⟩
  · rcases List.mem_append.mp ha with z | z
    · exact ht a z
    · exact s.dom a (ht' a z)
  · refine u.keep a o (s.keep a o h hm) (s.mem (by rw [h]; simp) hm)
theorem rd_ne {a : Addr} {u : HO} (h : Rd H a u) : H a ≠ none := by
  rcases h with h | ⟨o, h⟩ <;> (rw [h]; simp)
theorem Step.memG (s : Step m H m' H') {a : Addr} (h : H a ≠ none) (hm : a ∉ m ++ G) : a ∉ m' ++ G := fun z => by
  rw [List.mem_append, not_or] at hm
  rcases List.mem_append.mp z with z | z
  · exact s.mem h hm.1 z
  · exact hm.2 z
theorem not_l {a : Addr} (h : a ∉ m ++ G) : a ∉ m := fun z => h (List.mem_append_left _ z)
theorem rd_step (s : Step m H m' H') {a : Addr} {u : HO} (h : Rd H a u) (hm : a ∉ m ++ G) : Rd H' a u ∧ a ∉ m' ++ G := by
  refine ⟨?_, s.memG (rd_ne h) hm⟩
  rcases h with h | ⟨o, h⟩
  · exact .inl (s.keep _ _ h (not_l hm))
  · exact .inr ⟨o, s.keep _ _ h (not_l hm)⟩
mutual
theorem RepP.step (s : Step m H m' H') : ∀ (d : P) (v : V), RepP K (m ++ G) H d v → RepP K (m' ++ G) H' d v
  | .non, v, h => by simpa [RepP] using h
  | .bl b, v, h => by simpa [RepP] using h
  | .int i, v, h => by simpa [RepP] using h
  | .str x, v, h => by simpa [RepP] using h
  | .tup ds, v, h => by
    simp only [RepP] at h ⊢
    obtain ⟨a, vs, e, f, r⟩ := h
    exact ⟨a, vs, e, f.elim (fun z => .inl (rd_step s z.1 z.2)) .inr, RepPs.step s ds vs r⟩
  | .lst ds, v, h => by
    simp only [RepP] at h ⊢
    obtain ⟨a, vs, e, f, r⟩ := h
    exact ⟨a, vs, e, f.elim (fun z => .inl (rd_step s z.1 z.2)) .inr, RepPs.step s ds vs r⟩
theorem RepPs.step (s : Step m H m' H') : ∀ (ds : List P) (vs : List V), RepPs K (m ++ G) H ds vs → RepPs K (m' ++ G) H' ds vs
  | [], vs, h => by simpa [RepPs] using h
  | d :: ds, vs, h => by
    simp only [RepPs] at h ⊢
    obtain ⟨v, r, e, h1, h2⟩ := h
    exact ⟨v, r, e, RepP.step s d v h1, RepPs.step s ds r h2⟩
end
theorem RepP.rdt : ∀ {d : P} {v : V}, RepP K m H d v → RdT K m H d v
  | .non, v, h => h
  | .bl b, v, h => h
  | .int i, v, h => h
  | .str x, v, h => h
  | .tup ds, v, h => h
  | .lst ds, v, h => by
    simp only [RepP] at h
    obtain ⟨a, vs, e, f, r⟩ := h
    exact ⟨a, vs, e, f.rd, r⟩
theorem RepPs.length : ∀ {ds : List P} {vs : List V}, RepPs K m H ds vs → ds.length = vs.length
  | [], vs, h => by simp only [RepPs] at h; subst h; rfl
  | d :: ds, vs, h => by
    simp only [RepPs] at h
    obtain ⟨v, r, rfl, h1, h2⟩ := h
    simp [RepPs.length h2]
theorem RepPs.get : ∀ {ds : List P} {vs : List V} {i : Nat} {d : P}, RepPs K m H ds vs → ds[i]? = some d → ∃ v, vs[i]? = some v ∧ RepP K m H d v
  | [], vs, i, d, h, e => by simp at e
  | x :: ds, vs, 0, d, h, e => by
    simp only [RepPs] at h
    obtain ⟨v, r, rfl, h1, h2⟩ := h
    simp at e; subst e
    exact ⟨v, by simp, h1⟩
  | x :: ds, vs, i + 1, d, h, e => by
    simp only [RepPs] at h
    obtain ⟨v, r, rfl, h1, h2⟩ := h
    obtain ⟨w, hw, q⟩ := RepPs.get (i := i) h2 (by simpa using e)
    exact ⟨w, by simpa using hw, q⟩
theorem RepPs.append : ∀ {ds es : List P} {vs ws : List V}, RepPs K m H ds vs → RepPs K m H es ws → RepPs K m H (ds ++ es) (vs ++ ws)
  | [], es, vs, ws, h, q => by simp only [RepPs] at h; subst h; simpa using q
  | d :: ds, es, vs, ws, h, q => by
    simp only [RepPs] at h
    obtain ⟨v, r, rfl, h1, h2⟩ := h
    simp only [List.cons_append, RepPs]
    exact ⟨v, r ++ ws, rfl, h1, RepPs.append h2 q⟩
theorem RepPs.one {d : P} {v : V} (h : RepP K m H d v) : RepPs K m H [d] [v] := by
  simp only [RepPs]; exact ⟨v, [], rfl, h, rfl⟩
theorem RepPs.nil : RepPs K m H [] [] := by simp [RepPs]
theorem RepPs.cons {d : P} {v : V} {ds : List P} {vs : List V} (h : RepP K m H d v) (q : RepPs K m H ds vs) : RepPs K m H (d :: ds) (v :: vs) := by
  simp only [RepPs]; exact ⟨v, vs, rfl, h, q⟩
theorem RepD.step (s : Step m H m' H') {d : D} {v : V} (h : RepD K G m H d v) : RepD K G m' H' d v := by
  cases d with
  | p d => exact RepP.step s d v h
  | ref l => obtain ⟨a, e, q⟩ := h; exact ⟨a, e, s.get q⟩
theorem RepE.step (s : Step m H m' H') {ρ : Env} {σ : L2.St} (h : RepE K G m H ρ σ) : RepE K G m' H' ρ σ :=
  ⟨h.len, fun i d e => let ⟨v, a, b⟩ := h.slot i d e; ⟨v, a, b.step s⟩⟩
theorem RepR.step (s : Step m H m' H') {r : R} {v : V} (h : RepR K G m H r v) : RepR K G m' H' r v := by
  cases r with
  | p d => exact RepP.step s d v h
  | ref l => obtain ⟨a, e, q⟩ := h; exact ⟨a, e, s.get q⟩
  | frl ds =>
    obtain ⟨a, vs, e, nm, ha, q⟩ := h
    exact ⟨a, vs, e, s.memG (by rw [ha]; simp) nm, s.keep _ _ ha (not_l nm), RepPs.step s ds vs q⟩
  | frd t kvs =>
    obtain ⟨a, e, nm, ws, o, ha, ho, q⟩ := h
    exact ⟨a, e, s.memG (by rw [ha]; simp) nm, ws, o, s.keep _ _ ha (not_l nm), ho, RepPs.step s _ ws q⟩
theorem RepRs.step (s : Step m H m' H') : ∀ {rs : List R} {vs : List V}, RepRs K G m H rs vs → RepRs K G m' H' rs vs
  | [], vs, h => h
  | r :: rs, vs, h => by
    obtain ⟨v, w, e, h1, h2⟩ := h
    exact ⟨v, w, e, h1.step s, RepRs.step s h2⟩
theorem Own.back {S : Sto} (hd : ∀ a, H1 a = none → H0 a = none) {r : R} {v : V} (h : Own K H1 G m H S r v) : Own K H0 G m H S r v := by
  cases r with
  | p d => exact h
  | ref l => exact h
  | frl ds => obtain ⟨a, e, n0, q⟩ := h; exact ⟨a, e, hd a n0, q⟩
  | frd t kvs => obtain ⟨a, e, n0, q⟩ := h; exact ⟨a, e, hd a n0, q⟩
/-- a cell's address is tracked -/
theorem RepSt.has {S : Sto} (h : RepSt K G m S H) {a : Addr} (ha : a ∈ m) : H a ≠ none := by
  obtain ⟨l, hl, e⟩ := List.getElem_of_mem ha
  have hl' : l < S.length := h.len ▸ hl
  have q := h.cell l a S[l] (by rw [List.getElem?_eq_getElem hl, e]) (List.getElem?_eq_getElem hl')
  obtain ⟨ws, o, e, _⟩ := q
  rw [e]; simp
theorem RepSt.fresh {S : Sto} (h : RepSt K G m S H) {a : Addr} (ha : H a = none) : a ∉ m ++ G := fun z => (List.mem_append.mp z).elim (fun z => h.has z ha) fun z => (h.gd a z).1 ha
/-- the heap grows -/
theorem RepSt.ext {S : Sto} (h : RepSt K G m S H) (e : Ext H H') : RepSt K G m S H' := ⟨h.len, h.nd, fun l a c h1 h2 => (by
  obtain ⟨ws, o, z, k, r⟩ := h.cell l a c h1 h2
  exact ⟨ws, o, e _ _ z, k, RepPs.step (Step.of_ext e) _ ws r⟩), fun a ha => ⟨fun z => (h.gd a ha).1 (e.none z), (h.gd a ha).2⟩⟩
theorem RepR.rd {S : Sto} (hS : RepSt K G m S H) {r : R} {v : V} {d : P} (h : RepR K G m H r v) (e : r.rd S = some d) : RdT K (m ++ G) H d v := by
  cases r with
  | p d' => simp only [R.rd, Option.some.injEq] at e; subst e; exact RepP.rdt h
  | ref l =>
    obtain ⟨a, rfl, hm⟩ := h
    simp only [R.rd] at e
    split at e
    · rename_i ds hl
      simp only [Option.some.injEq] at e; subst e
      obtain ⟨vs, z, r⟩ := RepC.lst.mp (hS.cell l a _ hm hl)
      exact ⟨a, vs, rfl, .inl z, r⟩
    · cases e
  | frl ds =>
    obtain ⟨a, vs, rfl, nm, ha, q⟩ := h
    simp only [R.rd, Option.some.injEq] at e; subst e
    exact ⟨a, vs, rfl, .inl ha, q⟩
  | frd t kvs => simp [R.rd] at e
theorem RepR.fz {r : R} {v : V} {d : P} (h : RepR K G m H r v) (e : r.fz = some d) : RepP K (m ++ G) H d v := by
  cases r with
  | p d' => simp only [R.fz, Option.some.injEq] at e; subst e; exact h
  | ref l => simp [R.fz] at e
  | frl ds =>
    obtain ⟨a, vs, rfl, nm, ha, q⟩ := h
    simp only [R.fz, Option.some.injEq] at e; subst e
    simp only [RepP]
    exact ⟨a, vs, rfl, .inl ⟨.inl ha, nm⟩, q⟩
  | frd t kvs => simp [R.fz] at e
theorem RepRs.fzs : ∀ {rs : List R} {vs : List V} {ds : List P}, RepRs K G m H rs vs → fzs rs = some ds → RepPs K (m ++ G) H ds vs
  | [], vs, ds, h, e => by
    simp only [XL.fzs, Option.some.injEq] at e; subst e
    simp only [RepRs] at h; subst h
    exact RepPs.nil
  | r :: rs, vs, ds, h, e => by
    obtain ⟨v, w, rfl, h1, h2⟩ := h
    simp only [XL.fzs, Option.bind_eq_some_iff, Option.map_eq_some_iff] at e
    obtain ⟨d, e1, es, e2, rfl⟩ := e
    exact RepPs.cons (h1.fz e1) (RepRs.fzs h2 e2)
theorem RepRs.rds {S : Sto} (hS : RepSt K G m S H) : ∀ {rs : List R} {vs : List V} {ds : List P}, RepRs K G m H rs vs → rds S rs = some ds → RdTs K (m ++ G) H ds vs
  | [], vs, ds, h, e => by
    simp only [XL.rds, Option.some.injEq] at e; subst e
    simp only [RepRs] at h; subst h
    rfl
  | r :: rs, vs, ds, h, e => by
    obtain ⟨v, w, rfl, h1, h2⟩ := h
    simp only [XL.rds, Option.bind_eq_some_iff, Option.map_eq_some_iff] at e
    obtain ⟨d, e1, es, e2, rfl⟩ := e
    exact ⟨v, w, rfl, h1.rd hS e1, RepRs.rds hS h2 e2⟩
/-- cells taken out, some of them kept -/
theorem RepP.sub (h : ∀ a, a ∈ m → a ∈ m') : (∀ (d : P) (v : V), RepP K m' H d v → RepP K m H d v) ∧ ∀ (ds : List P) (vs : List V), RepPs K m' H ds vs → RepPs K m H ds vs := by
  have key : ∀ (n : Nat), (∀ (d : P) (v : V), sizeOf d ≤ n → RepP K m' H d v → RepP K m H d v) ∧ ∀ (ds : List P) (vs : List V), sizeOf ds ≤ n → RepPs K m' H ds vs → RepPs K m H ds vs := by
    intro n
    induction n with
    | zero =>
      refine ⟨fun d v z => ?_, fun ds vs z => ?_⟩
      · cases d <;> simp at z
      · cases ds <;> simp at z
    | succ n ih =>
      refine ⟨fun d v z q => ?_, fun ds vs z q => ?_⟩
      · cases d with
        | tup ds =>
          simp only [RepP] at q ⊢
          obtain ⟨a, vs, e, f, r⟩ := q
          exact ⟨a, vs, e, f.elim (fun w => .inl ⟨w.1, fun u => w.2 (h a u)⟩) .inr, ih.2 ds vs (by simp at z; omega) r⟩
        | lst ds =>
          simp only [RepP] at q ⊢
          obtain ⟨a, vs, e, f, r⟩ := q
          exact ⟨a, vs, e, f.elim (fun w => .inl ⟨w.1, fun u => w.2 (h a u)⟩) .inr, ih.2 ds vs (by simp at z; omega) r⟩
        | non => simpa [RepP] using q
        | bl b => simpa [RepP] using q
        | int b => simpa [RepP] using q
        | str b => simpa [RepP] using q
      · cases ds with
        | nil => simpa [RepPs] using q
        | cons d ds =>
          simp only [RepPs] at q ⊢
          obtain ⟨v, r, e, q1, q2⟩ := q
          exact ⟨v, r, e, ih.1 d v (by simp at z; omega) q1, ih.2 ds r (by simp at z; omega) q2⟩
  exact ⟨fun d v => (key (sizeOf d)).1 d v (Nat.le_refl _), fun ds vs => (key (sizeOf ds)).2 ds vs (Nat.le_refl _)⟩
/-- what was just made may become a cell -/
theorem RepSt.pushC {S : Sto} (hS : RepSt K G m S H) {p : Addr} {vs : List V} {c : Cell} {ho : HO} (hp : H p = none) (hh : HoOf c vs ho) (r : RepPs K (m ++ G) H c.vals vs) : RepSt K G (m ++ [p]) (S ++ [c]) (upd H p ho) := by
  have st : Step m H (m ++ [p]) (upd H p ho) := ⟨⟨[p], rfl, fun a ha => by simp at ha; subst ha; exact hp⟩, fun a o e _ => Ext.new hp a o e, fun a e => (Ext.new hp).none e, fun a o w e => Ext.new hp a _ e⟩
  refine ⟨by simp [hS.len], ?_, fun l a c' h1 h2 => ?_, fun a ha => ⟨fun z => (hS.gd a ha).1 ((Ext.new hp).none z), fun z => ?_⟩⟩
  · rw [List.nodup_append]
    refine ⟨hS.nd, by simp, fun a ha b hb => ?_⟩
    simp at hb; subst hb
    exact fun e => hS.has ha (e ▸ hp)
  · by_cases hl : l < m.length
    · rw [List.getElem?_append_left hl] at h1
      rw [List.getElem?_append_left (hS.len ▸ hl)] at h2
      obtain ⟨ws, o, z, k, w⟩ := hS.cell l a c' h1 h2
      exact ⟨ws, o, Ext.new hp _ _ z, k, RepPs.step st _ ws w⟩
    · have hl2 : l < (m ++ [p]).length := (List.getElem?_eq_some_iff.mp h1).1
      have e : l = m.length := by simp at hl2; omega
      subst e
      simp at h1
      rw [hS.len] at h2
      simp at h2
      subst h1; subst h2
      exact ⟨vs, ho, upd_same, hh, RepPs.step st _ vs r⟩
  · rcases List.mem_append.mp z with z | z
    · exact (hS.gd a ha).2 z
    · simp at z; subst z
      exact (hS.gd _ ha).1 hp
theorem RepSt.push {S : Sto} (hS : RepSt K G m S H) {p : Addr} {vs : List V} {ds : List P} (hp : H p = none) (r : RepPs K (m ++ G) H ds vs) : RepSt K G (m ++ [p]) (S ++ [.lst ds]) (upd H p (.lst vs)) := hS.pushC hp rfl r
theorem own_newD {S : Sto} (hS : RepSt K G m S H) {p : Addr} {vs : List V} {t : Bool} {kvs : List (P × P)} {ho : HO} (hp : H p = none) (hh : HoOf (.dct false t kvs) vs ho) (r : RepPs K (m ++ G) H (kvs.map (·.2)) vs) : Own K H G m (upd H p ho) S (.frd t kvs) (.ref p) := ⟨p, rfl, hp, hS.pushC hp hh r⟩
theorem own_new {S : Sto} (hS : RepSt K G m S H) {p : Addr} {vs : List V} {ds : List P} (hp : H p = none) (r : RepPs K (m ++ G) H ds vs) : Own K H G m (upd H p (.lst vs)) S (.frl ds) (.ref p) := ⟨p, rfl, hp, hS.push hp r⟩
/-- what is new, read as it is -/
theorem own_repC {S : Sto} {c : Cell} {a : Addr} (q : RepSt K G (m ++ [a]) (S ++ [c]) H) : RepSt K G m S H ∧ a ∉ m ++ G ∧ RepC K (m ++ G) H a c := by
  have hl := q.len
  simp only [List.length_append, List.length_singleton] at hl
  have sub : ∀ b, b ∈ m ++ G → b ∈ (m ++ [a]) ++ G := fun b hb => by
    simp only [List.mem_append] at hb ⊢
    rcases hb with hb | hb
    · exact .inl (.inl hb)
    · exact .inr hb
  have nd := q.nd
  rw [List.nodup_append] at nd
  have ha : a ∉ m := fun z => nd.2.2 a z a (by simp) rfl
  have hG : a ∉ G := fun z => (q.gd a z).2 (by simp)
  refine ⟨⟨by omega, nd.1, fun l b c' h1 h2 => ?_, fun b hb => ⟨(q.gd b hb).1, fun z => (q.gd b hb).2 (List.mem_append_left _ z)⟩⟩, by simp [ha, hG], ?_⟩
  · have l1 : l < m.length := (List.getElem?_eq_some_iff.mp h1).1
    obtain ⟨ws, o, z, k, w⟩ := q.cell l b c' (by rw [List.getElem?_append_left l1]; exact h1) (by rw [List.getElem?_append_left (by omega)]; exact h2)
    exact ⟨ws, o, z, k, (RepP.sub sub).2 _ ws w⟩
  · obtain ⟨ws, o, z, k, w⟩ := q.cell m.length a c (by simp) (by rw [show m.length = S.length by omega]; simp)
    exact ⟨ws, o, z, k, (RepP.sub sub).2 _ ws w⟩
theorem own_rep {S : Sto} {ds : List P} {v : V} (h : Own K H0 G m H S (.frl ds) v) : RepSt K G m S H ∧ RepR K G m H (.frl ds) v := by
  obtain ⟨a, rfl, h0, q⟩ := h
  obtain ⟨h1, h2, h3⟩ := own_repC q
  obtain ⟨vs, z, w⟩ := RepC.lst.mp h3
  exact ⟨h1, a, vs, rfl, h2, z, w⟩
theorem own_repD {S : Sto} {t : Bool} {kvs : List (P × P)} {v : V} (h : Own K H0 G m H S (.frd t kvs) v) : RepSt K G m S H ∧ RepR K G m H (.frd t kvs) v := by
  obtain ⟨a, rfl, h0, q⟩ := h
  obtain ⟨h1, h2, h3⟩ := own_repC q
  exact ⟨h1, a, rfl, h2, h3⟩
end

/-! ### readings from the executable text -/
def tOf (K : PySem.W.Frag) (x : XE) : TE := fun σ H Q => ∃ m G ρ S r S', RepE K G m H ρ σ ∧ RepSt K G m S H ∧ x ρ S = some (r, S') ∧
  ∀ v m' H', Step m H m' H' → RepSt K G m' S' H' → RepR K G m' H' r v → Own K H G m' H' S' r v → Q v H'
def tOfT (K : PySem.W.Frag) (x : XT) : TT := fun σ H Q => ∃ m G ρ S b S', RepE K G m H ρ σ ∧ RepSt K G m S H ∧ x ρ S = some (b, S') ∧
  ∀ m' H', Step m H m' H' → RepSt K G m' S' H' → Q b H'
def tOfA (K : PySem.W.Frag) (x : XA) : TA := fun σ H Q => ∃ m G ρ S rs S', RepE K G m H ρ σ ∧ RepSt K G m S H ∧ x ρ S = some (rs, S') ∧
  ∀ vs m' H', Step m H m' H' → RepSt K G m' S' H' → RepRs K G m' H' rs vs → Q vs H'
def FlOk (K : PySem.W.Frag) (G m : List Addr) (H : Hp) (D : Ends) (S' : Sto) : Fl → Prop
  | .nx ρ' => ∀ σ' m' H', Step m H m' H' → RepSt K G m' S' H' → RepE K G m' H' ρ' σ' → D.nx σ' H'
  | .bk ρ' => ∀ σ' m' H', Step m H m' H' → RepSt K G m' S' H' → RepE K G m' H' ρ' σ' → D.bk σ' H'
  | .ct ρ' => ∀ σ' m' H', Step m H m' H' → RepSt K G m' S' H' → RepE K G m' H' ρ' σ' → D.ct σ' H'
  | .rt r => ∀ v m' H', Step m H m' H' → RepSt K G m' S' H' → RepR K G m' H' r v → Own K H G m' H' S' r v → D.rt v H'
def tOfS (K : PySem.W.Frag) (x : XS) : TS := fun D σ H => ∃ m G ρ S fl S', RepE K G m H ρ σ ∧ RepSt K G m S H ∧ x ρ S = some (fl, S') ∧ FlOk K G m H D S' fl
/-- by values: two, one, several -/
def rOf (K : PySem.W.Frag) (f : P → P → Option R) : R2 := fun x y H Q => ∃ m G S p q r, RepSt K G m S H ∧ RdT K (m ++ G) H p x ∧ RdT K (m ++ G) H q y ∧ f p q = some r ∧ ∀ v H', Ext H H' → RepR K G m H' r v → Own K H G m H' S r v → Q v H'
def uOf (K : PySem.W.Frag) (f : P → Option R) : V → Hp → VK → Prop := fun x H Q => ∃ m G S p r, RepSt K G m S H ∧ RdT K (m ++ G) H p x ∧ f p = some r ∧ ∀ v H', Ext H H' → RepR K G m H' r v → Own K H G m H' S r v → Q v H'
def cOf (K : PySem.W.Frag) (f : List P → Option R) : List V → Hp → VK → Prop := fun xs H Q => ∃ m G S ps r, RepSt K G m S H ∧ RdTs K (m ++ G) H ps xs ∧ f ps = some r ∧ ∀ v H', Ext H H' → RepR K G m H' r v → Own K H G m H' S r v → Q v H'

theorem PE.imp {X : Cx} {e : Expr} {t t' : TE} (h : PE X e t) (w : ∀ σ H Q, t' σ H Q → t σ H Q) : PE X e t' := ⟨fun pins s σ H Q I q => h.run pins s σ H Q I (w σ H Q q)⟩
theorem PT.imp {X : Cx} {e : Expr} {t t' : TT} (h : PT X e t) (w : ∀ σ H Q, t' σ H Q → t σ H Q) : PT X e t' := ⟨fun pins s σ H Q I q => h.run pins s σ H Q I (w σ H Q q)⟩
theorem PW.imp {X : Cx} {e : Expr} {t t' : TT} (h : PW X e t) (w : ∀ σ H Q, t' σ H Q → t σ H Q) : PW X e t' := ⟨fun wh pins s σ H Q I q => h.run wh pins s σ H Q I (w σ H Q q)⟩
theorem PA.imp {X : Cx} {es : List Expr} {t t' : TA} (h : PA X es t) (w : ∀ σ H Q, t' σ H Q → t σ H Q) : PA X es t' := ⟨fun pos pins s σ H Q I q => h.run pos pins s σ H Q I (w σ H Q q)⟩
theorem PS.imp {X : Cx} {st : Stmt} {t t' : TS} (h : PS X st t) (w : ∀ D σ H, t' D σ H → t D σ H) : PS X st t' := ⟨fun pins s σ H D I q => h.run pins s σ H D I (w D σ H q)⟩
theorem PSs.imp {X : Cx} {st : List Stmt} {t t' : TS} (h : PSs X st t) (w : ∀ D σ H, t' D σ H → t D σ H) : PSs X st t' := ⟨fun pins s σ H D I q => h.run pins s σ H D I (w D σ H q)⟩

section
variable {X : Cx} {a b c e : Expr} {xa xb xc : XE} {pos : Pos}
/-! ### expressions -/
theorem xe_var {i : Nat} {x : Str} (h : PE X (.Name x pos) (tVar i)) : PE X (.Name x pos) (tOf X.K (xVar i)) := PE.imp h fun σ H Q h => by
  obtain ⟨m, G, ρ, S, r, S', hE, hS, hx, k⟩ := h
  simp only [xVar] at hx
  split at hx
  · rename_i d hd
    cases hx
    obtain ⟨v, hv, q⟩ := hE.slot i _ hd
    exact ⟨v, hv, k v m H Step.refl hS q trivial⟩
  · rename_i l hd
    cases hx
    obtain ⟨v, hv, q⟩ := hE.slot i _ hd
    exact ⟨v, hv, k v m H Step.refl hS q trivial⟩
  · cases hx
/-- a name in slot i -/
theorem xv (i : Nat) {x : Str} (hN : X.N[i]? = some x := by rfl) (hv : Vis X.env.scope x := by first | exact Or.inl rfl | exact Or.inr (Or.inl rfl) | exact Or.inr (Or.inr rfl)) (hd : (x == ("__debug__" : Str)) = false := by decide)
    (hcd : (x == ("__classdict__" : Str)) = false := by decide) : PE X (.Name x pos) (tOf X.K (xVar i)) := xe_var (pe_var hN hv hd hcd)
theorem xe_C {d : P} {v : V} (h : PE X e (tC v)) (hd : ∀ m H, RepP X.K m H d v) : PE X e (tOf X.K (xC d)) := PE.imp h fun σ H Q h => by
  obtain ⟨m, G, ρ, S, r, S', hE, hS, hx, k⟩ := h
  cases hx
  exact k v m H Step.refl hS (hd (m ++ G) H) trivial
theorem xe_int {i : Int} {j} : PE X (.Constant (.int i) j pos) (tOf X.K (xC (.int i))) := xe_C pe_int fun _ _ => by simp [RepP]
theorem xe_bl {i : Bool} {j} : PE X (.Constant (.bool i) j pos) (tOf X.K (xC (.bl i))) := xe_C pe_bl fun _ _ => by simp [RepP]
theorem xe_non {j} : PE X (.Constant .none j pos) (tOf X.K (xC .non)) := xe_C pe_non fun _ _ => by simp [RepP]
theorem xe_str {x : Str} {s : List Nat} {j} (h : x = ⟨s.toArray⟩) : PE X (.Constant (.str x) j pos) (tOf X.K (xC (.str s))) := xe_C pe_str fun _ _ => by simp [RepP, h]
/-- one after another -/
theorem tOf.bin {K : PySem.W.Frag} {σ : L2.St} {H : Hp} {Q : VK} {f : P → P → Option R} {xa xb : XE} (h : tOf K (xBin f xa xb) σ H Q) : tOp (rOf K f) (tOf K xa) (tOf K xb) σ H Q := by
  obtain ⟨m, G, ρ, S, r, S', hE, hS, hx, k⟩ := h
  simp only [xBin, Option.bind_eq_some_iff, Option.map_eq_some_iff] at hx
  obtain ⟨⟨r1, S1⟩, h1, ⟨r2, S2⟩, h2, p, hp, q, hq, r', hf, e⟩ := hx
  cases e
  refine ⟨m, G, ρ, S, r1, S1, hE, hS, h1, fun v1 m1 H1 s1 hS1 q1 _ => ⟨m1, G, ρ, S1, r2, S2, hE.step s1, hS1, h2, fun v2 m2 H2 s2 hS2 q2 _ => ?_⟩⟩
  refine ⟨m2, G, S2, p, q, _, hS2, (q1.step s2).rd hS2 hp, q2.rd hS2 hq, hf, fun v H' e q o => ?_⟩
  exact k v m2 H' ((s1.trans s2).trans (Step.of_ext e)) (hS2.ext e) q (o.back (s1.trans s2).dom)
theorem xe_bin {op : Operator} {f : P → P → Option R} (ho : OpR X (binaryOp op) (rOf X.K f)) (ha : PE X a (tOf X.K xa)) (hb : PE X b (tOf X.K xb)) : PE X (.BinOp a op b pos) (tOf X.K (xBin f xa xb)) :=
  PE.imp (pe_op ho ha hb) fun σ H Q h => tOf.bin h
theorem xe_cmp {op : CmpOp} {f : P → P → Option R} (ho : OpR X (compareOp op) (rOf X.K f)) (ha : PE X a (tOf X.K xa)) (hb : PE X b (tOf X.K xb)) (hm : behindInMarks op b = false) : PE X (.Compare a [op] [b] pos) (tOf X.K (xBin f xa xb)) :=
  PE.imp (pe_cmpR ho ha hb hm) fun σ H Q h => tOf.bin h
theorem xe_un {op : UnaryOp} {f : P → Option R} (ho : UnR X (unaryOp op) (uOf X.K f)) (ha : PE X a (tOf X.K xa)) : PE X (.UnaryOp op a pos) (tOf X.K (xUn f xa)) :=
  PE.imp (pe_un ho ha) fun σ H Q h => by
    obtain ⟨m, G, ρ, S, r, S', hE, hS, hx, k⟩ := h
    simp only [xUn, Option.bind_eq_some_iff, Option.map_eq_some_iff] at hx
    obtain ⟨⟨r1, S1⟩, h1, p, hp, r', hf, e⟩ := hx
    cases e
    refine ⟨m, G, ρ, S, r1, S1, hE, hS, h1, fun v1 m1 H1 s1 hS1 q1 _ => ⟨m1, G, S1, p, _, hS1, q1.rd hS1 hp, hf, fun v H' e q o => ?_⟩⟩
    exact k v m1 H' (s1.trans (Step.of_ext e)) (hS1.ext e) q (o.back s1.dom)
theorem tOf.chain {K : PySem.W.Frag} {σ : L2.St} {H : Hp} {Q : VK} {f g : P → P → Option R} {xa xb xc : XE} (h : tOf K (xChain f g xa xb xc) σ H Q) : tChain (rOf K f) (rOf K g) (tOf K xa) (tOf K xb) (tOf K xc) σ H Q := by
  obtain ⟨m, G, ρ, S, r, S', hE, hS, hx, k⟩ := h
  simp only [xChain, Option.bind_eq_some_iff] at hx
  obtain ⟨⟨r1, S1⟩, h1, ⟨r2, S2⟩, h2, p, hp, q, hq, r', hf, hx⟩ := hx
  refine ⟨m, G, ρ, S, r1, S1, hE, hS, h1, fun v1 m1 H1 s1 hS1 q1 _ => ⟨m1, G, ρ, S1, r2, S2, hE.step s1, hS1, h2, fun v2 m2 H2 s2 hS2 q2 _ => ?_⟩⟩
  refine ⟨m2, G, S2, p, q, r', hS2, (q1.step s2).rd hS2 hp, q2.rd hS2 hq, hf, fun v H3 e3 q3 _ => ?_⟩
  have s3 : Step m2 H2 m2 H3 := Step.of_ext e3
  split at hx
  · simp only [Option.bind_eq_some_iff, Option.map_eq_some_iff] at hx
    obtain ⟨⟨r4, S4⟩, h4, p', hp', w, hw, r'', hg, e⟩ := hx
    cases e
    simp only [RepR, RepP] at q3
    subst q3
    refine ⟨true, rfl, ?_⟩
    rw [if_pos rfl]
    refine ⟨m2, G, ρ, S2, r4, S4, (hE.step s1).step (s2.trans s3), hS2.ext e3, h4, fun v4 m4 H4 s4 hS4 q4 _ => ?_⟩
    refine ⟨m4, G, S4, p', w, _, hS4, (q2.step (s3.trans s4)).rd hS4 hp', q4.rd hS4 hw, hg, fun v5 H5 e5 q5 o5 => ?_⟩
    have s14 := ((s1.trans s2).trans s3).trans s4
    exact k v5 m4 H5 (s14.trans (Step.of_ext e5)) (hS4.ext e5) q5 (o5.back s14.dom)
  · cases hx
    simp only [RepR, RepP] at q3
    subst q3
    refine ⟨false, rfl, ?_⟩
    rw [if_neg (by simp)]
    exact k (.bl false) m2 H3 ((s1.trans s2).trans s3) (hS2.ext e3) (by simp [RepR, RepP]) trivial
  · cases hx
theorem xe_chain {op op' : CmpOp} {f g : P → P → Option R} (ho : OpR X (compareOp op) (rOf X.K f)) (ho' : OpR X (compareOp op') (rOf X.K g)) (ha : PE X a (tOf X.K xa)) (hb : PE X b (tOf X.K xb)) (hc : PE X c (tOf X.K xc)) (hm : lastMarks [op, op'] [b, c] = false := by rfl) :
    PE X (.Compare a [op, op'] [b, c] pos) (tOf X.K (xChain f g xa xb xc)) :=
  PE.imp (pe_chain ho ho' ha hb hc hm) fun σ H Q h => h.chain
theorem xe_one {op : BoolOp} (ha : PE X a (tOf X.K xa)) : PE X (.BoolOp op [a] pos) (tOf X.K xa) := pe_one ha
theorem xe_and {rest : List Expr} (ha : PE X a (tOf X.K xa)) (hb : PE X (.BoolOp .And (b :: rest) pos) (tOf X.K xb)) : PE X (.BoolOp .And (a :: b :: rest) pos) (tOf X.K (xAnd xa xb)) :=
  PE.imp (pe_and ha hb) fun σ H Q h => by
    obtain ⟨m, G, ρ, S, r, S', hE, hS, hx, k⟩ := h
    simp only [xAnd, Option.bind_eq_some_iff] at hx
    obtain ⟨⟨r1, S1⟩, h1, hx⟩ := hx
    refine ⟨m, G, ρ, S, r1, S1, hE, hS, h1, fun v1 m1 H1 s1 hS1 q1 _ => ?_⟩
    dsimp only at hx
    split at hx
    · simp only [RepR, RepP] at q1
      refine ⟨true, q1, ?_⟩
      rw [if_pos rfl]
      exact ⟨m1, G, ρ, S1, r, S', hE.step s1, hS1, hx, fun v m' H' s hS' q o => k v m' H' (s1.trans s) hS' q (o.back s1.dom)⟩
    · cases hx
      simp only [RepR, RepP] at q1
      refine ⟨false, q1, ?_⟩
      rw [if_neg (by simp)]
      exact k _ m1 H1 s1 hS1 (by simp [RepR, RepP]) trivial
    · cases hx
theorem xe_or {rest : List Expr} (ha : PE X a (tOf X.K xa)) (hb : PE X (.BoolOp .Or (b :: rest) pos) (tOf X.K xb)) : PE X (.BoolOp .Or (a :: b :: rest) pos) (tOf X.K (xOr xa xb)) :=
  PE.imp (pe_or ha hb) fun σ H Q h => by
    obtain ⟨m, G, ρ, S, r, S', hE, hS, hx, k⟩ := h
    simp only [xOr, Option.bind_eq_some_iff] at hx
    obtain ⟨⟨r1, S1⟩, h1, hx⟩ := hx
    refine ⟨m, G, ρ, S, r1, S1, hE, hS, h1, fun v1 m1 H1 s1 hS1 q1 _ => ?_⟩
    dsimp only at hx
    split at hx
    · cases hx
      simp only [RepR, RepP] at q1
      refine ⟨true, q1, ?_⟩
      rw [if_pos rfl]
      exact k _ m1 H1 s1 hS1 (by simp [RepR, RepP]) trivial
    · simp only [RepR, RepP] at q1
      refine ⟨false, q1, ?_⟩
      rw [if_neg (by simp)]
      exact ⟨m1, G, ρ, S1, r, S', hE.step s1, hS1, hx, fun v m' H' s hS' q o => k v m' H' (s1.trans s) hS' q (o.back s1.dom)⟩
    · cases hx
theorem xe_not (ha : PE X a (tOf X.K xa)) : PE X (.UnaryOp .Not a pos) (tOf X.K (xNot xa)) :=
  PE.imp (pe_not ha) fun σ H Q h => by
    obtain ⟨m, G, ρ, S, r, S', hE, hS, hx, k⟩ := h
    simp only [xNot, Option.bind_eq_some_iff] at hx
    obtain ⟨⟨r1, S1⟩, h1, hx⟩ := hx
    refine ⟨m, G, ρ, S, r1, S1, hE, hS, h1, fun v1 m1 H1 s1 hS1 q1 _ => ?_⟩
    dsimp only at hx
    split at hx
    · cases hx
      simp only [RepR, RepP] at q1
      exact ⟨_, q1, k _ m1 H1 s1 hS1 (by simp [RepR, RepP]) trivial⟩
    · cases hx
theorem xe_ifExp {xt : XT} (ht : PT X c (tOfT X.K xt)) (ha : PE X a (tOf X.K xa)) (hb : PE X b (tOf X.K xb)) : PE X (.IfExp c a b pos) (tOf X.K (xIf xt xa xb)) :=
  PE.imp (pe_ifExp ht ha hb) fun σ H Q h => by
    obtain ⟨m, G, ρ, S, r, S', hE, hS, hx, k⟩ := h
    simp only [xIf, Option.bind_eq_some_iff] at hx
    obtain ⟨⟨r1, S1⟩, h1, hx⟩ := hx
    refine ⟨m, G, ρ, S, r1, S1, hE, hS, h1, fun m1 H1 s1 hS1 => ?_⟩
    dsimp only at hx
    cases r1 with
    | true => exact ⟨m1, G, ρ, S1, r, S', hE.step s1, hS1, by simpa using hx, fun v m' H' s hS' q o => k v m' H' (s1.trans s) hS' q (o.back s1.dom)⟩
    | false => exact ⟨m1, G, ρ, S1, r, S', hE.step s1, hS1, by simpa using hx, fun v m' H' s hS' q o => k v m' H' (s1.trans s) hS' q (o.back s1.dom)⟩
/-! ### tests -/
theorem xt_B (h : PE X e (tOf X.K xa)) (he : ∀ whole, isTrue e X.env whole = (do let v ← whole; standAt e.pos; holding [v] (truthy v)) := by intro _; rfl) : PT X e (tOfT X.K (xB xa)) :=
  PT.imp (pt_val h he) fun σ H Q h => by
    obtain ⟨m, G, ρ, S, r, S', hE, hS, hx, k⟩ := h
    simp only [xB, Option.bind_eq_some_iff] at hx
    obtain ⟨⟨r1, S1⟩, h1, hx⟩ := hx
    refine ⟨m, G, ρ, S, r1, S1, hE, hS, h1, fun v1 m1 H1 s1 hS1 q1 _ => ?_⟩
    dsimp only at hx
    split at hx
    · cases hx
      simp only [RepR, RepP] at q1
      exact ⟨_, q1, k m1 H1 s1 hS1⟩
    · cases hx
theorem xt_cmp {op : CmpOp} {f : P → P → Option R} (ho : OpR X (compareOp op) (rOf X.K f)) (ha : PE X a (tOf X.K xa)) (hb : PE X b (tOf X.K xb)) (hm : behindInMarks op b = false) : PT X (.Compare a [op] [b] pos) (tOfT X.K (xB (xBin f xa xb))) :=
  PT.imp (pt_cmpR ho ha hb hm) fun σ H Q h => by
    obtain ⟨m, G, ρ, S, r, S', hE, hS, hx, k⟩ := h
    simp only [xB, Option.bind_eq_some_iff] at hx
    obtain ⟨⟨r1, S1⟩, h1, hx⟩ := hx
    have q : tOf X.K (xBin f xa xb) σ H (fun x H' => ∃ k, x = .bl k ∧ Q k H') := by
      refine ⟨m, G, ρ, S, r1, S1, hE, hS, h1, fun v1 m1 H1 s1 hS1 q1 _ => ?_⟩
      dsimp only at hx
      split at hx
      · cases hx
        simp only [RepR, RepP] at q1
        exact ⟨_, q1, k m1 H1 s1 hS1⟩
      · cases hx
    exact tOf.bin q
theorem xt_chain {op op' : CmpOp} {f g : P → P → Option R} (ho : OpR X (compareOp op) (rOf X.K f)) (ho' : OpR X (compareOp op') (rOf X.K g)) (ha : PE X a (tOf X.K xa)) (hb : PE X b (tOf X.K xb)) (hc : PE X c (tOf X.K xc)) (hm : lastMarks [op, op'] [b, c] = false := by rfl) :
    PT X (.Compare a [op, op'] [b, c] pos) (tOfT X.K (xB (xChain f g xa xb xc))) :=
  PT.imp (pt_chain ho ho' ha hb hc hm) fun σ H Q h => by
    obtain ⟨m, G, ρ, S, r, S', hE, hS, hx, k⟩ := h
    simp only [xB, Option.bind_eq_some_iff] at hx
    obtain ⟨⟨r1, S1⟩, h1, hx⟩ := hx
    have q : tOf X.K (xChain f g xa xb xc) σ H (fun x H' => ∃ k, x = .bl k ∧ Q k H') := by
      refine ⟨m, G, ρ, S, r1, S1, hE, hS, h1, fun v1 m1 H1 s1 hS1 q1 _ => ?_⟩
      dsimp only at hx
      split at hx
      · cases hx
        simp only [RepR, RepP] at q1
        exact ⟨_, q1, k m1 H1 s1 hS1⟩
      · cases hx
    exact tOf.chain q
theorem xt_and {rest : List Expr} {xs xt : XT} (ha : PT X a (tOfT X.K xs)) (hb : PW X (.BoolOp .And (b :: rest) pos) (tOfT X.K xt)) : PW X (.BoolOp .And (a :: b :: rest) pos) (tOfT X.K (xTand xs xt)) :=
  PW.imp (pw_and ha hb) fun σ H Q h => by
    obtain ⟨m, G, ρ, S, r, S', hE, hS, hx, k⟩ := h
    simp only [xTand, Option.bind_eq_some_iff] at hx
    obtain ⟨⟨r1, S1⟩, h1, hx⟩ := hx
    refine ⟨m, G, ρ, S, r1, S1, hE, hS, h1, fun m1 H1 s1 hS1 => ?_⟩
    dsimp only at hx
    cases r1 with
    | true =>
      rw [if_pos rfl] at hx ⊢
      exact ⟨m1, G, ρ, S1, r, S', hE.step s1, hS1, hx, fun m' H' s hS' => k m' H' (s1.trans s) hS'⟩
    | false =>
      rw [if_neg (by simp)] at hx ⊢
      cases hx
      exact k m1 H1 s1 hS1
theorem xt_or {rest : List Expr} {xs xt : XT} (ha : PT X a (tOfT X.K xs)) (hb : PW X (.BoolOp .Or (b :: rest) pos) (tOfT X.K xt)) : PW X (.BoolOp .Or (a :: b :: rest) pos) (tOfT X.K (xTor xs xt)) :=
  PW.imp (pw_or ha hb) fun σ H Q h => by
    obtain ⟨m, G, ρ, S, r, S', hE, hS, hx, k⟩ := h
    simp only [xTor, Option.bind_eq_some_iff] at hx
    obtain ⟨⟨r1, S1⟩, h1, hx⟩ := hx
    refine ⟨m, G, ρ, S, r1, S1, hE, hS, h1, fun m1 H1 s1 hS1 => ?_⟩
    dsimp only at hx
    cases r1 with
    | true =>
      rw [if_pos rfl] at hx ⊢
      cases hx
      exact k m1 H1 s1 hS1
    | false =>
      rw [if_neg (by simp)] at hx ⊢
      exact ⟨m1, G, ρ, S1, r, S', hE.step s1, hS1, hx, fun m' H' s hS' => k m' H' (s1.trans s) hS'⟩
theorem xt_and1 {xs : XT} (ha : PT X a (tOfT X.K xs)) : PW X (.BoolOp .And [a] pos) (tOfT X.K xs) := pw_and1 ha
theorem xt_or1 {xs : XT} (ha : PT X a (tOfT X.K xs)) : PW X (.BoolOp .Or [a] pos) (tOfT X.K xs) := pw_or1 ha
theorem xt_not {xs : XT} (ha : PT X a (tOfT X.K xs)) : PT X (.UnaryOp .Not a pos) (tOfT X.K (xTnot xs)) :=
  PT.imp (pt_not ha) fun σ H Q h => by
    obtain ⟨m, G, ρ, S, r, S', hE, hS, hx, k⟩ := h
    simp only [xTnot, Option.map_eq_some_iff] at hx
    obtain ⟨⟨r1, S1⟩, h1, hx⟩ := hx
    cases hx
    exact ⟨m, G, ρ, S, r1, S1, hE, hS, h1, fun m1 H1 s1 hS1 => k m1 H1 s1 hS1⟩
theorem xts_nil : PTs X [] (tOfT X.K xTyes) := ⟨fun pins s σ H Q I h => pts_nil.run pins s σ H Q I (by
  obtain ⟨m, G, ρ, S, r, S', hE, hS, hx, k⟩ := h
  cases hx
  exact k m H Step.refl hS)⟩
theorem xts_one {xs : XT} (ha : PT X c (tOfT X.K xs)) : PTs X [c] (tOfT X.K xs) := pts_one ha
/-! ### arguments, displays -/
variable {es : List Expr} {xs : XA}
theorem xa_nil : PA X [] (tOfA X.K xNil) := PA.imp pa_nil fun σ H Q h => by
  obtain ⟨m, G, ρ, S, r, S', hE, hS, hx, k⟩ := h
  cases hx
  exact k [] m H Step.refl hS rfl
theorem xa_cons (ha : PE X e (tOf X.K xa)) (hr : PA X es (tOfA X.K xs)) (hs : starEach (e :: es) X.env = (false, eval e X.env) :: starEach es X.env := by rfl) : PA X (e :: es) (tOfA X.K (xCons xa xs)) :=
  PA.imp (pa_cons ha hr hs) fun σ H Q h => by
    obtain ⟨m, G, ρ, S, r, S', hE, hS, hx, k⟩ := h
    simp only [xCons, Option.bind_eq_some_iff, Option.map_eq_some_iff] at hx
    obtain ⟨⟨r1, S1⟩, h1, ⟨r2, S2⟩, h2, e⟩ := hx
    cases e
    refine ⟨m, G, ρ, S, r1, S1, hE, hS, h1, fun v1 m1 H1 s1 hS1 q1 _ => ⟨m1, G, ρ, S1, r2, S2, hE.step s1, hS1, h2, fun vs m2 H2 s2 hS2 q2 => ?_⟩⟩
    exact k (v1 :: vs) m2 H2 (s1.trans s2) hS2 ⟨v1, vs, rfl, q1.step s2, q2⟩
theorem big_size {n : Nat} (h : n ≤ big) : n ≤ sizeLine := Nat.le_trans h (by decide)
theorem xe_tup {x1} (h : PA X es (tOfA X.K xs)) : PE X (.Tuple es x1 pos) (tOf X.K (xTup xs)) := PE.imp (pe_tup h) fun σ H Q h => by
  obtain ⟨m, G, ρ, S, r, S', hE, hS, hx, k⟩ := h
  simp only [xTup, Option.bind_eq_some_iff] at hx
  obtain ⟨⟨rs, S1⟩, h1, ds, hd, hx⟩ := hx
  split at hx
  · rename_i hz
    cases hx
    refine ⟨m, G, ρ, S, rs, _, hE, hS, h1, fun vs m1 H1 s1 hS1 q1 => ?_⟩
    have r1 := q1.fzs hd
    refine ⟨by rw [← r1.length]; exact big_size hz, fun p hp => ?_⟩
    have e := Ext.new (o := .tup vs) hp
    have s2 : Step m1 H1 m1 (upd H1 p (.tup vs)) := Step.of_ext e
    refine k (.ref p) m1 _ (s1.trans s2) (hS1.ext e) ?_ trivial
    simp only [RepR, RepP]
    exact ⟨p, vs, rfl, .inl ⟨.inl upd_same, hS1.fresh hp⟩, RepPs.step s2 ds vs r1⟩
  · cases hx
theorem xe_lst (h : PA X es (tOfA X.K xs)) : PE X (.List es pos) (tOf X.K (xLst xs)) := PE.imp (pe_lst h) fun σ H Q h => by
  obtain ⟨m, G, ρ, S, r, S', hE, hS, hx, k⟩ := h
  simp only [xLst, Option.bind_eq_some_iff] at hx
  obtain ⟨⟨rs, S1⟩, h1, ds, hd, hx⟩ := hx
  split at hx
  · rename_i hz
    cases hx
    refine ⟨m, G, ρ, S, rs, _, hE, hS, h1, fun vs m1 H1 s1 hS1 q1 => ?_⟩
    have r1 := q1.fzs hd
    refine ⟨by rw [← r1.length]; exact big_size hz, fun p hp => ?_⟩
    have e := Ext.new (o := .lst vs) hp
    have s2 : Step m1 H1 m1 (upd H1 p (.lst vs)) := Step.of_ext e
    exact k (.ref p) m1 _ (s1.trans s2) (hS1.ext e) ⟨p, vs, rfl, hS1.fresh hp, upd_same, RepPs.step s2 ds vs r1⟩ ((own_new hS1 hp r1).back s1.dom)
  · cases hx
/-- a built-in by values -/
theorem tOf.call {K : PySem.W.Frag} {σ : L2.St} {H : Hp} {Q : VK} {f : List P → Option R} {xs : XA} (h : tOf K (xCall f xs) σ H Q) : tCB (cOf K f) (tOfA K xs) σ H Q := by
  obtain ⟨m, G, ρ, S, r, S', hE, hS, hx, k⟩ := h
  simp only [xCall, Option.bind_eq_some_iff, Option.map_eq_some_iff] at hx
  obtain ⟨⟨rs, S1⟩, h1, ds, hd, r', hf, e⟩ := hx
  cases e
  refine ⟨m, G, ρ, S, rs, S1, hE, hS, h1, fun vs m1 H1 s1 hS1 q1 => ⟨m1, G, S1, ds, _, hS1, q1.rds hS1 hd, hf, fun v H' e q o => ?_⟩⟩
  exact k v m1 H' (s1.trans (Step.of_ext e)) (hS1.ext e) q (o.back s1.dom)
end
end XL
end
section
set_option Elab.async false
set_option linter.all false
set_option maxRecDepth 100000
set_option maxHeartbeats 1000000
namespace XL
open PySem L2

section
variable {K : PySem.W.Frag} {G m m' m1 m2 : List Addr} {H H' H0 H1 H2 : Hp}
theorem Step.pushed (s : Step m H m1 H1) {a : Addr} (h : H a = none) : Step m H (m1 ++ [a]) H1 := by
  obtain ⟨t, rfl, ht⟩ := s.pre
  refine ⟨⟨t ++ [a], by simp, fun b hb => ?_⟩, s.keep, s.dom, s.fz⟩
  rcases List.mem_append.mp hb with z | z
  · exact ht b z
  · simp at z; subst z; exact h
/-- the general move of data: the cells change, the guarded ones too -/
theorem RepP.move {G' : List Addr} (k : ∀ a o, H a = some o → a ∉ m ++ G → H' a = some o) (f : ∀ a, a ∈ m' ++ G' → a ∈ m ++ G ∨ H a = none) :
    (∀ (d : P) (v : V), RepP K (m ++ G) H d v → RepP K (m' ++ G') H' d v) ∧ ∀ (ds : List P) (vs : List V), RepPs K (m ++ G) H ds vs → RepPs K (m' ++ G') H' ds vs := by
  have mv : ∀ {a : Addr} {u : HO}, Rd H a u → a ∉ m ++ G → Rd H' a u ∧ a ∉ m' ++ G' := fun {a u} h hm => by
    refine ⟨?_, fun z => ?_⟩
    · rcases h with h | ⟨o, h⟩
      · exact .inl (k _ _ h hm)
      · exact .inr ⟨o, k _ _ h hm⟩
    · rcases f a z with z | z
      · exact hm z
      · exact rd_ne h z
  have key : ∀ (n : Nat), (∀ (d : P) (v : V), sizeOf d ≤ n → RepP K (m ++ G) H d v → RepP K (m' ++ G') H' d v) ∧ ∀ (ds : List P) (vs : List V), sizeOf ds ≤ n → RepPs K (m ++ G) H ds vs → RepPs K (m' ++ G') H' ds vs := by
    intro n
    induction n with
    | zero =>
      refine ⟨fun d v z => ?_, fun ds vs z => ?_⟩
      · cases d <;> simp at z
      · cases ds <;> simp at z
    | succ n ih =>
      refine ⟨fun d v z q => ?_, fun ds vs z q => ?_⟩
      · cases d with
        | tup ds =>
          simp only [RepP] at q ⊢
          obtain ⟨a, vs, e, f, r⟩ := q
          exact ⟨a, vs, e, f.elim (fun w => .inl (mv w.1 w.2)) .inr, ih.2 ds vs (by simp at z; omega) r⟩
        | lst ds =>
          simp only [RepP] at q ⊢
          obtain ⟨a, vs, e, f, r⟩ := q
          exact ⟨a, vs, e, f.elim (fun w => .inl (mv w.1 w.2)) .inr, ih.2 ds vs (by simp at z; omega) r⟩
        | non => simpa [RepP] using q
        | bl b => simpa [RepP] using q
        | int b => simpa [RepP] using q
        | str b => simpa [RepP] using q
      · cases ds with
        | nil => simpa [RepPs] using q
        | cons d ds =>
          simp only [RepPs] at q ⊢
          obtain ⟨v, r, e, q1, q2⟩ := q
          exact ⟨v, r, e, ih.1 d v (by simp at z; omega) q1, ih.2 ds r (by simp at z; omega) q2⟩
  exact ⟨fun d v => (key (sizeOf d)).1 d v (Nat.le_refl _), fun ds vs => (key (sizeOf ds)).2 ds vs (Nat.le_refl _)⟩
theorem RepD.sub (h : ∀ a, a ∈ m → a ∈ m') (g : ∀ (l : Nat) (a : Addr), m'[l]? = some a → m[l]? = some a) {d : D} {v : V} (q : RepD K G m' H d v) : RepD K G m H d v := by
  cases d with
  | p d =>
    exact (RepP.sub (m := m ++ G) (m' := m' ++ G) fun a ha => by
      simp only [List.mem_append] at ha ⊢
      exact ha.elim (fun z => .inl (h a z)) .inr).1 d v q
  | ref l => obtain ⟨a, e, z⟩ := q; exact ⟨a, e, g l a z⟩
theorem RepDs.step (s : Step m H m' H') : ∀ {ds : List D} {vs : List V}, RepDs K G m H ds vs → RepDs K G m' H' ds vs
  | [], vs, h => h
  | d :: ds, vs, h => by
    obtain ⟨v, w, e, h1, h2⟩ := h
    exact ⟨v, w, e, h1.step s, RepDs.step s h2⟩
theorem RepDs.length : ∀ {ds : List D} {vs : List V}, RepDs K G m H ds vs → ds.length = vs.length
  | [], vs, h => by simp only [RepDs] at h; subst h; rfl
  | d :: ds, vs, h => by
    obtain ⟨v, w, rfl, h1, h2⟩ := h
    simp [RepDs.length h2]
theorem RepDs.get : ∀ {ds : List D} {vs : List V} {i : Nat} {d : D}, RepDs K G m H ds vs → ds[i]? = some d → ∃ v, vs[i]? = some v ∧ RepD K G m H d v
  | [], vs, i, d, h, e => by simp at e
  | x :: ds, vs, 0, d, h, e => by
    obtain ⟨v, r, rfl, h1, h2⟩ := h
    simp at e; subst e
    exact ⟨v, by simp, h1⟩
  | x :: ds, vs, i + 1, d, h, e => by
    obtain ⟨v, r, rfl, h1, h2⟩ := h
    obtain ⟨w, hw, q⟩ := RepDs.get (i := i) h2 (by simpa using e)
    exact ⟨w, by simpa using hw, q⟩
theorem RepE.set {ρ : Env} {σ : L2.St} {i : Nat} {d : D} {v : V} (h : RepE K G m H ρ σ) (q : RepD K G m H d v) : RepE K G m H (ρ.set i (some d)) (σ.set i (some v)) := by
  refine ⟨by simp [h.len], fun j e hj => ?_⟩
  by_cases c : i = j
  · subst c
    have hl : i < ρ.length := by
      have := (List.getElem?_eq_some_iff.mp hj).1
      simpa using this
    rw [List.getElem?_set_self hl] at hj
    simp only [Option.some.injEq] at hj
    subst hj
    exact ⟨v, List.getElem?_set_self (h.len ▸ hl), q⟩
  · rw [List.getElem?_set_ne c] at hj
    obtain ⟨w, hw, qw⟩ := h.slot j e hj
    exact ⟨w, by rw [List.getElem?_set_ne c]; exact hw, qw⟩
/-- a new thing becomes a cell -/
theorem box_ok {S : Sto} {r : R} {v : V} (s : Step m H m1 H1) (hS : RepSt K G m1 S H1) (q : RepR K G m1 H1 r v) (o : Own K H G m1 H1 S r v) :
    ∃ m2, Step m H m2 H1 ∧ RepSt K G m2 (r.box S).2 H1 ∧ RepD K G m2 H1 (r.box S).1 v := by
  cases r with
  | p d => exact ⟨m1, s, hS, q⟩
  | ref l => exact ⟨m1, s, hS, q⟩
  | frl ds =>
    obtain ⟨a, rfl, h0, q2⟩ := o
    have hl := hS.len
    exact ⟨m1 ++ [a], s.pushed h0, q2, a, rfl, by simp [← hl]⟩
  | frd t kvs =>
    obtain ⟨a, rfl, h0, q2⟩ := o
    have hl := hS.len
    exact ⟨m1 ++ [a], s.pushed h0, q2, a, rfl, by simp [← hl]⟩
theorem arg_ok {S : Sto} {r : R} {v : V} (s : Step m H m1 H1) (hS : RepSt K G m1 S H1) (q : RepR K G m1 H1 r v) (o : Own K H G m1 H1 S r v) :
    ∃ m2, Step m H m2 H1 ∧ RepSt K G m2 (r.arg S).2 H1 ∧ RepD K G m2 H1 (r.arg S).1 v := by
  cases r with
  | p d => exact ⟨m1, s, hS, q⟩
  | ref l => exact ⟨m1, s, hS, q⟩
  | frl ds => exact ⟨m1, s, hS, RepR.fz (r := .frl ds) q rfl⟩
  | frd t kvs =>
    obtain ⟨a, rfl, h0, q2⟩ := o
    have hl := hS.len
    exact ⟨m1 ++ [a], s.pushed h0, q2, a, rfl, by simp [← hl]⟩
/-- some of the cells, in another order -/
theorem RepSt.pick {S : Sto} (hS : RepSt K G m S H) (js : List Nat) (hn : js.Nodup) (hb : ∀ k ∈ js, k < m.length) :
    RepSt K G (js.map fun k => m.getD k 0) (js.map fun k => S.getD k (.lst [])) H := by
  have hm : ∀ k ∈ js, m[k]? = some (m.getD k 0) := fun k hk => by
    rw [List.getD_eq_getElem?_getD, List.getElem?_eq_getElem (hb k hk)]; rfl
  have sub : ∀ a, a ∈ js.map (fun k => m.getD k 0) → a ∈ m := fun a ha => by
    obtain ⟨k, hk, rfl⟩ := List.mem_map.mp ha
    exact List.mem_of_getElem? (hm k hk)
  have sub2 : ∀ a, a ∈ js.map (fun k => m.getD k 0) ++ G → a ∈ m ++ G := fun a ha => by
    simp only [List.mem_append] at ha ⊢
    exact ha.elim (fun z => .inl (sub a z)) .inr
  refine ⟨by simp, ?_, fun l a c h1 h2 => ?_, fun a ha => ⟨(hS.gd a ha).1, fun z => (hS.gd a ha).2 (sub a z)⟩⟩
  · unfold List.Nodup
    rw [List.pairwise_map]
    refine List.Pairwise.imp_of_mem (fun {x y} hx hy hne e => hne ?_) hn
    have e1 := hm x hx
    have e2 := hm y hy
    rw [e] at e1
    exact (List.getElem?_inj (hb x hx) hS.nd).mp (e1.trans e2.symm)
  · rw [List.getElem?_map] at h1 h2
    cases hj : js[l]? with
    | none => rw [hj] at h1; cases h1
    | some k =>
      rw [hj] at h1 h2
      simp only [Option.map_some, Option.some.injEq] at h1 h2
      have hk : k ∈ js := List.mem_of_getElem? hj
      have hk2 : k < S.length := hS.len ▸ hb k hk
      have q := hS.cell k a c (by rw [hm k hk, h1]) (by rw [List.getElem?_eq_getElem hk2, ← h2, List.getD_eq_getElem?_getD, List.getElem?_eq_getElem hk2]; rfl)
      obtain ⟨ws, o, z, kk, w⟩ := q
      exact ⟨ws, o, z, kk, (RepP.sub sub2).2 _ ws w⟩
theorem take_range {α : Type} (d : α) : ∀ (n : Nat) (l : List α), n ≤ l.length → (List.range n).map (fun k => l.getD k d) = l.take n := by
  intro n l h
  apply List.ext_getElem?
  intro i
  rw [List.getElem?_map, List.getElem?_take]
  by_cases hi : i < n
  · rw [List.getElem?_range hi, if_pos hi]
    simp only [Option.map_some, List.getD_eq_getElem?_getD]
    rw [List.getElem?_eq_getElem (by omega)]; rfl
  · rw [if_neg hi, List.getElem?_eq_none (by simp; omega)]; rfl
theorem nodup_range_app {n : Nat} {ks : List Nat} (hn : ks.Nodup) (h : ∀ k ∈ ks, n ≤ k) : (List.range n ++ ks).Nodup := by
  rw [List.nodup_append]
  refine ⟨List.nodup_range, hn, fun a ha b hb e => ?_⟩
  have h1 := List.mem_range.mp ha
  have h2 := h b hb
  omega
/-- the first n cells and some others -/
theorem RepSt.pickT {S : Sto} (hS : RepSt K G m S H) (n : Nat) (ks : List Nat) (hn : n ≤ m.length) (nd : ks.Nodup) (hk : ∀ k ∈ ks, n ≤ k ∧ k < m.length) :
    RepSt K G (m.take n ++ ks.map fun k => m.getD k 0) (S.take n ++ ks.map fun k => S.getD k (.lst [])) H := by
  have q := hS.pick (List.range n ++ ks) (nodup_range_app nd fun k h => (hk k h).1) (fun k h => by
    rcases List.mem_append.mp h with z | z
    · have := List.mem_range.mp z; omega
    · exact (hk k z).2)
  rw [List.map_append, List.map_append, take_range 0 n m hn, take_range (.lst []) n S (by rw [← hS.len]; exact hn)] at q
  exact q
theorem RepSt.takeT {S : Sto} (hS : RepSt K G m S H) (n : Nat) (hn : n ≤ m.length) : RepSt K G (m.take n) (S.take n) H := by
  have q := hS.pickT n [] hn List.nodup_nil (fun k h => by cases h)
  simpa using q
/-- behind a def -/
theorem finish_ok {S' S2 : Sto} {r r2 : R} {v : V} {n : Nat} (hn : m.length = n) (s : Step m H m' H') (hS : RepSt K G m' S' H') (q : RepR K G m' H' r v) (o : Own K H G m' H' S' r v) (e : finish n r S' = some (r2, S2)) :
    RepSt K G m S2 H' ∧ RepR K G m H' r2 v ∧ Own K H G m H' S2 r2 v := by
  obtain ⟨t, em, ht⟩ := s.pre
  have hl : n ≤ m'.length := by rw [em]; simp; omega
  have tk : m'.take n = m := by rw [em, ← hn]; simp
  have sub : ∀ a, a ∈ m ++ G → a ∈ m' ++ G := fun a ha => by
    rw [em]
    simp only [List.mem_append] at ha ⊢
    exact ha.elim (fun z => .inl (.inl z)) .inr
  have st : RepSt K G m (S'.take n) H' := by rw [← tk]; exact hS.takeT n hl
  cases r with
  | p d =>
    cases e
    exact ⟨st, (RepP.sub sub).1 d v q, trivial⟩
  | ref l =>
    obtain ⟨a, rfl, hm⟩ := q
    simp only [finish] at e
    split at e
    · rename_i hln
      cases e
      refine ⟨st, ⟨a, rfl, ?_⟩, trivial⟩
      rw [em, List.getElem?_append_left (by omega)] at hm
      exact hm
    · rename_i hln
      have hlm : l < m'.length := (List.getElem?_eq_some_iff.mp hm).1
      have e0 : m'.getD l 0 = a := by rw [List.getD_eq_getElem?_getD, hm]; rfl
      have pk := hS.pickT n [l] hl (by simp) (fun k h => by simp at h; subst h; exact ⟨by omega, hlm⟩)
      rw [tk] at pk
      simp only [List.map_cons, List.map_nil, e0] at pk
      have ha : H a = none := by
        refine ht a ?_
        rw [em, List.getElem?_append_right (by omega)] at hm
        exact List.mem_of_getElem? hm
      split at e
      · rename_i ds hd
        cases e
        have e1 : S'.getD l (.lst []) = .lst ds := by rw [List.getD_eq_getElem?_getD, hd]; rfl
        rw [e1] at pk
        have ow : Own K H G m H' (S'.take n) (.frl ds) (.ref a) := ⟨a, rfl, ha, pk⟩
        exact ⟨st, (own_rep ow).2, ow⟩
      · rename_i t kvs hd
        cases e
        have e1 : S'.getD l (.lst []) = .dct false t kvs := by rw [List.getD_eq_getElem?_getD, hd]; rfl
        rw [e1] at pk
        have ow : Own K H G m H' (S'.take n) (.frd t kvs) (.ref a) := ⟨a, rfl, ha, pk⟩
        exact ⟨st, (own_repD ow).2, ow⟩
      · cases e
  | frl ds =>
    cases e
    obtain ⟨a, rfl, h0, q2⟩ := o
    have hlen := q2.len
    simp only [List.length_append, List.length_singleton] at hlen
    have pk := q2.pickT n [m'.length] (by simp; omega) (by simp) (fun k h => by simp at h; subst h; exact ⟨hl, by simp⟩)
    rw [List.take_append_of_le_length hl, tk, List.take_append_of_le_length (by omega)] at pk
    have e1 : (m' ++ [a]).getD m'.length 0 = a := by simp [List.getD_eq_getElem?_getD]
    have e2 : (S' ++ [Cell.lst ds]).getD m'.length (.lst []) = .lst ds := by
      have : m'.length = S'.length := by omega
      rw [this]; simp [List.getD_eq_getElem?_getD]
    simp only [List.map_cons, List.map_nil, e1, e2] at pk
    have ow : Own K H G m H' (S'.take n) (.frl ds) (.ref a) := ⟨a, rfl, h0, pk⟩
    exact ⟨st, (own_rep ow).2, ow⟩
  | frd t kvs =>
    cases e
    obtain ⟨a, rfl, h0, q2⟩ := o
    have hlen := q2.len
    simp only [List.length_append, List.length_singleton] at hlen
    have pk := q2.pickT n [m'.length] (by simp; omega) (by simp) (fun k h => by simp at h; subst h; exact ⟨hl, by simp⟩)
    rw [List.take_append_of_le_length hl, tk, List.take_append_of_le_length (by omega)] at pk
    have e1 : (m' ++ [a]).getD m'.length 0 = a := by simp [List.getD_eq_getElem?_getD]
    have e2 : (S' ++ [Cell.dct false t kvs]).getD m'.length (.lst []) = .dct false t kvs := by
      have : m'.length = S'.length := by omega
      rw [this]; simp [List.getD_eq_getElem?_getD]
    simp only [List.map_cons, List.map_nil, e1, e2] at pk
    have ow : Own K H G m H' (S'.take n) (.frd t kvs) (.ref a) := ⟨a, rfl, h0, pk⟩
    exact ⟨st, (own_repD ow).2, ow⟩
/-! ### cells dropped behind a turn -/
theorem slotRefs_spec (n0 : Nat) : ∀ (ρ : Env), (slotRefs n0 ρ).Nodup ∧ ∀ l, l ∈ slotRefs n0 ρ ↔ (n0 ≤ l ∧ some (D.ref l) ∈ ρ)
  | [] => ⟨by simp [slotRefs], fun l => by simp [slotRefs]⟩
  | none :: ρ => by
    obtain ⟨h1, h2⟩ := slotRefs_spec n0 ρ
    exact ⟨by simpa [slotRefs] using h1, fun l => by simp [slotRefs, h2 l]⟩
  | some (.p d) :: ρ => by
    obtain ⟨h1, h2⟩ := slotRefs_spec n0 ρ
    exact ⟨by simpa [slotRefs] using h1, fun l => by simp [slotRefs, h2 l]⟩
  | some (.ref k) :: ρ => by
    obtain ⟨h1, h2⟩ := slotRefs_spec n0 ρ
    by_cases c : n0 ≤ k ∧ k ∉ slotRefs n0 ρ
    · refine ⟨by simp [slotRefs, c, h1], fun l => ?_⟩
      simp only [slotRefs, if_pos c, List.mem_cons, h2 l]
      constructor
      · rintro (rfl | h)
        · exact ⟨c.1, .inl rfl⟩
        · exact ⟨h.1, .inr h.2⟩
      · rintro ⟨h, e | e⟩
        · simp only [Option.some.injEq, D.ref.injEq] at e
          exact .inl e
        · exact .inr ⟨h, e⟩
    · refine ⟨by simp only [slotRefs, if_neg c]; exact h1, fun l => ?_⟩
      simp only [slotRefs, if_neg c, List.mem_cons, h2 l]
      constructor
      · exact fun h => ⟨h.1, .inr h.2⟩
      · rintro ⟨h, e | e⟩
        · simp only [Option.some.injEq, D.ref.injEq] at e
          subst e
          by_cases z : l ∈ slotRefs n0 ρ
          · exact (h2 l).mp z
          · exact absurd ⟨h, z⟩ c
        · exact ⟨h, e⟩
theorem gc_ok {ρ : Env} {S : Sto} {σ : L2.St} (s : Step m H m' H') (hS : RepSt K G m' S H') (hE : RepE K G m' H' ρ σ) :
    ∃ m2, Step m H m2 H' ∧ RepSt K G m2 (gc m.length ρ S).2 H' ∧ RepE K G m2 H' (gc m.length ρ S).1 σ := by
  unfold gc
  split
  · exact ⟨m', s, hS, hE⟩
  · obtain ⟨t, em, ht⟩ := s.pre
    have hl : m.length ≤ m'.length := by rw [em]; simp
    have tk : m'.take m.length = m := by rw [em]; simp
    obtain ⟨nd, mem⟩ := slotRefs_spec m.length ρ
    have hk : ∀ k ∈ slotRefs m.length ρ, m.length ≤ k ∧ k < m'.length := fun k h => by
      obtain ⟨h1, h2⟩ := (mem k).mp h
      obtain ⟨i, hi⟩ := List.getElem?_of_mem h2
      obtain ⟨v, _, a, _, hm⟩ := hE.slot i _ hi
      exact ⟨h1, (List.getElem?_eq_some_iff.mp hm).1⟩
    have pk := hS.pickT m.length (slotRefs m.length ρ) hl nd hk
    rw [tk] at pk
    have inm : ∀ a, a ∈ m ++ (slotRefs m.length ρ).map (fun k => m'.getD k 0) → a ∈ m' := fun a ha => by
      rcases List.mem_append.mp ha with z | z
      · rw [em]; exact List.mem_append_left _ z
      · obtain ⟨k, hk2, rfl⟩ := List.mem_map.mp z
        rw [List.getD_eq_getElem?_getD, List.getElem?_eq_getElem (hk k hk2).2]
        exact List.getElem_mem _
    refine ⟨m ++ (slotRefs m.length ρ).map (fun k => m'.getD k 0), ⟨⟨_, rfl, fun a ha => ?_⟩, s.keep, s.dom, s.fz⟩, pk, by simp [hE.len], fun i d hd => ?_⟩
    · obtain ⟨k, hk2, rfl⟩ := List.mem_map.mp ha
      refine ht _ ?_
      obtain ⟨k1, k2⟩ := hk k hk2
      rw [List.getD_eq_getElem?_getD, List.getElem?_eq_getElem k2]
      simp only [em, Option.getD_some]
      rw [List.getElem_append_right k1]
      exact List.getElem_mem _
    · rw [List.getElem?_map] at hd
      cases hr : ρ[i]? with
      | none => rw [hr] at hd; cases hd
      | some x =>
        rw [hr] at hd
        simp only [Option.map_some, Option.some.injEq] at hd
        cases x with
        | none => simp [renSlot] at hd
        | some x =>
          obtain ⟨v, hv, q⟩ := hE.slot i x hr
          refine ⟨v, hv, ?_⟩
          cases x with
          | p d' =>
            simp only [renSlot, Option.some.injEq] at hd
            subst hd
            exact (RepP.sub (fun a ha => by
              simp only [List.mem_append] at ha ⊢
              exact ha.elim (fun z => .inl (inm a (by simpa using z))) .inr)).1 d' v q
          | ref l =>
            simp only [renSlot, Option.some.injEq] at hd
            subst hd
            obtain ⟨a, rfl, hm⟩ := q
            refine ⟨a, rfl, ?_⟩
            unfold renRef
            by_cases c : l < m.length
            · rw [if_pos c, List.getElem?_append_left c]
              rw [em, List.getElem?_append_left c] at hm
              exact hm
            · rw [if_neg c]
              have hl2 : l ∈ slotRefs m.length ρ := (mem l).mpr ⟨by omega, List.mem_of_getElem? hr⟩
              rw [List.getElem?_append_right (by omega)]
              have hx : (slotRefs m.length ρ).idxOf l < (slotRefs m.length ρ).length := List.idxOf_lt_length_iff.mpr hl2
              rw [show m.length + (slotRefs m.length ρ).idxOf l - m.length = (slotRefs m.length ρ).idxOf l by omega, List.getElem?_map, List.getElem?_eq_getElem hx]
              simp only [Option.map_some, List.getElem_idxOf, List.getD_eq_getElem?_getD, hm, Option.getD_some]
end
end XL
end
section
set_option Elab.async false
set_option linter.all false
set_option maxRecDepth 100000
set_option maxHeartbeats 1000000
namespace XL
open PySem L2
theorem FlOk.mono {K : PySem.W.Frag} {G m m1 : List Addr} {H H1 : Hp} {D : Ends} {S' : Sto} {fl : Fl} (s : Step m H m1 H1) (h : FlOk K G m H D S' fl) : FlOk K G m1 H1 D S' fl := by
  cases fl with
  | nx ρ => exact fun σ' m' H' st hS hE => h σ' m' H' (s.trans st) hS hE
  | bk ρ => exact fun σ' m' H' st hS hE => h σ' m' H' (s.trans st) hS hE
  | ct ρ => exact fun σ' m' H' st hS hE => h σ' m' H' (s.trans st) hS hE
  | rt r => exact fun v m' H' st hS q o => h v m' H' (s.trans st) hS q (o.back s.dom)
section
variable {K : PySem.W.Frag} {D : Ends} {σ : L2.St} {H : Hp}
theorem set_rd {xa : XE} {i : Nat} (h : tOfS K (xSet i xa) D σ H) : tAsg (tOf K xa) (gName i) D σ H := by
  obtain ⟨m, G, ρ, S, fl, S', hE, hS, hx, k⟩ := h
  simp only [xSet, Option.map_eq_some_iff] at hx
  obtain ⟨⟨r1, S1⟩, h1, e⟩ := hx
  cases e
  refine ⟨m, G, ρ, S, r1, S1, hE, hS, h1, fun v m1 H1 s1 hS1 q1 o1 => ?_⟩
  obtain ⟨m2, s2, hS2, q2⟩ := box_ok s1 hS1 q1 o1
  exact k _ m2 H1 s2 hS2 ((hE.step s2).set q2)
theorem drop_rd {xa : XE} (h : tOfS K (xDrop xa) D σ H) : tDrop (tOf K xa) D σ H := by
  obtain ⟨m, G, ρ, S, fl, S', hE, hS, hx, k⟩ := h
  simp only [xDrop, Option.map_eq_some_iff] at hx
  obtain ⟨⟨r1, S1⟩, h1, e⟩ := hx
  cases e
  exact ⟨m, G, ρ, S, r1, S1, hE, hS, h1, fun v m1 H1 s1 hS1 q1 o1 => k _ m1 H1 s1 hS1 (hE.step s1)⟩
theorem ret_rd {xa : XE} (h : tOfS K (xRet xa) D σ H) : tRet (tOf K xa) D σ H := by
  obtain ⟨m, G, ρ, S, fl, S', hE, hS, hx, k⟩ := h
  simp only [xRet, Option.map_eq_some_iff] at hx
  obtain ⟨⟨r1, S1⟩, h1, e⟩ := hx
  cases e
  exact ⟨m, G, ρ, S, r1, S1, hE, hS, h1, fun v m1 H1 s1 hS1 q1 o1 => k v m1 H1 s1 hS1 q1 o1⟩
theorem seq_rd {a b : XS} (h : tOfS K (xSeq a b) D σ H) : tSeq (tOfS K a) (tOfS K b) D σ H := by
  obtain ⟨m, G, ρ, S, fl, S', hE, hS, hx, k⟩ := h
  simp only [xSeq, Option.bind_eq_some_iff] at hx
  obtain ⟨⟨f1, S1⟩, h1, hx⟩ := hx
  dsimp only at hx
  cases f1 with
  | nx ρ1 => exact ⟨m, G, ρ, S, .nx ρ1, S1, hE, hS, h1, fun σ' m' H' st hS' hE' => ⟨m', G, ρ1, S1, fl, S', hE', hS', hx, k.mono st⟩⟩
  | rt r => cases hx; exact ⟨m, G, ρ, S, .rt r, _, hE, hS, h1, k⟩
  | bk r => cases hx; exact ⟨m, G, ρ, S, .bk r, _, hE, hS, h1, k⟩
  | ct r => cases hx; exact ⟨m, G, ρ, S, .ct r, _, hE, hS, h1, k⟩
theorem if_rd {t : XT} {a b : XS} (h : tOfS K (xIfS t a b) D σ H) : tIfS (tOfT K t) (tOfS K a) (tOfS K b) D σ H := by
  obtain ⟨m, G, ρ, S, fl, S', hE, hS, hx, k⟩ := h
  simp only [xIfS, Option.bind_eq_some_iff] at hx
  obtain ⟨⟨b1, S1⟩, h1, hx⟩ := hx
  refine ⟨m, G, ρ, S, b1, S1, hE, hS, h1, fun m1 H1 s1 hS1 => ?_⟩
  dsimp only at hx
  cases b1 with
  | true =>
    rw [if_pos rfl] at hx ⊢
    exact ⟨m1, G, ρ, S1, fl, S', hE.step s1, hS1, hx, k.mono s1⟩
  | false =>
    rw [if_neg (by simp)] at hx ⊢
    exact ⟨m1, G, ρ, S1, fl, S', hE.step s1, hS1, hx, k.mono s1⟩
end
section
variable {X : Cx} {e c : Expr} {xa : XE} {pos pos' : Pos} {st : Stmt} {rest body els : List Stmt} {sa sb : XS}
theorem xs_set {i : Nat} {x : Str} (hN : X.N.Nodup) (hi : X.N[i]? = some x) (hx : Loc X.env.scope x) (he : PE X e (tOf X.K xa)) (hs : swapsWith e (some (.Name x pos')) pos.line X.env = pure false := by rfl) (hf : X.fn x = true ∨ X.env.scope.names.lookup x = some .local := by first | exact .inl rfl | exact .inr rfl | assumption) :
    PS X (.Assign [.Name x pos'] e pos) (tOfS X.K (xSet i xa)) := PS.imp (ps_set hN hi hx he hs hf) fun D σ H h => set_rd h
theorem xs_drop (he : PE X e (tOf X.K xa)) (hs : swapsWith e none pos.line X.env = pure false := by rfl) : PS X (.Expr e pos) (tOfS X.K (xDrop xa)) := PS.imp (ps_expr he hs) fun D σ H h => drop_rd h
theorem xs_ret (he : PE X e (tOf X.K xa)) : PS X (.Return (some e) pos) (tOfS X.K (xRet xa)) := PS.imp (ps_ret he) fun D σ H h => ret_rd h
theorem xs_pass : PS X (.Pass pos) (tOfS X.K xPass) := PS.imp ps_pass fun D σ H h => by
  obtain ⟨m, G, ρ, S, fl, S', hE, hS, hx, k⟩ := h
  cases hx
  exact k σ m H Step.refl hS hE
theorem xs_never : PS X st (tOfS X.K xNever) := PS.imp ps_never fun D σ H h => by
  obtain ⟨m, G, ρ, S, fl, S', hE, hS, hx, k⟩ := h
  cases hx
theorem xss_never : PSs X rest (tOfS X.K xNever) := PSs.imp pss_never fun D σ H h => by
  obtain ⟨m, G, ρ, S, fl, S', hE, hS, hx, k⟩ := h
  cases hx
theorem xss_nil : PSs X [] (tOfS X.K xPass) := PSs.imp pss_nil fun D σ H h => by
  obtain ⟨m, G, ρ, S, fl, S', hE, hS, hx, k⟩ := h
  cases hx
  exact k σ m H Step.refl hS hE
theorem xss_cons (h1 : PS X st (tOfS X.K sa)) (h2 : PSs X rest (tOfS X.K sb)) : PSs X (st :: rest) (tOfS X.K (xSeq sa sb)) := PSs.imp (pss_cons h1 h2) fun D σ H h => seq_rd h
theorem xss_one (h1 : PS X st (tOfS X.K sa)) : PSs X [st] (tOfS X.K sa) := pss_one h1
theorem xs_if {t : XT} (hc : PT X c (tOfT X.K t)) (ha : PSs X body (tOfS X.K sa)) (hb : PSs X els (tOfS X.K sb)) : PS X (.If c body els pos) (tOfS X.K (xIfS t sa sb)) := PS.imp (ps_if hc ha hb) fun D σ H h => if_rd h
end

/-! ### targets -/
def Tg.slots : Tg → List Nat
  | .nm i => [i]
  | .tp is => is
def SameBut (vs : List Nat) (σ σ' : L2.St) : Prop := σ'.length = σ.length ∧ ∀ i, i ∉ vs → σ'[i]? = σ[i]?
def gOf (K : PySem.W.Frag) (t : Tg) : TG := fun v σ H Q => ∃ m G ρ d ρ', RepE K G m H ρ σ ∧ RepP K (m ++ G) H d v ∧ t.put d ρ = some ρ' ∧ ∀ σ', RepE K G m H ρ' σ' → SameBut t.slots σ σ' → Q σ' H
def gsOf (K : PySem.W.Frag) (is : List Nat) : TGs := fun vs σ H Q => ∃ m G ρ ds ρ', RepE K G m H ρ σ ∧ RepPs K (m ++ G) H ds vs ∧ setAll is ds ρ = some ρ' ∧ ∀ σ', RepE K G m H ρ' σ' → SameBut is σ σ' → Q σ' H
theorem PG.imp {X : Cx} {tg : Expr} {t t' : TG} (h : PG X tg t) (w : ∀ v σ H Q, t' v σ H Q → t v σ H Q) : PG X tg t' := ⟨fun pins s σ H v u Q I r q => h.run pins s σ H v u Q I r (w v σ H Q q)⟩
theorem PGs.imp {X : Cx} {tg : List Expr} {t t' : TGs} (h : PGs X tg t) (w : ∀ v σ H Q, t' v σ H Q → t v σ H Q) : PGs X tg t' := ⟨fun pins s σ H v u Q I r q => h.run pins s σ H v u Q I r (w v σ H Q q)⟩
theorem sameBut_set {σ : L2.St} {i : Nat} {x : Option V} {vs : List Nat} (h : i ∈ vs) : SameBut vs σ (σ.set i x) := ⟨by simp, fun j hj => List.getElem?_set_ne (fun (e : i = j) => hj (e ▸ h))⟩
theorem SameBut.trans {vs ws : List Nat} {σ σ1 σ2 : L2.St} (h : SameBut vs σ σ1) (q : SameBut ws σ1 σ2) (hv : ∀ i ∈ vs, i ∈ us) (hw : ∀ i ∈ ws, i ∈ us) : SameBut us σ σ2 :=
  ⟨q.1.trans h.1, fun i hi => (q.2 i fun z => hi (hw i z)).trans (h.2 i fun z => hi (hv i z))⟩
section
variable {X : Cx} {es : List Expr} {pos : Pos}
theorem xg_name {i : Nat} {x : Str} (hN : X.N.Nodup) (hi : X.N[i]? = some x) (hx : Loc X.env.scope x) (hf : X.fn x = true ∨ X.env.scope.names.lookup x = some .local := by first | exact .inl rfl | exact .inr rfl | assumption) : PG X (.Name x pos) (gOf X.K (.nm i)) :=
  PG.imp (pg_name hN hi hx hf) fun v σ H Q h => by
    obtain ⟨m, G, ρ, d, ρ', hE, hd, hp, k⟩ := h
    cases hp
    exact k _ (hE.set hd) (sameBut_set (by simp [Tg.slots]))
theorem xgs_nil : PGs X [] (gsOf X.K []) := PGs.imp pgs_nil fun v σ H Q h => by
  obtain ⟨m, G, ρ, d, ρ', hE, hd, hp, k⟩ := h
  cases d with
  | nil => cases hp; simp only [RepPs] at hd; exact ⟨hd, k σ hE ⟨rfl, fun _ _ => rfl⟩⟩
  | cons x xs => simp [setAll] at hp
theorem xgs_cons {e : Expr} {i : Nat} {is : List Nat} (h1 : PG X e (gName i)) (h2 : PGs X es (gsOf X.K is)) (hs : (assignEach (e :: es) X.env).map (·.2) = assign e X.env :: (assignEach es X.env).map (·.2) := by rfl) : PGs X (e :: es) (gsOf X.K (i :: is)) :=
  PGs.imp (pgs_cons h1 h2 hs) fun v σ H Q h => by
    obtain ⟨m, G, ρ, d, ρ', hE, hd, hp, k⟩ := h
    cases d with
    | nil => simp [setAll] at hp
    | cons x xs =>
      simp only [RepPs] at hd
      obtain ⟨w, r, rfl, q1, q2⟩ := hd
      simp only [setAll] at hp
      refine ⟨w, r, rfl, m, G, _, xs, ρ', hE.set (d := .p x) q1, q2, hp, fun σ' hE' sb => k σ' hE' ?_⟩
      exact (sameBut_set (vs := [i]) (by simp)).trans sb (by simp) (fun j hj => List.mem_cons_of_mem _ hj)
theorem setAll_length : ∀ {is : List Nat} {ds : List P} {ρ ρ' : Env}, setAll is ds ρ = some ρ' → ds.length = is.length
  | [], [], _, _, _ => rfl
  | [], _ :: _, _, _, h => by simp [setAll] at h
  | _ :: _, [], _, _, h => by simp [setAll] at h
  | i :: is, d :: ds, ρ, ρ', h => by simp only [setAll] at h; simp [setAll_length h]
theorem xg_tup {k : Nat} {is : List Nat} (hc : X.calm = true) (h : PGs X es (gsOf X.K is)) (hn : (assignEach es X.env).length = is.length := by rfl) (hst : (assignEach es X.env).findIdx? (·.1) = none := by rfl) : PG X (.Tuple es k pos) (gOf X.K (.tp is)) :=
  PG.imp (pg_tup hc h hn hst) fun v σ H Q h => by
    obtain ⟨m, G, ρ, d, ρ', hE, hd, hp, k⟩ := h
    cases d with
    | tup ds =>
      simp only [RepP] at hd
      obtain ⟨a, vs, rfl, f, r⟩ := hd
      simp only [Tg.put] at hp
      exact ⟨a, vs, rfl, f.sq, by rw [← r.length]; exact setAll_length hp, m, G, ρ, ds, ρ', hE, r, hp, k⟩
    | _ => simp [Tg.put] at hp
/-- a, b = e, e a tuple -/
theorem xs_unp {k : Nat} {is : List Nat} {e : Expr} {xa : XE} {tpos : Pos} (he : PE X e (tOf X.K xa)) (hg : PG X (.Tuple es k tpos) (gOf X.K (.tp is))) (hs : swapsWithSole [.Tuple es k tpos] e pos.line X.env = pure false := by rfl) (hw : swappedStores [.Tuple es k tpos] e X.env = pure none := by rfl)
    (h1 : (assignEach [.Tuple es k tpos] X.env).map (·.2) = [assign (.Tuple es k tpos) X.env] := by rfl) : PS X (.Assign [.Tuple es k tpos] e pos) (tOfS X.K (xUnp is xa)) :=
  PS.imp (ps_asg he hg hs hw h1) fun D σ H h => by
    obtain ⟨m, G, ρ, S, fl, S', hE, hS, hx, k⟩ := h
    simp only [xUnp, Option.bind_eq_some_iff, Option.map_eq_some_iff] at hx
    obtain ⟨⟨r1, S1⟩, h1, d, hd, ρ', hp, e⟩ := hx
    cases e
    refine ⟨m, G, ρ, S, r1, S1, hE, hS, h1, fun v m1 H1 s1 hS1 q1 o1 => ?_⟩
    have q := q1.rd hS1 hd
    cases d with
    | tup ds => exact ⟨m1, G, ρ, .tup ds, ρ', hE.step s1, q, hp, fun σ' hE' _ => k σ' m1 H1 s1 hS1 hE'⟩
    | _ => simp [Tg.put] at hp
end

/-! ### several values at once -/
def tOfD (K : PySem.W.Frag) (x : XD) : TA := fun σ H Q => ∃ m G ρ S ds S', RepE K G m H ρ σ ∧ RepSt K G m S H ∧ x ρ S = some (ds, S') ∧
  ∀ vs m' H', Step m H m' H' → RepSt K G m' S' H' → RepDs K G m' H' ds vs → Q vs H'
section
variable {X : Cx} {e : Expr} {es : List Expr} {pos : Pos} {xa : XE} {xs : XD}
theorem xd_nil : PA X [] (tOfD X.K xNilD) := PA.imp pa_nil fun σ H Q h => by
  obtain ⟨m, G, ρ, S, r, S', hE, hS, hx, k⟩ := h
  cases hx
  exact k [] m H Step.refl hS rfl
theorem xd_consB (ha : PE X e (tOf X.K xa)) (hr : PA X es (tOfD X.K xs)) (hs : starEach (e :: es) X.env = (false, eval e X.env) :: starEach es X.env := by rfl) : PA X (e :: es) (tOfD X.K (xConsB xa xs)) :=
  PA.imp (pa_cons ha hr hs) fun σ H Q h => by
    obtain ⟨m, G, ρ, S, r, S', hE, hS, hx, k⟩ := h
    simp only [xConsB, Option.bind_eq_some_iff, Option.map_eq_some_iff] at hx
    obtain ⟨⟨r1, S1⟩, h1, ⟨r2, S2⟩, h2, e⟩ := hx
    cases e
    refine ⟨m, G, ρ, S, r1, S1, hE, hS, h1, fun v1 m1 H1 s1 hS1 q1 o1 => ?_⟩
    obtain ⟨mb, sb, hSb, qb⟩ := box_ok s1 hS1 q1 o1
    exact ⟨mb, G, ρ, _, r2, S2, hE.step sb, hSb, h2, fun vs m2 H2 s2 hS2 q2 => k (v1 :: vs) m2 H2 (sb.trans s2) hS2 ⟨v1, vs, rfl, qb.step s2, q2⟩⟩
theorem xd_cons (ha : PE X e (tOf X.K xa)) (hr : PA X es (tOfD X.K xs)) (hs : starEach (e :: es) X.env = (false, eval e X.env) :: starEach es X.env := by rfl) : PA X (e :: es) (tOfD X.K (xConsD xa xs)) :=
  PA.imp (pa_cons ha hr hs) fun σ H Q h => by
    obtain ⟨m, G, ρ, S, r, S', hE, hS, hx, k⟩ := h
    simp only [xConsD, Option.bind_eq_some_iff, Option.map_eq_some_iff] at hx
    obtain ⟨⟨r1, S1⟩, h1, ⟨r2, S2⟩, h2, e⟩ := hx
    cases e
    refine ⟨m, G, ρ, S, r1, S1, hE, hS, h1, fun v1 m1 H1 s1 hS1 q1 o1 => ?_⟩
    obtain ⟨mb, sb, hSb, qb⟩ := arg_ok s1 hS1 q1 o1
    exact ⟨mb, G, ρ, _, r2, S2, hE.step sb, hSb, h2, fun vs m2 H2 s2 hS2 q2 => k (v1 :: vs) m2 H2 (sb.trans s2) hS2 ⟨v1, vs, rfl, qb.step s2, q2⟩⟩
theorem setAllD_two {i j : Nat} {ds : List D} {ρ ρ' : Env} (h : setAllD [i, j] ds ρ = some ρ') : ∃ a b, ds = [a, b] ∧ ρ' = (ρ.set i (some a)).set j (some b) := by
  match ds, h with
  | [a, b], h => simp only [setAllD, Option.some.injEq] at h; exact ⟨a, b, rfl, h.symm⟩
  | [], h => simp [setAllD] at h
  | [_], h => simp [setAllD] at h
  | _ :: _ :: _ :: _, h => simp [setAllD] at h
theorem setAllD_three {i j l : Nat} {ds : List D} {ρ ρ' : Env} (h : setAllD [i, j, l] ds ρ = some ρ') : ∃ a b c, ds = [a, b, c] ∧ ρ' = ((ρ.set i (some a)).set j (some b)).set l (some c) := by
  match ds, h with
  | [a, b, c], h => simp only [setAllD, Option.some.injEq] at h; exact ⟨a, b, c, rfl, h.symm⟩
  | [], h => simp [setAllD] at h
  | [_], h => simp [setAllD] at h
  | [_, _], h => simp [setAllD] at h
  | _ :: _ :: _ :: _ :: _, h => simp [setAllD] at h
theorem par_rd2 {K : PySem.W.Frag} {D : Ends} {σ : L2.St} {H : Hp} {i j : Nat} (h : tOfS K (xPar [i, j] xs) D σ H) : tPar i j (tOfD K xs) D σ H := by
  obtain ⟨m, G, ρ, S, fl, S', hE, hS, hx, k⟩ := h
  simp only [xPar, Option.bind_eq_some_iff, Option.map_eq_some_iff] at hx
  obtain ⟨⟨ds, S1⟩, h1, ρ', hp, e⟩ := hx
  cases e
  obtain ⟨a, b, rfl, rfl⟩ := setAllD_two hp
  refine ⟨m, G, ρ, S, [a, b], _, hE, hS, h1, fun vs m1 H1 s1 hS1 q1 => ?_⟩
  obtain ⟨v, r, rfl, qa, w, r2, rfl, qb, e⟩ := q1
  simp only [RepDs] at e
  subst e
  exact ⟨v, w, rfl, k _ m1 H1 s1 hS1 (((hE.step s1).set qa).set qb)⟩
theorem xs_par {i j : Nat} {x y : Str} {a b : Expr} {px py pt : Pos} {kt k2 pt2} (hc : X.calm = true) (hN : X.N.Nodup) (hi : X.N[i]? = some x) (hj : X.N[j]? = some y) (hij : i ≠ j)
    (hx : X.env.scope.names.lookup x = some .local) (hy : X.env.scope.names.lookup y = some .local) (ha : PA X [a, b] (tOfD X.K xs))
    (hw : swappedStores [.Tuple [.Name x px, .Name y py] kt pt] (.Tuple [a, b] k2 pt2) X.env = pure (some [x, y]))
    (hs : swapsWithSole [.Tuple [.Name x px, .Name y py] kt pt] (.Tuple [a, b] k2 pt2) pos.line X.env = pure false := by rfl) :
    PS X (.Assign [.Tuple [.Name x px, .Name y py] kt pt] (.Tuple [a, b] k2 pt2) pos) (tOfS X.K (xPar [i, j] xs)) := PS.imp (ps_par hc hN hi hj hij hx hy ha hw hs) fun D σ H h => par_rd2 h
end
/-! ### stores: the general targets of a tuple that was just made -/
def gNames : List Nat → TGs
  | [] => gNil
  | i :: is => gCons (gName i) (gNames is)
theorem setAllD_ok {K : PySem.W.Frag} {G m : List Addr} {H : Hp} : ∀ {is : List Nat} {ds : List D} {vs : List V} {ρ ρ' : Env} {σ : L2.St} {Q : L2.St → Hp → Prop}, setAllD is ds ρ = some ρ' → RepDs K G m H ds vs → RepE K G m H ρ σ → (∀ σ', RepE K G m H ρ' σ' → Q σ' H) → gNames is vs σ H Q
  | [], [], vs, ρ, ρ', σ, Q, h, q, hE, k => by
    cases h
    simp only [RepDs] at q
    exact ⟨q, k σ hE⟩
  | [], _ :: _, _, _, _, _, _, h, _, _, _ => by simp [setAllD] at h
  | _ :: _, [], _, _, _, _, _, h, _, _, _ => by simp [setAllD] at h
  | i :: is, d :: ds, vs, ρ, ρ', σ, Q, h, q, hE, k => by
    obtain ⟨v, r, rfl, q1, q2⟩ := q
    exact ⟨v, r, rfl, setAllD_ok (is := is) h q2 (hE.set q1) k⟩
theorem setAllD_length : ∀ {is : List Nat} {ds : List D} {ρ ρ' : Env}, setAllD is ds ρ = some ρ' → ds.length = is.length
  | [], [], _, _, _ => rfl
  | [], _ :: _, _, _, h => by simp [setAllD] at h
  | _ :: _, [], _, _, h => by simp [setAllD] at h
  | i :: is, d :: ds, ρ, ρ', h => by simp only [setAllD] at h; simp [setAllD_length h]
section
variable {X : Cx} {es as : List Expr} {pos tpos vpos : Pos} {xs : XD} {is : List Nat} {k k2 : Nat}
/-- a, b, .. = x, y, .. where a tuple is made and taken apart -/
theorem xs_parT (ha : PA X as (tOfD X.K xs)) (hc : X.calm = true) (hg : PGs X es (gNames is)) (hz : is.length ≤ big) (hs : swapsWithSole [.Tuple es k tpos] (.Tuple as k2 vpos) pos.line X.env = pure false := by rfl) (hw : swappedStores [.Tuple es k tpos] (.Tuple as k2 vpos) X.env = pure none := by rfl)
    (h1 : (assignEach [.Tuple es k tpos] X.env).map (·.2) = [assign (.Tuple es k tpos) X.env] := by rfl) (hn : (assignEach es X.env).length = is.length := by rfl) (hst : (assignEach es X.env).findIdx? (·.1) = none := by rfl) :
    PS X (.Assign [.Tuple es k tpos] (.Tuple as k2 vpos) pos) (tOfS X.K (xPar is xs)) :=
  PS.imp (ps_asg (pe_tup ha) (pg_tup hc hg hn hst) hs hw h1) fun D σ H h => by
    obtain ⟨m, G, ρ, S, fl, S', hE, hS, hx, k⟩ := h
    simp only [xPar, Option.bind_eq_some_iff, Option.map_eq_some_iff] at hx
    obtain ⟨⟨ds, S1⟩, h1, ρ', hp, e⟩ := hx
    cases e
    refine ⟨m, G, ρ, S, ds, _, hE, hS, h1, fun vs m1 H1 s1 hS1 q1 => ?_⟩
    have el : vs.length = is.length := by rw [← q1.length]; exact setAllD_length hp
    refine ⟨by rw [el]; exact big_size hz, fun p hp2 => ?_⟩
    have e := Ext.new (o := .tup vs) hp2
    have s2 : Step m1 H1 m1 (upd H1 p (.tup vs)) := Step.of_ext e
    exact ⟨p, vs, rfl, SqT.of upd_same, el, setAllD_ok hp (q1.step s2) ((hE.step s1).step s2) fun σ' hE' => k σ' m1 _ (s1.trans s2) (hS1.ext e) hE'⟩
end
end XL
end
section
set_option Elab.async false
set_option linter.all false
set_option maxRecDepth 100000
set_option maxHeartbeats 1000000
namespace XL
open PySem L2

/-- as Step; what is guarded may change too -/
structure StepG (G m : List Addr) (H : Hp) (m' : List Addr) (H' : Hp) : Prop where
  pre : ∃ t, m' = m ++ t ∧ ∀ a ∈ t, H a = none
  keep : ∀ a o, H a = some o → a ∉ m ++ G → H' a = some o
  dom : ∀ a, H' a = none → H a = none
  fz : ∀ a o u, H a = some (.frz o u) → H' a = some (.frz o u)
theorem Step.g {G m m' : List Addr} {H H' : Hp} (s : Step m H m' H') : StepG G m H m' H' := ⟨s.pre, fun a o h hm => s.keep a o h (not_l hm), s.dom, s.fz⟩
theorem StepG.get {G m m' : List Addr} {H H' : Hp} (s : StepG G m H m' H') {l : Nat} {a : Addr} (h : m[l]? = some a) : m'[l]? = some a := by
  obtain ⟨t, rfl, ht⟩ := s.pre
  have hl : l < m.length := (List.getElem?_eq_some_iff.mp h).1
  rw [List.getElem?_append_left hl]
  exact h
theorem StepG.trans {G m m1 m2 : List Addr} {H H1 H2 : Hp} (s : StepG G m H m1 H1) (u : Step m1 H1 m2 H2) : StepG G m H m2 H2 := by
  obtain ⟨t, rfl, ht⟩ := s.pre
  obtain ⟨t', rfl, ht'⟩ := u.pre
  refine ⟨⟨t ++ t', by simp, fun a ha => ?_⟩, fun a o h hm => ?_, fun a h => s.dom a (u.dom a h), fun a o w h => u.fz a o w (s.fz a o w h)⟩
  · rcases List.mem_append.mp ha with z | z
    · exact ht a z
    · exact s.dom a (ht' a z)
  · refine u.keep a o (s.keep a o h hm) fun z => ?_
    rcases List.mem_append.mp z with z | z
    · exact not_l hm z
    · rw [ht a z] at h; cases h
theorem StepG.updG {G m m1 : List Addr} {H H1 : Hp} {p : Addr} {o : HO} (s : StepG G m H m1 H1) (hp : p ∈ G) (h1 : H1 p ≠ none) (hz : ∀ o u, H p ≠ some (.frz o u)) : StepG G m H m1 (upd H1 p o) :=
  ⟨s.pre, fun a o' e hm => by
    rw [upd_ne (fun z : a = p => hm (List.mem_append_right _ (by rw [z]; exact hp)))]; exact s.keep a o' e hm, fun a e => by
    by_cases c : a = p
    · subst c; rw [upd_same] at e; cases e
    · rw [upd_ne c] at e; exact s.dom a e, fun a o' w e => by
    rw [upd_ne (fun z : a = p => hz _ _ (z ▸ e))]; exact s.fz a o' w e⟩
theorem rdG_step {G m m' : List Addr} {H H' : Hp} (s : StepG G m H m' H') {a : Addr} {u : HO} (h : Rd H a u) (hm : a ∉ m ++ G) : Rd H' a u := by
  rcases h with h | ⟨o, h⟩
  · exact .inl (s.keep _ _ h hm)
  · exact .inr ⟨o, s.keep _ _ h hm⟩
/-! ### what is walked -/
structure ItOk (K : PySem.W.Frag) (G m : List Addr) (H : Hp) (ds : List P) (lc : Option Nat) (S : Sto) (J : It) : Prop where
  go : ∀ (i : Nat) (d : P) (G1 m1 : List Addr) (H1 : Hp) (S1 : Sto), ds[i]? = some d → StepG G m H m1 H1 → (∀ a ∈ G1, a ∈ G ∨ H a = none) → RepSt K G1 m1 S1 H1 → cellOk lc S S1 = true → J.go i H1
  yld : ∀ (i : Nat) (d : P) (G1 m1 : List Addr) (H1 : Hp) (S1 : Sto) (x : V) (H2 : Hp), ds[i]? = some d → StepG G m H m1 H1 → (∀ a ∈ G1, a ∈ G ∨ H a = none) → RepSt K G1 m1 S1 H1 → cellOk lc S S1 = true → J.yld i H1 x H2 → Ext H1 H2 ∧ RepP K (m1 ++ G1) H2 d x
  stop : ∀ (G1 m1 : List Addr) (H1 : Hp) (S1 : Sto), StepG G m H m1 H1 → (∀ a ∈ G1, a ∈ G ∨ H a = none) → RepSt K G1 m1 S1 H1 → cellOk lc S S1 = true → J.stop ds.length H1
def iOf (K : PySem.W.Frag) (x : XI) : TI := fun σ H R => ∃ m G ρ S ds lc S', RepE K G m H ρ σ ∧ RepSt K G m S H ∧ x ρ S = some (ds, lc, S') ∧
  ∀ m' H' J, Step m H m' H' → RepSt K G m' S' H' → ItOk K G m' H' ds lc S' J → R J H'
theorem PI.imp {X : Cx} {tg it : Expr} {t t' : TI} (h : PI X tg it t) (w : ∀ σ H R, t' σ H R → t σ H R) : PI X tg it t' := ⟨fun pins s σ H R I q => h.run pins s σ H R I (w σ H R q)⟩
/-- what was forbidden stays, what is new was not there -/
theorem fb_step {G G1 m m1 : List Addr} {H H1 : Hp} (s : StepG G m H m1 H1) (hg : ∀ a ∈ G1, a ∈ G ∨ H a = none) : ∀ a, a ∈ m1 ++ G1 → a ∈ m ++ G ∨ H a = none := fun a ha => by
  obtain ⟨t, rfl, ht⟩ := s.pre
  simp only [List.mem_append] at ha ⊢
  rcases ha with (ha | ha) | ha
  · exact .inl (.inl ha)
  · exact .inr (ht a ha)
  · exact (hg a ha).elim (fun z => .inl (.inr z)) .inr
theorem atS {α : Type} {l : List α} {i : Nat} (h : i < l.length) : ∃ x, l[i]? = some x := ⟨l[i], List.getElem?_eq_getElem h⟩
section
variable {K : PySem.W.Frag} {G m : List Addr} {H : Hp} {ds : List P} {S : Sto}
/-- a list or tuple that stands -/
theorem itok_lst {a : Addr} {vs : List V} (f : FzL K (m ++ G) H a vs) (r : RepPs K (m ++ G) H ds vs) : ItOk K G m H ds none S (Itl K a) := by
  have sq : ∀ {m1 : List Addr} {H1 : Hp}, StepG G m H m1 H1 → SqL K H1 a vs := fun {m1 H1} s => by
    rcases f with ⟨f, hm⟩ | f
    · exact .inl (rdG_step s f hm)
    · exact f.elim
  refine ⟨fun i d G1 m1 H1 S1 hd s hg hS _ => ?_, fun i d G1 m1 H1 S1 x H2 hd s hg hS _ hy => ?_, fun G1 m1 H1 S1 s hg hS _ => ?_⟩
  · obtain ⟨v, hv, _⟩ := r.get hd
    exact ⟨vs, v, sq s, hv⟩
  · obtain ⟨e, hy⟩ := hy
    subst e
    have hx := hy vs (sq s)
    obtain ⟨v, hv, q⟩ := r.get hd
    rw [hv] at hx
    cases hx
    exact ⟨Ext.refl _, (RepP.move s.keep (fb_step s hg)).1 d _ q⟩
  · exact ⟨vs, sq s, by rw [r.length]; exact Nat.le_refl _⟩
theorem itok_tup' {a : Addr} {vs : List V} (f : FzT K (m ++ G) H a vs) (r : RepPs K (m ++ G) H ds vs) : ItOk K G m H ds none S (Itt K a) := by
  have sq : ∀ {m1 : List Addr} {H1 : Hp}, StepG G m H m1 H1 → SqT K H1 a vs := fun {m1 H1} s => by
    rcases f with ⟨f, hm⟩ | f
    · exact .inl (rdG_step s f hm)
    · exact .inr f
  refine ⟨fun i d G1 m1 H1 S1 hd s hg hS _ => ?_, fun i d G1 m1 H1 S1 x H2 hd s hg hS _ hy => ?_, fun G1 m1 H1 S1 s hg hS _ => ?_⟩
  · obtain ⟨v, hv, _⟩ := r.get hd
    exact ⟨vs, v, sq s, hv⟩
  · obtain ⟨e, hy⟩ := hy
    subst e
    have hx := hy vs (sq s)
    obtain ⟨v, hv, q⟩ := r.get hd
    rw [hv] at hx
    cases hx
    exact ⟨Ext.refl _, (RepP.move s.keep (fb_step s hg)).1 d _ q⟩
  · exact ⟨vs, sq s, by rw [r.length]; exact Nat.le_refl _⟩
/-- a cell -/
theorem itok_cell {a : Addr} {l : Nat} (hm : m[l]? = some a) (hc : S[l]? = some (.lst ds)) : ItOk K G m H ds (some l) S (Itl K a) := by
  have sq : ∀ {G1 m1 : List Addr} {H1 : Hp} {S1 : Sto}, StepG G m H m1 H1 → RepSt K G1 m1 S1 H1 → cellOk (some l) S S1 = true → ∃ vs, SqL K H1 a vs ∧ RepPs K (m1 ++ G1) H1 ds vs := fun {G1 m1 H1 S1} s hS hk => by
    simp only [cellOk, decide_eq_true_eq] at hk
    obtain ⟨vs, e, r⟩ := RepC.lst.mp (hS.cell l a (.lst ds) (s.get hm) (hk.trans hc))
    exact ⟨vs, SqL.of e, r⟩
  refine ⟨fun i d G1 m1 H1 S1 hd s hg hS hk => ?_, fun i d G1 m1 H1 S1 x H2 hd s hg hS hk hy => ?_, fun G1 m1 H1 S1 s hg hS hk => ?_⟩
  · obtain ⟨vs, q, r⟩ := sq s hS hk
    obtain ⟨v, hv, _⟩ := r.get hd
    exact ⟨vs, v, q, hv⟩
  · obtain ⟨vs, q, r⟩ := sq s hS hk
    obtain ⟨e, hy⟩ := hy
    subst e
    have hx := hy vs q
    obtain ⟨v, hv, w⟩ := r.get hd
    rw [hv] at hx
    cases hx
    exact ⟨Ext.refl _, w⟩
  · obtain ⟨vs, q, r⟩ := sq s hS hk
    exact ⟨vs, q, by rw [r.length]; exact Nat.le_refl _⟩
theorem intsFrom_get : ∀ (n : Nat) (lo : Int) (i : Nat) (d : P), (intsFrom lo n)[i]? = some d → i < n ∧ d = .int (lo + i)
  | 0, lo, i, d, h => by simp [intsFrom] at h
  | n + 1, lo, 0, d, h => by simp [intsFrom] at h; exact ⟨by omega, by rw [← h]; simp⟩
  | n + 1, lo, i + 1, d, h => by
    simp only [intsFrom, List.getElem?_cons_succ] at h
    obtain ⟨h1, h2⟩ := intsFrom_get n (lo + 1) i d h
    refine ⟨by omega, by rw [h2]; congr 1; push_cast; omega⟩
theorem intsFrom_length : ∀ (n : Nat) (lo : Int), (intsFrom lo n).length = n
  | 0, lo => rfl
  | n + 1, lo => by simp [intsFrom, intsFrom_length n]
theorem itok_rng {lo : Int} {n : Nat} : ItOk K G m H (intsFrom lo n) none S (Itr lo n) :=
  ⟨fun i d G1 m1 H1 S1 hd s hg hS _ => (intsFrom_get n lo i d hd).1, fun i d G1 m1 H1 S1 x H2 hd s hg hS _ hy => by
    obtain ⟨e, hy⟩ := hy
    subst e
    rw [(intsFrom_get n lo i d hd).2]
    exact ⟨Ext.refl _, by simp only [RepP]; exact hy⟩, fun G1 m1 H1 S1 s hg hS _ => by rw [intsFrom_length]; exact Nat.le_refl n⟩
theorem itok_str {s : List Nat} : ItOk K G m H (s.map fun c => P.str [c]) none S (Its ⟨s.toArray⟩) := by
  refine ⟨fun i d G1 m1 H1 S1 hd st hg hS _ => ?_, fun i d G1 m1 H1 S1 x H2 hd st hg hS _ hy => ?_, fun G1 m1 H1 S1 st hg hS _ => ?_⟩
  · have := (List.getElem?_eq_some_iff.mp hd).1
    show i < s.toArray.size
    simpa using this
  · obtain ⟨e, c, hc, hx⟩ := hy
    subst e
    rw [List.getElem?_map] at hd
    simp only [List.getElem?_toArray] at hc
    rw [hc] at hd
    simp only [Option.map_some, Option.some.injEq] at hd
    subst hd
    exact ⟨Ext.refl _, by simp only [RepP]; exact hx⟩
  · show s.toArray.size ≤ _
    simp
end
section
variable {X : Cx} {tg e a b : Expr} {xa xb : XE}
def iLT (K : PySem.W.Frag) (tl : TE) : TI := fun σ H R => tl σ H fun x H1 => (∃ a, x = .ref a ∧ (∃ xs, SqL K H1 a xs) ∧ R (Itl K a) H1) ∨ ∃ a, x = .ref a ∧ (∃ xs, SqT K H1 a xs) ∧ R (Itt K a) H1
theorem pi_lt {l : Expr} {tl : TE} (hl : PE X l tl) : PI X tg l (iLT X.K tl) := by
  refine ⟨fun pins s σ H R I h => ?_⟩
  refine thn (hl.run pins s σ H _ I h) fun v s1 ⟨x, H1, I1, r1, q1⟩ => ?_
  rcases q1 with ⟨a, e, ⟨xs, hq⟩, q⟩ | ⟨a, e, ⟨xs, hq⟩, q⟩
  · subst e
    cases r1
    obtain ⟨its, rv, p, hz⟩ := I1.list hq
    refine wpAny_pyIter_list p.isList ?_
    refine ⟨s1.heap.objs.size, [s1.heap.objs.size], _, _, H1, rfl, I1.kept (t' := s1.toks) fun b o e => Heap.get?_push_of_some _ e, turn_list a _, ⟨_, Heap.get?_push_size _ rfl, rfl, rfl⟩, fun b hb => ?_, q⟩
    have e : b = s1.heap.objs.size := by simpa using hb
    subst e
    exact I1.fpOk (Nat.le_refl _) (I1.hok.fresh (Nat.le_refl _))
  · subst e
    cases r1
    obtain ⟨its, rv, p, hz⟩ := I1.tuple hq
    refine wpAny_pyIter_tuple (show s1.heap.IsTuple a its.toArray from p) ?_
    refine ⟨s1.heap.objs.size, [s1.heap.objs.size], _, _, H1, rfl, I1.kept (t' := s1.toks) fun b o e => Heap.get?_push_of_some _ e, turn_tuple a _, ⟨_, Heap.get?_push_size _ rfl, rfl, rfl⟩, fun b hb => ?_, q⟩
    have e : b = s1.heap.objs.size := by simpa using hb
    subst e
    exact I1.fpOk (Nat.le_refl _) (I1.hok.fresh (Nat.le_refl _))
/-- a list, a tuple -/
theorem xi_seq (he : PE X e (tOf X.K xa)) : PI X tg e (iOf X.K (xIt xa)) := PI.imp (pi_lt he) fun σ H R h => by
  obtain ⟨m, G, ρ, S, ds, lc, S', hE, hS, hx, k⟩ := h
  simp only [xIt, Option.bind_eq_some_iff] at hx
  obtain ⟨⟨r1, S1⟩, h1, hx⟩ := hx
  refine ⟨m, G, ρ, S, r1, S1, hE, hS, h1, fun v m1 H1 s1 hS1 q1 o1 => ?_⟩
  dsimp only at hx
  split at hx
  · cases hx
    simp only [RepR, RepP] at q1
    obtain ⟨a, vs, rfl, f, r⟩ := q1
    exact .inl ⟨a, rfl, ⟨vs, f.sq⟩, k m1 H1 _ s1 hS1 (itok_lst f r)⟩
  · cases hx
    simp only [RepR, RepP] at q1
    obtain ⟨a, vs, rfl, f, r⟩ := q1
    exact .inr ⟨a, rfl, ⟨vs, f.sq⟩, k m1 H1 _ s1 hS1 (itok_tup' f r)⟩
  · cases hx
    obtain ⟨a, vs, rfl, nm, z, r⟩ := q1
    exact .inl ⟨a, rfl, ⟨vs, SqL.of z⟩, k m1 H1 _ s1 hS1 (itok_lst (.inl ⟨.inl z, nm⟩) r)⟩
  · rename_i l
    split at hx
    · rename_i es hl
      cases hx
      obtain ⟨a, rfl, hm⟩ := q1
      obtain ⟨vs, z, r⟩ := RepC.lst.mp (hS1.cell l a _ hm hl)
      exact .inl ⟨a, rfl, ⟨vs, SqL.of z⟩, k m1 H1 _ s1 hS1 (itok_cell hm hl)⟩
    · cases hx
  · cases hx
/-- a text -/
theorem xi_str (he : PE X e (tOf X.K xa)) : PI X tg e (iOf X.K (xItS xa)) := PI.imp (pi_str he) fun σ H R h => by
  obtain ⟨m, G, ρ, S, ds, lc, S', hE, hS, hx, k⟩ := h
  simp only [xItS, Option.bind_eq_some_iff] at hx
  obtain ⟨⟨r1, S1⟩, h1, hx⟩ := hx
  refine ⟨m, G, ρ, S, r1, S1, hE, hS, h1, fun v m1 H1 s1 hS1 q1 o1 => ?_⟩
  dsimp only at hx
  split at hx
  · cases hx
    simp only [RepR, RepP] at q1
    exact ⟨_, q1, k m1 H1 _ s1 hS1 itok_str⟩
  · cases hx
theorem xi_rng1 {p pos : Pos} (hg : Gl X "range") (hm : X.mg "range" = none) (ha : PE X a (tOf X.K xa)) (hs : starEach [a] X.env = [(false, eval a X.env)] := by rfl) : PI X tg (.Call (.Name "range" p) [a] [] pos) (iOf X.K (xRng1 xa)) :=
  PI.imp (pi_range1 hg hm (pa_cons ha pa_nil hs) hs) fun σ H R h => by
    obtain ⟨m, G, ρ, S, ds, lc, S', hE, hS, hx, k⟩ := h
    simp only [xRng1, Option.bind_eq_some_iff] at hx
    obtain ⟨⟨r1, S1⟩, h1, hx⟩ := hx
    refine ⟨m, G, ρ, S, r1, S1, hE, hS, h1, fun v m1 H1 s1 hS1 q1 o1 => ?_⟩
    dsimp only at hx
    split at hx
    · rename_i j
      split at hx
      · rename_i hj
        cases hx
        simp only [RepR, RepP] at q1
        subst q1
        exact ⟨j, rfl, by omega, by omega, k m1 H1 _ s1 hS1 itok_rng⟩
      · cases hx
    · cases hx
theorem xi_rng2 {p pos : Pos} (hg : Gl X "range") (hm : X.mg "range" = none) (ha : PE X a (tOf X.K xa)) (hb : PE X b (tOf X.K xb)) (hs : starEach [a, b] X.env = [(false, eval a X.env), (false, eval b X.env)] := by rfl) (hs2 : starEach [b] X.env = [(false, eval b X.env)] := by rfl) :
    PI X tg (.Call (.Name "range" p) [a, b] [] pos) (iOf X.K (xRng2 xa xb)) :=
  PI.imp (pi_range2 hg hm (pa_cons ha (pa_cons hb pa_nil hs2) (by rw [hs, hs2])) hs hs2) fun σ H R h => by
    obtain ⟨m, G, ρ, S, ds, lc, S', hE, hS, hx, k⟩ := h
    simp only [xRng2, Option.bind_eq_some_iff] at hx
    obtain ⟨⟨r1, S1⟩, h1, ⟨r2, S2⟩, h2, hx⟩ := hx
    refine ⟨m, G, ρ, S, r1, S1, hE, hS, h1, fun v m1 H1 s1 hS1 q1 o1 => ⟨m1, G, ρ, S1, r2, S2, hE.step s1, hS1, h2, fun w m2 H2 s2 hS2 q2 o2 => ?_⟩⟩
    dsimp only at hx
    split at hx
    · rename_i i j
      split at hx
      · rename_i hj
        cases hx
        simp only [RepR, RepP] at q1 q2
        subst q1 q2
        exact ⟨i, j, rfl, ⟨by omega, by omega, by omega, by omega⟩, k m2 H2 _ (s1.trans s2) hS2 itok_rng⟩
      · cases hx
    · cases hx
end

/-! ### for -/
theorem for_rd {K : PySem.W.Frag} {it : XI} {t : Tg} {b : XS} {D : Ends} {σ : L2.St} {H : Hp} (h : tOfS K (xFor it t b) D σ H) : tFor (iOf K it) (gOf K t) (tOfS K b) D σ H := by
  obtain ⟨m, G, ρ, S, fl, S', hE, hS, hx, k⟩ := h
  simp only [xFor, Option.bind_eq_some_iff] at hx
  obtain ⟨⟨ds, lc, S0⟩, h1, hx⟩ := hx
  refine ⟨m, G, ρ, S, ds, lc, S0, hE, hS, h1, fun m0 H0 J s0 hS0 ok => ?_⟩
  dsimp only at hx
  have el : S0.length = m0.length := hS0.len.symm
  rw [el] at hx
  have gg : ∀ a ∈ G, a ∈ G ∨ H0 a = none := fun a z => .inl z
  refine ⟨fun i n σ1 H1 => n = ds.length - i ∧ i ≤ ds.length ∧ ∃ m1 ρ1 S1, Step m0 H0 m1 H1 ∧ RepSt K G m1 S1 H1 ∧ RepE K G m1 H1 ρ1 σ1 ∧ cellOk lc S0 S1 = true ∧ forGo m0.length lc S0 t b (ds.drop i) ρ1 S1 = some (fl, S'), ⟨ds.length, by simp, Nat.zero_le _, m0, ρ, S0, Step.refl, hS0, hE.step s0, ?_, by simpa using hx⟩, ?_⟩
  · unfold cellOk
    split
    · rfl
    · simp
  · rintro i n σ1 H1 ⟨rfl, hi, m1, ρ1, S1, s1, hS1, hE1, c1, go⟩
    by_cases hlt : i < ds.length
    · have hd : ds[i]? = some ds[i] := List.getElem?_eq_getElem hlt
      rw [List.drop_eq_getElem_cons hlt] at go
      simp only [forGo, Option.bind_eq_some_iff] at go
      obtain ⟨ρ2, hp, ⟨f2, S2⟩, hb, go⟩ := go
      dsimp only at go
      refine .inr ⟨ok.go i _ G m1 H1 S1 hd s1.g gg hS1 c1, ?_⟩
      have more : ∀ (ρ3 : Env), (if cellOk lc S0 (gc m0.length ρ3 S2).2 = true then forGo m0.length lc S0 t b (List.drop (i + 1) ds) (gc m0.length ρ3 S2).1 (gc m0.length ρ3 S2).2 else none) = some (fl, S') →
          ∀ σ' H', (∃ m', Step m0 H0 m' H' ∧ RepSt K G m' S2 H' ∧ RepE K G m' H' ρ3 σ') → ∃ n', n' < ds.length - i ∧ n' = ds.length - (i + 1) ∧ i + 1 ≤ ds.length ∧ ∃ m1 ρ1 S1, Step m0 H0 m1 H' ∧ RepSt K G m1 S1 H' ∧ RepE K G m1 H' ρ1 σ' ∧ cellOk lc S0 S1 = true ∧ forGo m0.length lc S0 t b (ds.drop (i + 1)) ρ1 S1 = some (fl, S') := by
        intro ρ3 go σ' H' ⟨m', s', hS', hE'⟩
        split at go
        · rename_i hc
          obtain ⟨m3, s3, hS3, hE3⟩ := gc_ok s' hS' hE'
          exact ⟨ds.length - (i + 1), by omega, rfl, hlt, m3, _, _, s3, hS3, hE3, hc, go⟩
        · cases go
      have start : ∀ x H2, J.yld i H1 x H2 → ∀ (Q : L2.St → Hp → Prop), (∀ σ2, RepE K G m1 H2 ρ2 σ2 → Q σ2 H2) → gOf K t x σ1 H2 Q := fun x H2 hy Q kq => by
        obtain ⟨e, q⟩ := ok.yld i _ G m1 H1 S1 x H2 hd s1.g gg hS1 c1 hy
        exact ⟨m1, G, ρ1, _, ρ2, hE1.step (Step.of_ext e), q, hp, fun σ' hE' _ => kq σ' hE'⟩
      have ext : ∀ x H2, J.yld i H1 x H2 → Ext H1 H2 := fun x H2 hy => (ok.yld i _ G m1 H1 S1 x H2 hd s1.g gg hS1 c1 hy).1
      cases f2 with
      | nx ρ3 =>
        refine ⟨fun σ' H' => ∃ m', Step m0 H0 m' H' ∧ RepSt K G m' S2 H' ∧ RepE K G m' H' ρ3 σ', more ρ3 go, fun x H2 hy => start x H2 hy _ fun σ2 hE2 => ?_⟩
        have e2 := ext x H2 hy
        exact ⟨m1, G, ρ2, S1, .nx ρ3, S2, hE2, hS1.ext e2, hb, fun σ' m' H' s' hS' hE' => ⟨m', (s1.trans (Step.of_ext e2)).trans s', hS', hE'⟩⟩
      | ct ρ3 =>
        refine ⟨fun σ' H' => ∃ m', Step m0 H0 m' H' ∧ RepSt K G m' S2 H' ∧ RepE K G m' H' ρ3 σ', more ρ3 go, fun x H2 hy => start x H2 hy _ fun σ2 hE2 => ?_⟩
        have e2 := ext x H2 hy
        exact ⟨m1, G, ρ2, S1, .ct ρ3, S2, hE2, hS1.ext e2, hb, fun σ' m' H' s' hS' hE' => ⟨m', (s1.trans (Step.of_ext e2)).trans s', hS', hE'⟩⟩
      | bk ρ3 =>
        cases go
        refine ⟨fun _ _ => False, fun _ _ z => z.elim, fun x H2 hy => start x H2 hy _ fun σ2 hE2 => ?_⟩
        have e2 := ext x H2 hy
        exact ⟨m1, G, ρ2, S1, .bk ρ3, _, hE2, hS1.ext e2, hb, fun σ' m' H' s' hS' hE' => k σ' m' H' (((s0.trans s1).trans (Step.of_ext e2)).trans s') hS' hE'⟩
      | rt r =>
        cases go
        refine ⟨fun _ _ => False, fun _ _ z => z.elim, fun x H2 hy => start x H2 hy _ fun σ2 hE2 => ?_⟩
        have e2 := ext x H2 hy
        have s02 := (s0.trans s1).trans (Step.of_ext e2)
        exact ⟨m1, G, ρ2, S1, .rt r, _, hE2, hS1.ext e2, hb, fun v m' H' s' hS' q o => k v m' H' (s02.trans s') hS' q (o.back s02.dom)⟩
    · have e : i = ds.length := by omega
      subst e
      rw [List.drop_length] at go
      cases go
      exact .inl ⟨ok.stop G m1 H1 _ s1.g gg hS1 c1, k σ1 m1 H1 (s0.trans s1) hS1 hE1⟩
theorem xs_for {X : Cx} {tg iter : Expr} {body : List Stmt} {pos : Pos} {it : XI} {t : Tg} {b : XS} (hp : PassesOwn (model X.prog X.w) X.A X.env X.xe) (hc : X.calm = true) (hi : PI X tg iter (iOf X.K it)) (hg : PG X tg (gOf X.K t)) (hb : PSs X body (tOfS X.K b))
    (hs : ∀ x, foldedSetIterable iter X.env x = pure x := by intro _; rfl) : PS X (.For tg iter body [] pos) (tOfS X.K (xFor it t b)) := PS.imp (ps_for hp hc hi hg hb hs) fun D σ H h => for_rd h
/-! ### while -/
theorem while_rd {K : PySem.W.Frag} {n : Nat} {t : XT} {b : XS} {D : Ends} {σ : L2.St} {H : Hp} (h : tOfS K (xWhile n t b) D σ H) : tWhile (tOfT K t) (tOfS K b) D σ H := by
  obtain ⟨m, G, ρ, S, fl, S', hE, hS, hx, k⟩ := h
  simp only [xWhile] at hx
  rw [← hS.len] at hx
  refine ⟨fun j σ1 H1 => ∃ m1 ρ1 S1, Step m H m1 H1 ∧ RepSt K G m1 S1 H1 ∧ RepE K G m1 H1 ρ1 σ1 ∧ whGo m.length t b j ρ1 S1 = some (fl, S'), ⟨n, m, ρ, S, Step.refl, hS, hE, hx⟩, ?_⟩
  rintro j σ1 H1 ⟨m1, ρ1, S1, s1, hS1, hE1, go⟩
  cases j with
  | zero => simp [whGo] at go
  | succ j =>
    simp only [whGo, Option.bind_eq_some_iff] at go
    obtain ⟨⟨c, S2⟩, h2, go⟩ := go
    refine ⟨m1, G, ρ1, S1, c, S2, hE1, hS1, h2, fun m2 H2 s2 hS2 => ?_⟩
    dsimp only at go
    cases c with
    | false =>
      rw [if_neg (by simp)] at go ⊢
      cases go
      exact k σ1 m2 H2 (s1.trans s2) hS2 (hE1.step s2)
    | true =>
      rw [if_pos rfl] at go ⊢
      simp only [Option.bind_eq_some_iff] at go
      obtain ⟨⟨f3, S3⟩, h3, go⟩ := go
      dsimp only at go
      have s12 := s1.trans s2
      have more : ∀ (ρ3 : Env), whGo m.length t b j (gc m.length ρ3 S3).1 (gc m.length ρ3 S3).2 = some (fl, S') → ∀ σ' H', (∃ m', Step m H m' H' ∧ RepSt K G m' S3 H' ∧ RepE K G m' H' ρ3 σ') →
          ∃ j', j' < j + 1 ∧ ∃ m1 ρ1 S1, Step m H m1 H' ∧ RepSt K G m1 S1 H' ∧ RepE K G m1 H' ρ1 σ' ∧ whGo m.length t b j' ρ1 S1 = some (fl, S') := by
        intro ρ3 go σ' H' ⟨m', s', hS', hE'⟩
        obtain ⟨m3, s3, hS3, hE3⟩ := gc_ok s' hS' hE'
        exact ⟨j, by omega, m3, _, _, s3, hS3, hE3, go⟩
      cases f3 with
      | nx ρ3 => exact ⟨fun σ' H' => ∃ m', Step m H m' H' ∧ RepSt K G m' S3 H' ∧ RepE K G m' H' ρ3 σ', more ρ3 go, m2, G, ρ1, S2, .nx ρ3, S3, hE1.step s2, hS2, h3, fun σ' m' H' s' hS' hE' => ⟨m', s12.trans s', hS', hE'⟩⟩
      | ct ρ3 => exact ⟨fun σ' H' => ∃ m', Step m H m' H' ∧ RepSt K G m' S3 H' ∧ RepE K G m' H' ρ3 σ', more ρ3 go, m2, G, ρ1, S2, .ct ρ3, S3, hE1.step s2, hS2, h3, fun σ' m' H' s' hS' hE' => ⟨m', s12.trans s', hS', hE'⟩⟩
      | bk ρ3 =>
        cases go
        exact ⟨fun _ _ => False, fun _ _ z => z.elim, m2, G, ρ1, S2, .bk ρ3, _, hE1.step s2, hS2, h3, fun σ' m' H' s' hS' hE' => k σ' m' H' (s12.trans s') hS' hE'⟩
      | rt r =>
        cases go
        exact ⟨fun _ _ => False, fun _ _ z => z.elim, m2, G, ρ1, S2, .rt r, _, hE1.step s2, hS2, h3, fun v m' H' s' hS' q o => k v m' H' (s12.trans s') hS' q (o.back s12.dom)⟩
theorem xs_while {X : Cx} {c : Expr} {body : List Stmt} {pos : Pos} {n : Nat} {t : XT} {b : XS} (hp : PassesOwn (model X.prog X.w) X.A X.env X.xe) (hc : PT X c (tOfT X.K t)) (hb : PSs X body (tOfS X.K b)) : PS X (.While c body [] pos) (tOfS X.K (xWhile n t b)) :=
  PS.imp (ps_while hp hc hb) fun D σ H h => while_rd h
theorem xs_break {X : Cx} {pos : Pos} : PS X (.Break pos) (tOfS X.K fun ρ S => some (.bk ρ, S)) := PS.imp ps_break fun D σ H h => by
  obtain ⟨m, G, ρ, S, fl, S', hE, hS, hx, k⟩ := h
  cases hx
  exact k σ m H Step.refl hS hE
theorem xs_continue {X : Cx} {pos : Pos} : PS X (.Continue pos) (tOfS X.K fun ρ S => some (.ct ρ, S)) := PS.imp ps_continue fun D σ H h => by
  obtain ⟨m, G, ρ, S, fl, S', hE, hS, hx, k⟩ := h
  cases hx
  exact k σ m H Step.refl hS hE
end XL
end
section
set_option Elab.async false
set_option linter.all false
set_option maxRecDepth 100000
set_option maxHeartbeats 1000000
namespace XL
open PySem L2
/-! ### the comprehension's own slots -/
theorem wipe_get {σ : L2.St} : ∀ (vs : List Nat) (i : Nat), (wipe σ vs)[i]? = if i ∈ vs then σ[i]?.map (fun _ => none) else σ[i]?
  | [], i => by simp [wipe]
  | v :: vs, i => by
    simp only [wipe]
    by_cases c : v = i
    · subst c
      rw [if_pos (by simp)]
      by_cases hl : v < σ.length
      · rw [List.getElem?_set_self (by rw [wipe_length]; exact hl), List.getElem?_eq_getElem hl]; rfl
      · rw [List.getElem?_eq_none (by simp [wipe_length]; omega), List.getElem?_eq_none (by omega)]; rfl
    · rw [List.getElem?_set_ne c, wipe_get vs i]
      have e : (i ∈ v :: vs) = (i ∈ vs) := by simp [Ne.symm c]
      simp only [e]
theorem wipe_same {σ σ2 : L2.St} {vs ws : List Nat} (h : SameBut ws (wipe σ vs) σ2) (hw : ∀ i ∈ ws, i ∈ vs) : wipe σ2 vs = wipe σ vs := by
  apply List.ext_getElem?
  intro i
  rw [wipe_get, wipe_get]
  have hl : σ2.length = σ.length := by rw [h.1, wipe_length]
  by_cases c : i ∈ vs
  · rw [if_pos c, if_pos c]
    by_cases hi : i < σ.length
    · rw [List.getElem?_eq_getElem hi, List.getElem?_eq_getElem (by omega)]; rfl
    · rw [List.getElem?_eq_none (by omega), List.getElem?_eq_none (by omega)]
  · rw [if_neg c, if_neg c, h.2 i (fun z => c (hw i z)), wipe_get, if_neg c]
theorem wipeE_length (ρ : Env) : ∀ vs : List Nat, (wipeE ρ vs).length = ρ.length
  | [] => rfl
  | v :: vs => by simp [wipeE, wipeE_length ρ vs]
theorem wipeE_get {ρ : Env} : ∀ (vs : List Nat) (i : Nat) (d : D), (wipeE ρ vs)[i]? = some (some d) → ρ[i]? = some (some d) ∧ i ∉ vs
  | [], i, d, h => ⟨h, by simp⟩
  | v :: vs, i, d, h => by
    simp only [wipeE] at h
    by_cases c : v = i
    · subst c
      by_cases hl : v < (wipeE ρ vs).length
      · rw [List.getElem?_set_self hl] at h; simp at h
      · rw [List.getElem?_eq_none (by simp; omega)] at h; cases h
    · rw [List.getElem?_set_ne c] at h
      obtain ⟨h1, h2⟩ := wipeE_get vs i d h
      exact ⟨h1, by simp [Ne.symm c, h2]⟩
section
variable {K : PySem.W.Frag} {G G' m m' m1 m2 : List Addr} {H H' H0 H1 H2 : Hp}
theorem RepE.wipe {ρ : Env} {σ : L2.St} (h : RepE K G m H ρ σ) (vs : List Nat) : RepE K G m H (wipeE ρ vs) (wipe σ vs) :=
  ⟨by rw [wipeE_length, wipe_length]; exact h.len, fun i d e => by
    obtain ⟨e1, e2⟩ := wipeE_get vs i d e
    obtain ⟨v, hv, q⟩ := h.slot i d e1
    exact ⟨v, by rw [wipe_get, if_neg e2]; exact hv, q⟩⟩
/-- another guarded address, that was not there -/
theorem RepE.guard {ρ : Env} {σ : L2.St} {p : Addr} (h : RepE K G m H ρ σ) (hp : H p = none) (o : HO) : RepE K (p :: G) m (upd H p o) ρ σ :=
  ⟨h.len, fun i d e => by
    obtain ⟨v, hv, q⟩ := h.slot i d e
    refine ⟨v, hv, ?_⟩
    cases d with
    | p d => exact (RepP.move (G := G) (G' := p :: G) (m := m) (m' := m) (fun a o' e _ => Ext.new hp a o' e) (fun a ha => by
        simp only [List.mem_append, List.mem_cons] at ha ⊢
        rcases ha with ha | ha | ha
        · exact .inl (.inl ha)
        · subst ha; exact .inr hp
        · exact .inl (.inr ha))).1 d v q
    | ref l => exact q⟩
theorem RepSt.guard {S : Sto} {p : Addr} (h : RepSt K G m S H) (hp : H p = none) (o : HO) : RepSt K (p :: G) m S (upd H p o) :=
  ⟨h.len, h.nd, fun l a c h1 h2 => by
    obtain ⟨vs, ob, z, kk, r⟩ := h.cell l a c h1 h2
    exact ⟨vs, ob, Ext.new hp _ _ z, kk, (RepP.move (G := G) (G' := p :: G) (m := m) (m' := m) (fun a o' e _ => Ext.new hp a o' e) (fun a ha => by
        simp only [List.mem_append, List.mem_cons] at ha ⊢
        rcases ha with ha | ha | ha
        · exact .inl (.inl ha)
        · subst ha; exact .inr hp
        · exact .inl (.inr ha))).2 _ vs r⟩, fun a ha => by
    rcases List.mem_cons.mp ha with rfl | ha
    · exact ⟨by rw [upd_same]; simp, fun z => h.has z hp⟩
    · exact ⟨fun z => (h.gd a ha).1 ((Ext.new hp).none z), (h.gd a ha).2⟩⟩
/-- what is guarded may change -/
theorem RepPs.updG {p : Addr} {o : HO} {ds : List P} {vs : List V} (hp : p ∈ G) (h : RepPs K (m ++ G) H ds vs) : RepPs K (m ++ G) (upd H p o) ds vs :=
  (RepP.move (G := G) (G' := G) (m := m) (m' := m) (fun a o' e hm => by
    rw [upd_ne (fun z : a = p => hm (List.mem_append_right _ (by rw [z]; exact hp)))]; exact e) (fun a ha => .inl ha)).2 ds vs h
theorem RepP.updG {p : Addr} {o : HO} {d : P} {v : V} (hp : p ∈ G) (h : RepP K (m ++ G) H d v) : RepP K (m ++ G) (upd H p o) d v :=
  (RepP.move (G := G) (G' := G) (m := m) (m' := m) (fun a o' e hm => by
    rw [upd_ne (fun z : a = p => hm (List.mem_append_right _ (by rw [z]; exact hp)))]; exact e) (fun a ha => .inl ha)).1 d v h
theorem RepSt.updG {S : Sto} {p : Addr} {o : HO} (h : RepSt K G m S H) (hp : p ∈ G) : RepSt K G m S (upd H p o) :=
  ⟨h.len, h.nd, fun l a c h1 h2 => by
    have ne : a ≠ p := fun z => (h.gd p hp).2 (z ▸ List.mem_of_getElem? h1)
    obtain ⟨vs, ob, z, kk, r⟩ := h.cell l a c h1 h2
    exact ⟨vs, ob, by rw [upd_ne ne]; exact z, kk, RepPs.updG hp r⟩, fun a ha => ⟨fun z => by
      by_cases c : a = p
      · subst c; rw [upd_same] at z; cases z
      · rw [upd_ne c] at z; exact (h.gd a ha).1 z, (h.gd a ha).2⟩⟩
theorem RepE.updG {ρ : Env} {σ : L2.St} {p : Addr} {o : HO} (h : RepE K G m H ρ σ) (hp : p ∈ G) : RepE K G m (upd H p o) ρ σ :=
  ⟨h.len, fun i d e => by
    obtain ⟨v, hv, q⟩ := h.slot i d e
    refine ⟨v, hv, ?_⟩
    cases d with
    | p d => exact RepP.updG hp q
    | ref l => exact q⟩
theorem Step.updG {p : Addr} {o : HO} (s : Step m H m1 H1) (hp : H p = none) (h1 : H1 p ≠ none) : Step m H m1 (upd H1 p o) :=
  ⟨s.pre, fun a o' e hm => by rw [upd_ne (ne_of_none e hp)]; exact s.keep a o' e hm, fun a e => by
    by_cases c : a = p
    · subst c; exact hp
    · rw [upd_ne c] at e; exact s.dom a e, fun a o' w e => by rw [upd_ne (ne_of_none e hp)]; exact s.fz a o' w e⟩
/-- a guarded list that is done -/
theorem own_guard {S : Sto} {p : Addr} {vs : List V} {ds : List P} (h : RepSt K (p :: G) m S H) (hp : H p = some (.lst vs)) (r : RepPs K (m ++ p :: G) H ds vs) (hG : p ∉ G) (h0 : H0 p = none) : Own K H0 G m H S (.frl ds) (.ref p) := by
  refine ⟨p, rfl, h0, by simp [h.len], ?_, fun l a c h1 h2 => ?_, fun a ha => ⟨(h.gd a (List.mem_cons_of_mem _ ha)).1, fun z => ?_⟩⟩
  · rw [List.nodup_append]
    refine ⟨h.nd, by simp, fun a ha b hb => ?_⟩
    simp at hb; subst hb
    exact fun e => (h.gd b (by simp)).2 (e ▸ ha)
  · have ea : (m ++ [p]) ++ G = m ++ p :: G := by simp
    rw [ea]
    by_cases hl : l < m.length
    · rw [List.getElem?_append_left hl] at h1
      rw [List.getElem?_append_left (h.len ▸ hl)] at h2
      exact h.cell l a c h1 h2
    · have hl2 : l < (m ++ [p]).length := (List.getElem?_eq_some_iff.mp h1).1
      have e : l = m.length := by simp at hl2; omega
      subst e
      simp at h1
      rw [h.len] at h2
      simp at h2
      subst h1; subst h2
      exact RepC.lst.mpr ⟨vs, hp, r⟩
  · rcases List.mem_append.mp z with z | z
    · exact (h.gd a (List.mem_cons_of_mem _ ha)).2 z
    · simp at z; subst z; exact hG ha
end
theorem cellOk_self (lc : Option Nat) (S : Sto) : cellOk lc S S = true := by
  unfold cellOk
  split
  · rfl
  · simp
theorem lt_size {n : Nat} (h : n < big) : n < sizeLine := Nat.lt_of_lt_of_le h (by decide)

/-! ### comprehensions -/
theorem lc_rd {K : PySem.W.Frag} {it : XI} {t : Tg} {c : XT} {e : XE} {vs : List Nat} {σ : L2.St} {H : Hp} {Q : VK} (ht : ∀ i ∈ t.slots, i ∈ vs) (h : tOf K (xLc it t c e vs) σ H Q) : tLc (iOf K it) (gOf K t) (tOfT K c) (tOf K e) vs σ H Q := by
  obtain ⟨m, G, ρ, S, r, S', hE, hS, hx, k⟩ := h
  simp only [xLc, Option.bind_eq_some_iff, Option.map_eq_some_iff] at hx
  obtain ⟨⟨ds, lc, S0⟩, h1, ⟨fin, Sf⟩, hx, er⟩ := hx
  cases er
  refine ⟨m, G, ρ, S, ds, lc, S0, hE, hS, h1, fun m0 H0 J s0 hS0 ok A hA => ?_⟩
  dsimp only at hx
  have gg : ∀ a ∈ A :: G, a ∈ G ∨ H0 a = none := fun a z => by
    rcases List.mem_cons.mp z with rfl | z
    · exact .inr hA
    · exact .inl z
  have hAG : A ∉ G := fun z => (hS0.gd A z).1 hA
  refine ⟨fun i n H1 => n = ds.length - i ∧ i ≤ ds.length ∧ ∃ m1 S1 acc avs, Step m0 H0 m1 H1 ∧ RepSt K (A :: G) m1 S1 H1 ∧ RepE K (A :: G) m1 H1 (wipeE ρ vs) (wipe σ vs) ∧ H1 A = some (.lst avs) ∧ RepPs K (m1 ++ A :: G) H1 acc avs ∧ cellOk lc S0 S1 = true ∧
      lcGo lc S0 t c e (wipeE ρ vs) (ds.drop i) acc S1 = some (fin, Sf), ⟨ds.length, by simp, Nat.zero_le _, m0, S0, [], [], ?_, hS0.guard hA _, ((hE.step s0).wipe vs).guard hA _, upd_same, RepPs.nil, cellOk_self _ _, by simpa using hx⟩, ?_⟩
  · exact Step.of_ext (Ext.new hA)
  rintro i n H1 ⟨rfl, hi, m1, S1, acc, avs, s1, hS1, hE1, hD1, rD1, c1, go⟩
  by_cases hlt : i < ds.length
  · have hd : ds[i]? = some ds[i] := List.getElem?_eq_getElem hlt
    rw [List.drop_eq_getElem_cons hlt] at go
    simp only [lcGo, Option.bind_eq_some_iff] at go
    obtain ⟨ρ2, hp, ⟨b, S2⟩, hb, go⟩ := go
    dsimp only at go
    refine .inr ⟨ok.go i _ (A :: G) m1 H1 S1 hd s1.g gg hS1 c1, fun H' => i + 1 ≤ ds.length ∧ ∃ m1 S1 acc avs, Step m0 H0 m1 H' ∧ RepSt K (A :: G) m1 S1 H' ∧ RepE K (A :: G) m1 H' (wipeE ρ vs) (wipe σ vs) ∧ H' A = some (.lst avs) ∧ RepPs K (m1 ++ A :: G) H' acc avs ∧ cellOk lc S0 S1 = true ∧
      lcGo lc S0 t c e (wipeE ρ vs) (ds.drop (i + 1)) acc S1 = some (fin, Sf), fun H' w => ⟨ds.length - (i + 1), by omega, rfl, w⟩, fun x H2 hy => ?_⟩
    obtain ⟨e2, q2⟩ := ok.yld i _ (A :: G) m1 H1 S1 x H2 hd s1.g gg hS1 c1 hy
    have s2 : Step m1 H1 m1 H2 := Step.of_ext e2
    refine ⟨m1, A :: G, wipeE ρ vs, _, ρ2, hE1.step s2, q2, hp, fun σ2 hE2 sb => ⟨wipe_same sb ht, ?_⟩⟩
    refine ⟨m1, A :: G, ρ2, S1, b, S2, hE2, hS1.ext e2, hb, fun m3 H3 s3 hS3 => ?_⟩
    have AnM : ∀ {G1 m1 : List Addr} {H1 : Hp} {S1 : Sto}, RepSt K (A :: G) m1 S1 H1 → A ∉ m1 := fun h => (h.gd A (by simp)).2
    cases b with
    | false =>
      rw [if_neg (by simp)] at go
      refine iteF ?_
      split at go
      · rename_i hc
        refine ⟨hlt, m3, S2, acc, avs, (s1.trans s2).trans s3, hS3, (hE1.step s2).step s3, s3.keep _ _ (e2 _ _ hD1) (AnM (G1 := G) hS1), RepPs.step (s2.trans s3) acc avs rD1, hc, go⟩
      · cases go
    | true =>
      rw [if_pos rfl] at go
      refine iteT ?_
      simp only [Option.bind_eq_some_iff] at go
      obtain ⟨⟨r4, S4⟩, h4, d4, hf4, go⟩ := go
      dsimp only at go
      split at go
      · rename_i hc
        refine ⟨m3, A :: G, ρ2, S2, r4, S4, hE2.step s3, hS3, h4, fun y m4 H4 s4 hS4 q4 o4 => ?_⟩
        have s24 := (s2.trans s3).trans s4
        have hD4 : H4 A = some (.lst avs) := s4.keep _ _ (s3.keep _ _ (e2 _ _ hD1) (AnM (G1 := G) hS1)) (AnM (G1 := G) hS3)
        have rD4 := RepPs.step s24 acc avs rD1
        refine ⟨avs, hD4, by rw [← rD1.length]; exact lt_size hc.1, hlt, m4, S4, acc ++ [d4], avs ++ [y], (s1.trans s24).updG hA (by rw [hD4]; simp), hS4.updG (by simp), (hE1.step s24).updG (by simp), upd_same, RepPs.updG (by simp) (rD4.append (RepPs.one (q4.fz hf4))), hc.2, go⟩
      · cases go
  · have e : i = ds.length := by omega
    subst e
    rw [List.drop_length] at go
    cases go
    have hS1' : RepSt K G m1 _ H1 := (own_rep (own_guard hS1 hD1 rD1 hAG hA)).1
    refine .inl ⟨ok.stop (A :: G) m1 H1 _ s1.g gg hS1 c1, k (.ref A) m1 H1 (s0.trans s1) hS1' (own_rep (own_guard hS1 hD1 rD1 hAG hA)).2 (own_guard hS1 hD1 rD1 hAG (s0.dom A hA))⟩
theorem lc2_rd {K : PySem.W.Frag} {it it1 : XI} {t t1 : Tg} {c c1 : XT} {e : XE} {vs vs1 : List Nat} {σ : L2.St} {H : Hp} {Q : VK} (ht : ∀ i ∈ t.slots, i ∈ vs) (ht1 : ∀ i ∈ t1.slots, i ∈ vs1) (h : tOf K (xLc2 it t c it1 t1 c1 e vs vs1) σ H Q) :
    tLc2 (iOf K it) (gOf K t) (tOfT K c) (iOf K it1) (gOf K t1) (tOfT K c1) (tOf K e) vs vs1 σ H Q := by
  obtain ⟨m, G, ρ, S, r, S', hE, hS, hx, k⟩ := h
  simp only [xLc2, Option.bind_eq_some_iff, Option.map_eq_some_iff] at hx
  obtain ⟨⟨ds, lc, S0⟩, h1, ⟨fin, Sf⟩, hx, er⟩ := hx
  cases er
  refine ⟨m, G, ρ, S, ds, lc, S0, hE, hS, h1, fun m0 H0 J s0 hS0 ok A hA => ?_⟩
  dsimp only at hx
  have gg : ∀ a ∈ A :: G, a ∈ G ∨ H0 a = none := fun a z => by
    rcases List.mem_cons.mp z with rfl | z
    · exact .inr hA
    · exact .inl z
  have hAG : A ∉ G := fun z => (hS0.gd A z).1 hA
  have AnM : ∀ {m1 : List Addr} {H1 : Hp} {S1 : Sto}, RepSt K (A :: G) m1 S1 H1 → A ∉ m1 := fun h => (h.gd A (by simp)).2
  refine ⟨fun i n H1 => n = ds.length - i ∧ i ≤ ds.length ∧ ∃ m1 S1 acc avs, Step m0 H0 m1 H1 ∧ RepSt K (A :: G) m1 S1 H1 ∧ RepE K (A :: G) m1 H1 (wipeE ρ vs) (wipe σ vs) ∧ H1 A = some (.lst avs) ∧ RepPs K (m1 ++ A :: G) H1 acc avs ∧ cellOk lc S0 S1 = true ∧
      lc2Go lc S0 t c it1 t1 c1 e (wipeE ρ vs) vs1 (ds.drop i) acc S1 = some (fin, Sf), ⟨ds.length, by simp, Nat.zero_le _, m0, S0, [], [], ?_, hS0.guard hA _, ((hE.step s0).wipe vs).guard hA _, upd_same, RepPs.nil, cellOk_self _ _, by simpa using hx⟩, ?_⟩
  · exact Step.of_ext (Ext.new hA)
  rintro i n H1 ⟨rfl, hi, m1, S1, acc, avs, s1, hS1, hE1, hD1, rD1, ck1, go⟩
  by_cases hlt : i < ds.length
  · have hd : ds[i]? = some ds[i] := List.getElem?_eq_getElem hlt
    rw [List.drop_eq_getElem_cons hlt] at go
    simp only [lc2Go, Option.bind_eq_some_iff] at go
    obtain ⟨ρ2, hp, ⟨b, S2⟩, hb, go⟩ := go
    dsimp only at go
    refine .inr ⟨ok.go i _ (A :: G) m1 H1 S1 hd s1.g gg hS1 ck1, fun H' => i + 1 ≤ ds.length ∧ ∃ m1 S1 acc avs, Step m0 H0 m1 H' ∧ RepSt K (A :: G) m1 S1 H' ∧ RepE K (A :: G) m1 H' (wipeE ρ vs) (wipe σ vs) ∧ H' A = some (.lst avs) ∧ RepPs K (m1 ++ A :: G) H' acc avs ∧ cellOk lc S0 S1 = true ∧
      lc2Go lc S0 t c it1 t1 c1 e (wipeE ρ vs) vs1 (ds.drop (i + 1)) acc S1 = some (fin, Sf), fun H' w => ⟨ds.length - (i + 1), by omega, rfl, w⟩, fun x H2 hy => ?_⟩
    obtain ⟨e2, q2⟩ := ok.yld i _ (A :: G) m1 H1 S1 x H2 hd s1.g gg hS1 ck1 hy
    have s2 : Step m1 H1 m1 H2 := Step.of_ext e2
    refine ⟨m1, A :: G, wipeE ρ vs, _, ρ2, hE1.step s2, q2, hp, fun σ2 hE2 sb => ⟨wipe_same sb ht, ?_⟩⟩
    refine ⟨m1, A :: G, ρ2, S1, b, S2, hE2, hS1.ext e2, hb, fun m3 H3 s3 hS3 => ?_⟩
    have hD3 : H3 A = some (.lst avs) := s3.keep _ _ (e2 _ _ hD1) (AnM hS1)
    have rD3 := RepPs.step (s2.trans s3) acc avs rD1
    cases b with
    | false =>
      rw [if_neg (by simp)] at go
      refine iteF ?_
      split at go
      · rename_i hc
        exact ⟨hlt, m3, S2, acc, avs, (s1.trans s2).trans s3, hS3, (hE1.step s2).step s3, hD3, rD3, hc, go⟩
      · cases go
    | true =>
      rw [if_pos rfl] at go
      refine iteT ?_
      simp only [Option.bind_eq_some_iff] at go
      obtain ⟨⟨es, lc1, S4⟩, h4, ⟨facc, S5⟩, h5, go⟩ := go
      dsimp only at h5 go
      split at go
      · rename_i hc5
        refine ⟨m3, A :: G, ρ2, S2, es, lc1, S4, hE2.step s3, hS3, h4, fun m4 H4 J1 s4 hS4 ok1 => ?_⟩
        have gg1 : ∀ a ∈ A :: G, a ∈ A :: G ∨ H4 a = none := fun a z => .inl z
        have s24 := (s2.trans s3).trans s4
        have hE4 := hE2.step (s3.trans s4)
        refine ⟨fun j n H5 => n = es.length - j ∧ j ≤ es.length ∧ ∃ m5 S6 acc5 avs5, StepG (A :: G) m4 H4 m5 H5 ∧ RepSt K (A :: G) m5 S6 H5 ∧ RepE K (A :: G) m5 H5 (wipeE ρ2 vs1) (wipe σ2 vs1) ∧ RepE K (A :: G) m5 H5 (wipeE ρ vs) (wipe σ vs) ∧ H5 A = some (.lst avs5) ∧ RepPs K (m5 ++ A :: G) H5 acc5 avs5 ∧ Step m0 H0 m5 H5 ∧ cellOk lc1 S4 S6 = true ∧
            lcGo lc1 S4 t1 c1 e (wipeE ρ2 vs1) (es.drop j) acc5 S6 = some (facc, S5), ⟨es.length, by simp, Nat.zero_le _, m4, S4, acc, avs, Step.refl.g, hS4, hE4.wipe vs1, hE1.step s24, s4.keep _ _ hD3 (AnM hS3), RepPs.step s4 acc avs rD3, s1.trans s24, cellOk_self _ _, by simpa using h5⟩, ?_⟩
        rintro j n H5 ⟨rfl, hj, m5, S6, acc5, avs5, s5, hS6, hE5, hEo, hD5, rD5, s05, ck5, go1⟩
        by_cases hlt1 : j < es.length
        · have hd1 : es[j]? = some es[j] := List.getElem?_eq_getElem hlt1
          rw [List.drop_eq_getElem_cons hlt1] at go1
          simp only [lcGo, Option.bind_eq_some_iff] at go1
          obtain ⟨ρ7, hp7, ⟨b7, S7⟩, hb7, go1⟩ := go1
          dsimp only at go1
          refine .inr ⟨ok1.go j _ (A :: G) m5 H5 S6 hd1 s5 gg1 hS6 ck5, fun H' => j + 1 ≤ es.length ∧ ∃ m5 S6 acc5 avs5, StepG (A :: G) m4 H4 m5 H' ∧ RepSt K (A :: G) m5 S6 H' ∧ RepE K (A :: G) m5 H' (wipeE ρ2 vs1) (wipe σ2 vs1) ∧ RepE K (A :: G) m5 H' (wipeE ρ vs) (wipe σ vs) ∧ H' A = some (.lst avs5) ∧ RepPs K (m5 ++ A :: G) H' acc5 avs5 ∧ Step m0 H0 m5 H' ∧ cellOk lc1 S4 S6 = true ∧
            lcGo lc1 S4 t1 c1 e (wipeE ρ2 vs1) (es.drop (j + 1)) acc5 S6 = some (facc, S5), fun H' w => ⟨es.length - (j + 1), by omega, rfl, w⟩, fun x7 H7 hy7 => ?_⟩
          obtain ⟨e7, q7⟩ := ok1.yld j _ (A :: G) m5 H5 S6 x7 H7 hd1 s5 gg1 hS6 ck5 hy7
          have s7 : Step m5 H5 m5 H7 := Step.of_ext e7
          refine ⟨m5, A :: G, wipeE ρ2 vs1, _, ρ7, hE5.step s7, q7, hp7, fun σ7 hE7 sb7 => ⟨wipe_same sb7 ht1, ?_⟩⟩
          refine ⟨m5, A :: G, ρ7, S6, b7, S7, hE7, hS6.ext e7, hb7, fun m8 H8 s8 hS8 => ?_⟩
          cases b7 with
          | false =>
            rw [if_neg (by simp)] at go1
            refine iteF ?_
            split at go1
            · rename_i hc
              have s78 := s7.trans s8
              exact ⟨hlt1, m8, S7, acc5, avs5, s5.trans s78, hS8, hE5.step s78, hEo.step s78, s8.keep _ _ (e7 _ _ hD5) (AnM hS6), RepPs.step s78 acc5 avs5 rD5, s05.trans s78, hc, go1⟩
            · cases go1
          | true =>
            rw [if_pos rfl] at go1
            refine iteT ?_
            simp only [Option.bind_eq_some_iff] at go1
            obtain ⟨⟨r9, S9⟩, h9, d9, hf9, go1⟩ := go1
            dsimp only at go1
            split at go1
            · rename_i hc
              refine ⟨m8, A :: G, ρ7, S7, r9, S9, hE7.step s8, hS8, h9, fun y m9 H9 s9 hS9 q9 o9 => ?_⟩
              have s79 := (s7.trans s8).trans s9
              have hD9 : H9 A = some (.lst avs5) := s9.keep _ _ (s8.keep _ _ (e7 _ _ hD5) (AnM hS6)) (AnM hS8)
              have rD9 := RepPs.step s79 acc5 avs5 rD5
              have h9n : H9 A ≠ none := by rw [hD9]; simp
              have s49 : StepG (A :: G) m4 H4 m9 (upd H9 A (.lst (avs5 ++ [y]))) := (s5.trans s79).updG (by simp) h9n (fun o u z => by rw [s4.keep _ _ hD3 (AnM hS3)] at z; cases z)
              exact ⟨avs5, hD9, by rw [← rD5.length]; exact lt_size hc.1, hlt1, m9, S9, acc5 ++ [d9], avs5 ++ [y], s49, hS9.updG (by simp), (hE5.step s79).updG (by simp), (hEo.step s79).updG (by simp), upd_same, RepPs.updG (by simp) (rD9.append (RepPs.one (q9.fz hf9))), (s05.trans s79).updG hA h9n, hc.2, go1⟩
            · cases go1
        · have e : j = es.length := by omega
          subst e
          rw [List.drop_length] at go1
          cases go1
          exact .inl ⟨ok1.stop (A :: G) m5 H5 _ s5 gg1 hS6 ck5, hlt, m5, _, _, avs5, s05, hS6, hEo, hD5, rD5, hc5, go⟩
      · cases go
  · have e : i = ds.length := by omega
    subst e
    rw [List.drop_length] at go
    cases go
    have hS1' : RepSt K G m1 _ H1 := (own_rep (own_guard hS1 hD1 rD1 hAG hA)).1
    refine .inl ⟨ok.stop (A :: G) m1 H1 _ s1.g gg hS1 ck1, k (.ref A) m1 H1 (s0.trans s1) hS1' (own_rep (own_guard hS1 hD1 rD1 hAG hA)).2 (own_guard hS1 hD1 rD1 hAG (s0.dom A hA))⟩
end XL
end
section
set_option Elab.async false
set_option linter.all false
set_option maxRecDepth 100000
set_option maxHeartbeats 1000000
namespace XL
open PySem L2 PyProof.Rows
section
variable {X : Cx} {elt tg iter tg1 iter1 : Expr} {ifs ifs1 : List Expr} {scope : Scope} {own : List (Str × Nat)} {pos spos py : Pos} {it it1 : XI} {t t1 : Tg} {c c1 : XT} {e : XE} {vs1 : List Nat}
abbrev Blk (X : Cx) (scope : Scope) (P : Cx → Prop) : Prop := ∀ (s : Shared) (H : Hp) (C : Addr) (cl : List (Str × Addr)) (fp : List Addr), P (X.blk s H scope (compEnvC scope cl C X.env) fp)
theorem xe_lc (hc : X.calm = true) (hN : X.N.Nodup) (hi : PI X tg iter (iOf X.K it)) (ok : BlkOk X.N X.env.scope scope own) (hg : Blk X scope fun Y => PG Y tg (gOf Y.K t)) (ht : Blk X scope fun Y => PTs Y ifs (tOfT Y.K c)) (he : Blk X scope fun Y => PE Y elt (tOf Y.K e))
    (hv : ∀ i ∈ t.slots, i ∈ own.map (·.2) := by decide) (hs : ∀ x, foldedSetIterable iter X.env x = pure x := by intro _; rfl) :
    PE X (.ListComp elt [⟨tg, iter, ifs, 0⟩] scope pos) (tOf X.K (xLc it t c e (own.map (·.2)))) := PE.imp (pe_lc hc hN hi ok hg ht he hs) fun σ H Q h => lc_rd hv h
theorem xs_setLc {i : Nat} {y : Str} (hc : X.calm = true) (hN : X.N.Nodup) (hy : X.N[i]? = some y) (hyl : X.env.scope.names.lookup y = some .local)
    (hsw : swapsWith (.ListComp elt [⟨tg, iter, ifs, 0⟩] scope pos) (some (.Name y py)) spos.line X.env = pure true) (hi : PI X tg iter (iOf X.K it)) (ok : BlkOk X.N X.env.scope scope own) (hg : Blk X scope fun Y => PG Y tg (gOf Y.K t)) (ht : Blk X scope fun Y => PTs Y ifs (tOfT Y.K c)) (he : Blk X scope fun Y => PE Y elt (tOf Y.K e))
    (hv : ∀ i ∈ t.slots, i ∈ own.map (·.2) := by decide) (hs : ∀ x, foldedSetIterable iter X.env x = pure x := by intro _; rfl) :
    PS X (.Assign [.Name y py] (.ListComp elt [⟨tg, iter, ifs, 0⟩] scope pos) spos) (tOfS X.K (xSet i (xLc it t c e (own.map (·.2))))) := PS.imp (ps_setLc hc hN hy hyl hsw hi ok hg ht he hs) fun D σ H h => by
  have q := set_rd h
  exact lc_rd hv q
theorem xe_lc2 (hc : X.calm = true) (hN : X.N.Nodup) (hi : PI X tg iter (iOf X.K it)) (ok : BlkOk X.N X.env.scope scope own) (hv1 : ∀ i ∈ vs1, i ∈ own.map (·.2)) (hg : Blk X scope fun Y => PG Y tg (gOf Y.K t)) (ht : Blk X scope fun Y => PTs Y ifs (tOfT Y.K c))
    (hi1 : Blk X scope fun Y => PI Y tg1 iter1 (iOf Y.K it1)) (hg1 : Blk X scope fun Y => PG Y tg1 (gOf Y.K t1)) (ht1 : Blk X scope fun Y => PTs Y ifs1 (tOfT Y.K c1)) (he : Blk X scope fun Y => PE Y elt (tOf Y.K e))
    (hv : ∀ i ∈ t.slots, i ∈ own.map (·.2) := by decide) (hw : ∀ i ∈ t1.slots, i ∈ vs1 := by decide) (hs : ∀ x, foldedSetIterable iter X.env x = pure x := by intro _; rfl) (hs1 : ∀ env x, foldedSetIterable iter1 env x = pure x := by intro _ _; rfl) :
    PE X (.ListComp elt [⟨tg, iter, ifs, 0⟩, ⟨tg1, iter1, ifs1, 0⟩] scope pos) (tOf X.K (xLc2 it t c it1 t1 c1 e (own.map (·.2)) vs1)) := PE.imp (pe_lc2 hc hN hi ok hv1 hg ht hi1 hg1 ht1 he hs hs1) fun σ H Q h => lc2_rd hv hw h
theorem xs_setLc2 {i : Nat} {y : Str} (hc : X.calm = true) (hN : X.N.Nodup) (hy : X.N[i]? = some y) (hyl : X.env.scope.names.lookup y = some .local)
    (hsw : swapsWith (.ListComp elt [⟨tg, iter, ifs, 0⟩, ⟨tg1, iter1, ifs1, 0⟩] scope pos) (some (.Name y py)) spos.line X.env = pure true) (hi : PI X tg iter (iOf X.K it)) (ok : BlkOk X.N X.env.scope scope own) (hv1 : ∀ i ∈ vs1, i ∈ own.map (·.2)) (hg : Blk X scope fun Y => PG Y tg (gOf Y.K t)) (ht : Blk X scope fun Y => PTs Y ifs (tOfT Y.K c))
    (hi1 : Blk X scope fun Y => PI Y tg1 iter1 (iOf Y.K it1)) (hg1 : Blk X scope fun Y => PG Y tg1 (gOf Y.K t1)) (ht1 : Blk X scope fun Y => PTs Y ifs1 (tOfT Y.K c1)) (he : Blk X scope fun Y => PE Y elt (tOf Y.K e))
    (hv : ∀ i ∈ t.slots, i ∈ own.map (·.2) := by decide) (hw : ∀ i ∈ t1.slots, i ∈ vs1 := by decide) (hs : ∀ x, foldedSetIterable iter X.env x = pure x := by intro _; rfl) (hs1 : ∀ env x, foldedSetIterable iter1 env x = pure x := by intro _ _; rfl) :
    PS X (.Assign [.Name y py] (.ListComp elt [⟨tg, iter, ifs, 0⟩, ⟨tg1, iter1, ifs1, 0⟩] scope pos) spos) (tOfS X.K (xSet i (xLc2 it t c it1 t1 c1 e (own.map (·.2)) vs1))) := PS.imp (ps_setLc2 hc hN hy hyl hsw hi ok hv1 hg ht hi1 hg1 ht1 he hs hs1) fun D σ H h => by
  have q := set_rd h
  exact lc2_rd hv hw q
end

/-! ### defs -/
def spOf (K : PySem.W.Frag) (k : Nat) (f : XF) : Sp := fun vs H Q _ => ∃ m G S ds r S', vs.length = k ∧ RepSt K G m S H ∧ RepDs K G m H ds vs ∧ f ds S = some (r, S') ∧
  ∀ v H', Step m H m H' → RepSt K G m S' H' → RepR K G m H' r v → Own K H G m H' S' r v → Q v H'
theorem def_rd {K : PySem.W.Frag} {k : Nat} {f : XF} {xs : XD} {σ : L2.St} {H : Hp} {Q : VK} {E : XK} (hk : ∀ ds S r S', f ds S = some (r, S') → ds.length = k) (h : tOf K (xDef f xs) σ H Q) : tCall (spOf K k f) [] E (tOfD K xs) σ H Q := by
  obtain ⟨m, G, ρ, S, r, S', hE, hS, hx, kk⟩ := h
  simp only [xDef, Option.bind_eq_some_iff] at hx
  obtain ⟨⟨ds, S1⟩, h1, hx⟩ := hx
  refine ⟨m, G, ρ, S, ds, S1, hE, hS, h1, fun vs m1 H1 s1 hS1 q1 => ?_⟩
  show spOf K k f (vs ++ []) H1 Q E
  rw [List.append_nil]
  refine ⟨m1, G, S1, ds, r, S', by rw [← q1.length]; exact hk _ _ _ _ hx, hS1, q1, hx, fun v H' s2 hS2 q2 o2 => ?_⟩
  exact kk v m1 H' (s1.trans s2) hS2 q2 (o2.back s1.dom)
theorem mkF_len {k n : Nat} {b : XS} : ∀ ds S r S', mkF k n b ds S = some (r, S') → ds.length = k := fun ds S r S' h => by
  unfold mkF at h
  split at h
  · assumption
  · cases h
section
variable {X : Cx} {e : Expr} {es : List Expr} {x : Str} {p pos : Pos} {f : Addr} {fd : FuncData} {ps : List Str} {k j n : Nat} {b : XS} {xs : XD}
theorem xe_def (F : FnOk X.prog X.w X.K X.mg X.base CX0 j f fd ps (spOf X.K k (mkF k n b))) (hr : Room j X.A) (hg : Gl X x) (hm : X.mg x = some (.ref f)) (hk : PySem.W.keepIn X.K (.ref f) = true) (hb : Binds X.K fd ps []) (ha : PA X (e :: es) (tOfD X.K xs)) (hdb : (x == ("__debug__" : Str)) = false := by decide)
    (he : starEach (e :: es) X.env = (false, eval e X.env) :: starEach es X.env := by rfl) (hpl : (backTo pos (starEach es X.env)).any (·.1) = false := by rfl) : PE X (.Call (.Name x p) (e :: es) [] pos) (tOf X.K (xDef (mkF k n b) xs)) :=
  PE.imp (pe_call F hr hg hm hk hb .nil pass0 ha hdb he hpl) fun σ H Q h => def_rd mkF_len h
theorem xe_def0 (F : FnOk X.prog X.w X.K X.mg X.base CX0 j f fd ps (spOf X.K k (mkF k n b))) (hr : Room j X.A) (hg : Gl X x) (hm : X.mg x = some (.ref f)) (hk : PySem.W.keepIn X.K (.ref f) = true) (hb : Binds X.K fd ps []) (hdb : (x == ("__debug__" : Str)) = false := by decide) :
    PE X (.Call (.Name x p) [] [] pos) (tOf X.K (xDef (mkF k n b) xNilD)) :=
  PE.imp (pe_call0 F hr hg hm hk hb .nil pass0 hdb) fun σ H Q h => by
    have q : tCall (spOf X.K k (mkF k n b)) [] E0 (tOfD X.K xNilD) σ H Q := def_rd mkF_len h
    obtain ⟨m, G, ρ, S, ds, S', hE, hS, hx, kk⟩ := q
    cases hx
    exact kk [] m H Step.refl hS rfl
end
theorem startE_ok {K : PySem.W.Frag} {G m : List Addr} {H : Hp} {N : List Str} {ds : List D} {vs : List V} (h : RepDs K G m H ds vs) : RepE K G m H (startE N.length ds) (L2.start N vs) := by
  have hl := h.length
  refine ⟨by simp [startE, L2.start, hl], fun i d e => ?_⟩
  unfold startE at e
  by_cases c : i < ds.length
  · rw [List.getElem?_append_left (by simpa using c), List.getElem?_map] at e
    cases hd : ds[i]? with
    | none => rw [hd] at e; cases e
    | some d' =>
      rw [hd] at e
      simp only [Option.map_some, Option.some.injEq] at e
      subst e
      obtain ⟨v, hv, q⟩ := h.get hd
      refine ⟨v, ?_, q⟩
      unfold L2.start
      rw [List.getElem?_append_left (by simp; omega), List.getElem?_map, hv]; rfl
  · rw [List.getElem?_append_right (by simp; omega)] at e
    have := List.mem_of_getElem? e
    simp [List.mem_replicate] at this
/-- THE RULE for a def -/
theorem ok_def {Pg : Program} {w : World} {K : PySem.W.Frag} {mg : Str → Option Value} {base : Heap} {x qual : Str} {st : Stmt} {f : Addr} {fd : FuncData} {N ps : List Str} {j : Nat} {b : XS} (F : Fun K x qual st f fd) (Sc : FnScope N ps (defScope st))
    (hb : ∀ (cdv : Value) (A : Around) (outer : List PySem.Env) (s : Shared) (H : Hp) (E : XK), Room j (A.deeper (envOfC qual (defScope st) s.heap.objs.size f cdv)) → PSs (cxOf CX0 Pg w K mg base N qual (defScope st) f cdv A outer s H E).nox (defBody st) (tOfS K b)) :
    FnOk Pg w K mg base CX0 (j + 1) f fd ps (spOf K ps.length (mkF ps.length N.length b)) := by
  refine F.ok Sc (fun vs H Q E h => ?_) (fun cdv A outer s H vs Q E hr h => ⟨tOfS K b, hb cdv A outer s H E hr, ?_⟩)
  · obtain ⟨m, G, S, ds, r, S', hl, _⟩ := h
    exact hl
  · obtain ⟨m, G, S, ds, r, S', hl, hS, q, hf, k⟩ := h
    unfold mkF at hf
    split at hf
    · rename_i hk
      simp only [Option.bind_eq_some_iff] at hf
      obtain ⟨⟨fl, S1⟩, h1, hf⟩ := hf
      refine ⟨m, G, startE N.length ds, S, fl, S1, startE_ok q, hS, h1, ?_⟩
      cases fl with
      | nx ρ' =>
        intro σ' m' H' s' hS' hE'
        obtain ⟨a1, a2, a3⟩ := finish_ok (r := .p .non) (v := .non) hS.len s' hS' (by simp [RepR, RepP]) trivial hf
        exact k .non H' ⟨⟨[], by simp, fun _ z => by cases z⟩, s'.keep, s'.dom, s'.fz⟩ a1 a2 a3
      | rt r1 =>
        intro v m' H' s' hS' q' o'
        obtain ⟨a1, a2, a3⟩ := finish_ok hS.len s' hS' q' o' hf
        exact k v H' ⟨⟨[], by simp, fun _ z => by cases z⟩, s'.keep, s'.dom, s'.fz⟩ a1 a2 a3
      | bk ρ' => cases hf
      | ct ρ' => cases hf
    · cases hf
end XL
end
section
set_option autoImplicit false
set_option linter.all false
namespace XL
/-! ### what the operators do on data -/
def pAdd : P → P → Option R
  | .int i, .int j => some (.p (.int (i + j)))
  | .str s, .str t => if s.length + t.length ≤ big then some (.p (.str (s ++ t))) else none
  | .lst xs, .lst ys => if xs.length + ys.length ≤ big then some (.frl (xs ++ ys)) else none
  | .tup xs, .tup ys => if xs.length + ys.length ≤ big then some (.p (.tup (xs ++ ys))) else none
  | _, _ => none
def pSub : P → P → Option R
  | .int i, .int j => some (.p (.int (i - j)))
  | _, _ => none
def lim64 : Int := 18446744073709551616
def pMul : P → P → Option R
  | .int i, .int j => if (-lim64 < i ∧ i < lim64) ∨ (-lim64 < j ∧ j < lim64) then some (.p (.int (i * j))) else none
  | .tup xs, .int k => if xs ≠ [] ∧ 2 ≤ k ∧ k ≤ 1000 ∧ xs.length ≤ 1000 then some (.p (.tup (List.replicate k.toNat xs).flatten)) else none
  | _, _ => none
def pDiv : P → P → Option R
  | .int i, .int j => if 0 < j ∧ j < 1073741824 then some (.p (.int (i / j))) else none
  | _, _ => none
def pMod : P → P → Option R
  | .int i, .int j => if 0 < j then some (.p (.int (i % j))) else none
  | _, _ => none
def pPow : P → P → Option R
  | .int i, .int j => if 0 ≤ j ∧ j ≤ 1000000 ∧ (i.natAbs : Int) < lim64 then some (.p (.int (i ^ j.toNat))) else none
  | _, _ => none
def pNeg : P → Option R
  | .int i => some (.p (.int (-i)))
  | _ => none
/-! data of one kind at every place, as far as both go -/
mutual
def P.alike : P → P → Bool
  | .non, .non => true
  | .bl _, .bl _ => true
  | .int _, .int _ => true
  | .str _, .str _ => true
  | .lst xs, .lst ys => P.alikes xs ys
  | .tup xs, .tup ys => P.alikes xs ys
  | _, _ => false
def P.alikes : List P → List P → Bool
  | x :: xs, y :: ys => P.alike x y && P.alikes xs ys
  | _, _ => true
end
def natLt : List Nat → List Nat → Bool
  | [], [] => false
  | [], _ :: _ => true
  | _ :: _, [] => false
  | x :: xs, y :: ys => if x = y then natLt xs ys else decide (x < y)
/-! x < y for data that are alike -/
mutual
def P.lt : P → P → Bool
  | .bl a, .bl b => !a && b
  | .int i, .int j => decide (i < j)
  | .str s, .str t => natLt s t
  | .lst xs, .lst ys => P.lts xs ys
  | .tup xs, .tup ys => P.lts xs ys
  | _, _ => false
def P.lts : List P → List P → Bool
  | [], [] => false
  | [], _ :: _ => true
  | _ :: _, [] => false
  | x :: xs, y :: ys => if P.pyeq x y then P.lts xs ys else P.lt x y
end
def cmpOk (p q : P) : Bool := P.alike p q && P.fit 60 p && P.fit 60 q && (match p with | .non => false | _ => true)
def pLt : P → P → Option R
  | .int i, .int j => some (.p (.bl (decide (i < j))))
  | p, q => if cmpOk p q then some (.p (.bl (P.lt p q))) else none
def pLe : P → P → Option R
  | .int i, .int j => some (.p (.bl (decide (i ≤ j))))
  | p, q => if cmpOk p q then some (.p (.bl (!P.lt q p))) else none
def pGt : P → P → Option R
  | .int i, .int j => some (.p (.bl (decide (j < i))))
  | p, q => if cmpOk p q then some (.p (.bl (P.lt q p))) else none
def pGe : P → P → Option R
  | .int i, .int j => some (.p (.bl (decide (j ≤ i))))
  | p, q => if cmpOk p q then some (.p (.bl (!P.lt p q))) else none
def pEq (p q : P) : Option R := if P.fit 60 p && P.fit 60 q then some (.p (.bl (P.pyeq p q))) else none
def pNe (p q : P) : Option R := if P.fit 60 p && P.fit 60 q then some (.p (.bl (!P.pyeq p q))) else none
/-- is, is not: None and truths alone -/
def pIs : P → P → Option R
  | .non, .non => some (.p (.bl true))
  | .bl a, .bl b => some (.p (.bl (decide (a = b))))
  | .lst _, .non => some (.p (.bl false))
  | .tup _, .non => some (.p (.bl false))
  | .int _, .non => some (.p (.bl false))
  | .str _, .non => some (.p (.bl false))
  | .bl _, .non => some (.p (.bl false))
  | _, _ => none
def pIsNot : P → P → Option R
  | .non, .non => some (.p (.bl false))
  | .bl a, .bl b => some (.p (.bl (!decide (a = b))))
  | .lst _, .non => some (.p (.bl true))
  | .tup _, .non => some (.p (.bl true))
  | .int _, .non => some (.p (.bl true))
  | .str _, .non => some (.p (.bl true))
  | .bl _, .non => some (.p (.bl true))
  | _, _ => none
/-- a text in a text -/
def isPre : List Nat → List Nat → Bool
  | [], _ => true
  | _ :: _, [] => false
  | x :: xs, y :: ys => decide (x = y) && isPre xs ys
def isSub (s : List Nat) : List Nat → Bool
  | [] => s.isEmpty
  | y :: ys => isPre s (y :: ys) || isSub s ys
def inData (x : P) (ys : List P) : Bool := ys.any fun y => P.pyeq y x
/-- one sign in a text; data in a list or tuple -/
def pIn : P → P → Option R
  | .str [c], .str t => some (.p (.bl (decide (c ∈ t))))
  | x, .lst ys => if P.fit 60 x && P.fit 60 (.lst ys) then some (.p (.bl (inData x ys))) else none
  | x, .tup ys => if P.fit 60 x && P.fit 60 (.tup ys) then some (.p (.bl (inData x ys))) else none
  | _, _ => none
def pNotIn : P → P → Option R
  | .str [c], .str t => some (.p (.bl (!decide (c ∈ t))))
  | x, .lst ys => if P.fit 60 x && P.fit 60 (.lst ys) then some (.p (.bl (!inData x ys))) else none
  | x, .tup ys => if P.fit 60 x && P.fit 60 (.tup ys) then some (.p (.bl (!inData x ys))) else none
  | _, _ => none
/-- o[i] -/
def pIx : P → P → Option R
  | .lst ds, .int i => (ixP ds.length i).bind fun k => ds[k]?.map fun d => .p d
  | .tup ds, .int i => (ixP ds.length i).bind fun k => ds[k]?.map fun d => .p d
  | .str s, .int i => if s.length ≤ big then (ixP s.length i).bind fun k => s[k]?.map fun c => .p (.str [c]) else none
  | _, _ => none
def isiInt : P → Bool
  | .int _ => true
  | .bl _ => true
  | _ => false
def isiBool : P → Bool
  | .bl _ => true
  | _ => false
def isiTuple : P → Bool
  | .tup _ => true
  | _ => false
def isiStr : P → Bool
  | .str _ => true
  | _ => false
def pIsi (f : P → Bool) (p : P) : Option R := some (.p (.bl (f p)))
/-! ### built-ins -/
def cLen : List P → Option R
  | [.lst ds] => some (.p (.int ds.length))
  | [.tup ds] => some (.p (.int ds.length))
  | [.str s] => if s.length ≤ big then some (.p (.int s.length)) else none
  | _ => none
def cInt : List P → Option R
  | [.int i] => some (.p (.int i))
  | [.bl b] => some (.p (.int (if b then 1 else 0)))
  | _ => none
def cTuple : List P → Option R
  | [.lst ds] => some (.p (.tup ds))
  | [.tup ds] => some (.p (.tup ds))
  | _ => none
def cList : List P → Option R
  | [.lst ds] => some (.frl ds)
  | [.tup ds] => some (.frl ds)
  | _ => none
def boolsOf : List P → Option (List Bool)
  | [] => some []
  | .bl b :: ds => (boolsOf ds).map fun bs => b :: bs
  | _ :: _ => none
def intsOf : List P → Option (List Int)
  | [] => some []
  | .int b :: ds => (intsOf ds).map fun bs => b :: bs
  | _ :: _ => none
def strsOf : List P → Option (List (List Nat))
  | [] => some []
  | .str b :: ds => (strsOf ds).map fun bs => b :: bs
  | _ :: _ => none
def cAll : List P → Option R
  | [.lst ds] => (boolsOf ds).map fun bs => .p (.bl (bs.all id))
  | _ => none
def cAny : List P → Option R
  | [.lst ds] => (boolsOf ds).map fun bs => .p (.bl (bs.any id))
  | _ => none
def cSum : List P → Option R
  | [.lst ds] => (intsOf ds).map fun bs => .p (.int bs.sum)
  | _ => none
def maxI : List Int → Int
  | [] => 0
  | [x] => x
  | x :: xs => let m := maxI xs; if x < m then m else x
def minI : List Int → Int
  | [] => 0
  | [x] => x
  | x :: xs => let m := minI xs; if m < x then m else x
def cMax : List P → Option R
  | [.lst ds] => (intsOf ds).bind fun bs => if bs = [] then none else some (.p (.int (maxI bs)))
  | [.int i, .int j] => some (.p (.int (if j > i then j else i)))
  | _ => none
def cMin : List P → Option R
  | [.lst ds] => (intsOf ds).bind fun bs => if bs = [] then none else some (.p (.int (minI bs)))
  | [.int i, .int j] => some (.p (.int (if j < i then j else i)))
  | _ => none
/-- put in by the order -/
def insP (x : P) : List P → List P
  | [] => [x]
  | y :: ys => if P.lt y x then y :: insP x ys else x :: y :: ys
def sortP : List P → List P
  | [] => []
  | x :: xs => insP x (sortP xs)
def allAlike : List P → Bool
  | [] => true
  | x :: xs => P.alike x x && xs.all (fun y => P.alike x y && P.alike y x) && allAlike xs
def notNone : P → Bool
  | .non => false
  | _ => true
def fullTup : P → Bool
  | .tup (_ :: _) => true
  | _ => false
def noTup : P → Bool
  | .tup _ => false
  | .non => false
  | _ => true
def sortOk (ds : List P) : Bool := allAlike ds && ds.all (P.fit 60) && (ds.all fullTup || ds.all noTup) && decide (ds.length ≤ big)
def cSorted : List P → Option R
  | [.lst ds] => if sortOk ds then some (.frl (sortP ds)) else none
  | _ => none
/-- each datum of a list once, the last place kept -/
def dedupP : List P → List P
  | [] => []
  | x :: xs => if x ∈ xs then dedupP xs else x :: dedupP xs
def isIntP : P → Bool | .int _ => true | _ => false
def isStrP : P → Bool | .str _ => true | _ => false
def setOk (ds : List P) : Bool := (ds.all isIntP || ds.all isStrP) && decide (ds.length ≤ 4000)
def uSortedSet : P → Option R
  | .lst ds => if setOk ds then some (.frl (sortP (dedupP ds))) else none
  | _ => none
def uLenSet : P → Option R
  | .lst ds => if setOk ds then some (.p (.int (dedupP ds).length)) else none
  | _ => none
/-! ### methods -/
def idxIn (x : P) : List P → Option Nat
  | [] => none
  | y :: ys => if P.pyeq y x then some 0 else (idxIn x ys).map (· + 1)
def mIndex : P → List P → Option R
  | .lst ds, [x] => if P.fit 60 x && P.fit 60 (.lst ds) then (idxIn x ds).map (fun (j : Nat) => R.p (P.int (j : Int))) else none
  | _, _ => none
/-- the letters of A to Z as small ones; texts of ASCII alone -/
def lowC (c : Nat) : Nat := if 65 ≤ c ∧ c ≤ 90 then c + 32 else c
def mLower : P → List P → Option R
  | .str s, [] => if s.length ≤ 1000 ∧ s.all (fun c => decide (c < 128)) then some (.p (.str (s.map lowC))) else none
  | _, _ => none
def joinT (sep : List Nat) : List (List Nat) → List Nat
  | [] => []
  | [x] => x
  | x :: xs => x ++ sep ++ joinT sep xs
def mJoin : P → List P → Option R
  | .str s, [.lst ds] => (strsOf ds).bind fun ts => if (ts.map (·.length)).sum + ts.length * s.length ≤ big then some (.p (.str (joinT s ts))) else none
  | .str s, [.tup ds] => (strsOf ds).bind fun ts => if (ts.map (·.length)).sum + ts.length * s.length ≤ big then some (.p (.str (joinT s ts))) else none
  | _, _ => none
/-- a table of the module with texts as keys -/
abbrev Tab := List (List Nat × P)
def tabIn (t : Tab) : P → Option R
  | .str s => some (.p (.bl (t.lookup s).isSome))
  | _ => none
def tabGet (t : Tab) : P → Option R
  | .str s => (t.lookup s).map fun d => .p d
  | _ => none
def uListRng : P → Option R
  | .int n => if -1000 ≤ n ∧ n ≤ big then some (.frl ((List.range n.toNat).map fun i => P.int (i : Nat))) else none
  | _ => none
/-- what is walked: a text's signs, or the items of a list or a tuple -/
def xItA (a : XE) : XI := fun ρ S => match a ρ S with
  | some (.p (.str _), _) => xItS a ρ S
  | _ => xIt a ρ S
/-! ### dicts -/
def lookD (kvs : List (P × P)) (k : P) : Option P := (kvs.find? fun kv => decide (kv.1 = k)).map (·.2)
def putD (kvs : List (P × P)) (k v : P) : List (P × P) :=
  if (kvs.any fun kv => decide (kv.1 = k)) = true then kvs.map (fun kv => if kv.1 = k then (kv.1, v) else kv) else kvs ++ [(k, v)]
def keyOkP : P → Bool
  | .int _ => true
  | .str _ => true
  | _ => false
/-- what a thing is, if it is a dict -/
def R.dict (S : Sto) : R → Option (Bool × List (P × P))
  | .ref l => match S[l]? with
    | some (.dct _ t kvs) => some (t, kvs)
    | _ => none
  | _ => none
/-- {} -/
def xNewD (t : Bool) : XE := fun _ S => some (.frd t [], S)
/-- o[i], o a dict with plain keys -/
def xGetD (o i : XE) : XE := fun ρ S => (o ρ S).bind fun x => (i ρ x.2).bind fun y => (x.1.dict y.2).bind fun d => (y.1.rd y.2).bind fun k =>
  if keyOkP k && !d.1 then (lookD d.2 k).map fun v => (.p v, y.2) else none
/-- i in o, i not in o -/
def xInD (neg : Bool) (i o : XE) : XE := fun ρ S => (i ρ S).bind fun y => (o ρ y.2).bind fun x => (x.1.dict x.2).bind fun d => (y.1.rd x.2).bind fun k =>
  if keyOkP k && !d.1 then some (.p (.bl (neg != (lookD d.2 k).isSome)), x.2) else none
/-- o[i] = e -/
def xPutD (e o i : XE) : XS := fun ρ S => (e ρ S).bind fun v => (o ρ v.2).bind fun x => (i ρ x.2).bind fun y => match x.1 with
  | .ref l => match y.2[l]? with
    | some (.dct false false kvs) => (v.1.fz).bind fun d => (y.1.rd y.2).bind fun k => if keyOkP k && decide (kvs.length < big) then some (.nx ρ, y.2.set l (.dct false false (putD kvs k d))) else none
    | _ => none
  | _ => none
def xLenD (o : XE) : XE := fun ρ S => (o ρ S).bind fun x => match x.1 with
  | .ref l => match x.2[l]? with
    | some (.dct false false kvs) => some (.p (.int kvs.length), x.2)
    | _ => none
  | _ => none
/-- sorted(o): the keys, texts alone -/
def xSortedD (o : XE) : XE := fun ρ S => (o ρ S).bind fun x => match x.1 with
  | .ref l => match x.2[l]? with
    | some (.dct false false kvs) => if (kvs.map (·.1)).all isStrP && decide (kvs.length < 64) then some (.frl (sortP (kvs.map (·.1))), x.2) else none
    | _ => none
  | _ => none
/-- a statement or an expression, run while the dict in slot i is locked -/
def xLockS (i : Nat) (x : XS) : XS := fun ρ S => match ρ[i]? with
  | some (some (.ref l)) => match S[l]? with
    | some (.dct false t kvs) => (x ρ (S.set l (.dct true t kvs))).bind fun y => if y.2[l]? = some (.dct true t kvs) then some (y.1, y.2.set l (.dct false t kvs)) else none
    | _ => none
  | _ => none
def xLockE (i : Nat) (x : XE) : XE := fun ρ S => match ρ[i]? with
  | some (some (.ref l)) => match S[l]? with
    | some (.dct false t kvs) => (x ρ (S.set l (.dct true t kvs))).bind fun y => if y.2[l]? = some (.dct true t kvs) then some (y.1, y.2.set l (.dct false t kvs)) else none
    | _ => none
  | _ => none
/-- the keys of the locked dict in slot i -/
def xItL (i : Nat) : XI := fun ρ S => match ρ[i]? with
  | some (some (.ref l)) => match S[l]? with
    | some (.dct true false kvs) => some (kvs.map (·.1), some l, S)
    | _ => none
  | _ => none
/-- list(x): of a list, a tuple, a text -/
def cListA : List P → Option R
  | [.lst ds] => some (.frl ds)
  | [.tup ds] => some (.frl ds)
  | [.str s] => if s.length ≤ big then some (.frl (s.map fun c => .str [c])) else none
  | _ => none
/-- s.split(c), c one sign -/
def splitC (c : Nat) : List Nat → List Nat → List (List Nat)
  | acc, [] => [acc]
  | acc, x :: xs => if x = c then acc :: splitC c [] xs else splitC c (acc ++ [x]) xs
def mSplit : P → List P → Option R
  | .str s, [.str [c]] => if s.length ≤ big ∧ c < 128 then some (.frl ((splitC c [] s).map P.str)) else none
  | _, _ => none
/-- LETTERS.index(sign) -/
def lettersC : List Nat := [66, 68, 70, 77, 79, 83, 98, 100, 101, 102, 109, 111, 115]
def mIndexL : P → List P → Option R
  | .str s, [.str [c]] => if s = lettersC ∧ c ∈ lettersC then some (.p (.int (lettersC.idxOf c : Nat))) else none
  | _, _ => none
/-- a, b, .. = e, e a list -/
def xUnpL (is : List Nat) (a : XE) : XS := fun ρ S => (a ρ S).bind fun x => (x.1.rd x.2).bind fun d => match d with
  | .lst ds => (setAll is ds ρ).map fun ρ' => (.nx ρ', x.2)
  | _ => none
end XL
end
section
set_option Elab.async false
set_option linter.all false
set_option maxRecDepth 100000
set_option maxHeartbeats 1000000
namespace XL
open PySem L2 PyProof.Rows
/-! ### data as the library's data -/
mutual
def toPD : P → PyData
  | .non => .none
  | .bl b => .bool b
  | .int i => .int i
  | .str s => .str ⟨s.toArray⟩
  | .tup ds => .tuple (toPDs ds)
  | .lst ds => .list (toPDs ds)
def toPDs : List P → List PyData
  | [] => []
  | d :: ds => toPD d :: toPDs ds
end
theorem toPDs_map : ∀ ds : List P, toPDs ds = ds.map toPD
  | [] => by simp [toPDs]
  | d :: ds => by simp [toPDs, toPDs_map ds]
section
variable {K : PySem.W.Frag} {m : List Addr} {H : Hp}
mutual
theorem RepP.dp : ∀ (d : P) (v : V), RepP K m H d v → Dp K H v (toPD d)
  | .non, v, h => by simp only [RepP] at h; subst h; simp only [toPD]; exact .non
  | .bl b, v, h => by simp only [RepP] at h; subst h; simp only [toPD]; exact .bl b
  | .int b, v, h => by simp only [RepP] at h; subst h; simp only [toPD]; exact .int b
  | .str b, v, h => by simp only [RepP] at h; subst h; simp only [toPD]; exact .str _
  | .tup ds, v, h => by
    simp only [RepP] at h
    obtain ⟨a, vs, rfl, f, r⟩ := h
    simp only [toPD]
    exact .tup f.sq (RepPs.dp ds vs r)
  | .lst ds, v, h => by
    simp only [RepP] at h
    obtain ⟨a, vs, rfl, f, r⟩ := h
    simp only [toPD]
    exact .lst f.sq (RepPs.dp ds vs r)
theorem RepPs.dp : ∀ (ds : List P) (vs : List V), RepPs K m H ds vs → DpAll K H vs (toPDs ds)
  | [], vs, h => by simp only [RepPs] at h; subst h; simp only [toPDs]; exact .nil
  | d :: ds, vs, h => by
    simp only [RepPs] at h
    obtain ⟨v, r, rfl, h1, h2⟩ := h
    simp only [toPDs]
    exact .cons (RepP.dp d v h1) (RepPs.dp ds r h2)
end
theorem RdT.dp : ∀ {d : P} {v : V}, RdT K m H d v → Dp K H v (toPD d)
  | .non, v, h => RepP.dp (m := m) _ v h
  | .bl _, v, h => RepP.dp (m := m) _ v h
  | .int _, v, h => RepP.dp (m := m) _ v h
  | .str _, v, h => RepP.dp (m := m) _ v h
  | .tup _, v, h => RepP.dp (m := m) _ v h
  | .lst ds, v, h => by
    obtain ⟨a, vs, rfl, f, r⟩ := h
    simp only [toPD]
    exact .lst (.inl f) (RepPs.dp ds vs r)
end
theorem beqd {α : Type} [BEq α] [LawfulBEq α] [DecidableEq α] (a b : α) : (a == b) = decide (a = b) := by
  by_cases h : a = b
  · subst h; simp
  · rw [decide_eq_false h]; exact beq_eq_false_iff_ne.mpr h
mutual
theorem eqv_pyeq : ∀ (a b : P), PyData.eqv (toPD a) (toPD b) = P.pyeq a b
  | .non, b => by cases b <;> simp [toPD, PyData.eqv, P.pyeq]
  | .bl x, b => by cases b <;> simp [toPD, PyData.eqv, P.pyeq, beqd]
  | .int x, b => by cases b <;> simp [toPD, PyData.eqv, P.pyeq, beqd]
  | .str x, b => by
    cases b <;> simp [toPD, PyData.eqv, P.pyeq, beqd]
  | .tup xs, b => by
    cases b <;> simp [toPD, PyData.eqv, P.pyeq]
    exact eqvs_pyeq xs _
  | .lst xs, b => by
    cases b <;> simp [toPD, PyData.eqv, P.pyeq]
    exact eqvs_pyeq xs _
theorem eqvs_pyeq : ∀ (a b : List P), PyData.eqvAll (toPDs a) (toPDs b) = P.pyeqs a b
  | [], b => by cases b <;> simp [toPDs, PyData.eqvAll, P.pyeqs]
  | x :: xs, b => by
    cases b with
    | nil => simp [toPDs, PyData.eqvAll, P.pyeqs]
    | cons y ys => simp [toPDs, PyData.eqvAll, P.pyeqs, eqv_pyeq x y, eqvs_pyeq xs ys]
end
theorem fit_all : ∀ (n : Nat), (∀ (d : P), P.fit n d = true → PyData.canLay0 (toPD d) = true ∧ PyData.depth (toPD d) ≤ n) ∧ ∀ (ds : List P), ds.all (P.fit n) = true → PyData.canLayAll0 (toPDs ds) = true ∧ PyData.depthAll (toPDs ds) ≤ n := by
  intro n
  induction n with
  | zero =>
    have h1 : ∀ (d : P), P.fit 0 d = true → PyData.canLay0 (toPD d) = true ∧ PyData.depth (toPD d) ≤ 0 := fun d h => by
      cases d <;> simp [P.fit, toPD, PyData.canLay0, PyData.depth, PyData.strOk] at h ⊢
      exact h
    refine ⟨h1, fun ds => ?_⟩
    induction ds with
    | nil => intro _; simp [toPDs, PyData.canLayAll0, PyData.depthAll]
    | cons d ds ih =>
      intro h
      simp only [List.all_cons, Bool.and_eq_true] at h
      obtain ⟨a1, a2⟩ := h1 d h.1
      obtain ⟨b1, b2⟩ := ih h.2
      simp only [toPDs, PyData.canLayAll0, PyData.depthAll, a1, b1, Bool.and_self, true_and]
      omega
  | succ n ih =>
    have h1 : ∀ (d : P), P.fit (n + 1) d = true → PyData.canLay0 (toPD d) = true ∧ PyData.depth (toPD d) ≤ n + 1 := fun d h => by
      cases d with
      | tup ds =>
        simp only [P.fit] at h
        obtain ⟨a1, a2⟩ := ih.2 ds h
        simp only [toPD, PyData.canLay0, PyData.depth]
        exact ⟨a1, by omega⟩
      | lst ds =>
        simp only [P.fit] at h
        obtain ⟨a1, a2⟩ := ih.2 ds h
        simp only [toPD, PyData.canLay0, PyData.depth]
        exact ⟨a1, by omega⟩
      | str s =>
        simp [P.fit, toPD, PyData.canLay0, PyData.depth, PyData.strOk] at h ⊢
        exact h
      | _ => simp [toPD, PyData.canLay0, PyData.depth]
    refine ⟨h1, fun ds => ?_⟩
    induction ds with
    | nil => intro _; simp [toPDs, PyData.canLayAll0, PyData.depthAll]
    | cons d ds ih2 =>
      intro h
      simp only [List.all_cons, Bool.and_eq_true] at h
      obtain ⟨a1, a2⟩ := h1 d h.1
      obtain ⟨b1, b2⟩ := ih2 h.2
      simp only [toPDs, PyData.canLayAll0, PyData.depthAll, a1, b1, Bool.and_self, true_and]
      omega
theorem fit_shaped {d : P} (h : P.fit 60 d = true) : SeqAt.shaped (toPD d) = true := by
  obtain ⟨a, b⟩ := (fit_all 60).1 d h
  unfold SeqAt.shaped
  rw [a, decide_eq_true (by omega : PyData.depth (toPD d) ≤ 64)]
  rfl
/-! ### the order -/
mutual
theorem alike_pd : ∀ (a b : P), PySem.W.alike (toPD a) (toPD b) = P.alike a b
  | .non, b => by cases b <;> simp [toPD, PySem.W.alike, P.alike]
  | .bl x, b => by cases b <;> simp [toPD, PySem.W.alike, P.alike]
  | .int x, b => by cases b <;> simp [toPD, PySem.W.alike, P.alike]
  | .str x, b => by cases b <;> simp [toPD, PySem.W.alike, P.alike]
  | .tup xs, b => by
    cases b <;> simp [toPD, PySem.W.alike, P.alike]
    exact alikes_pd xs _
  | .lst xs, b => by
    cases b <;> simp [toPD, PySem.W.alike, P.alike]
    exact alikes_pd xs _
theorem alikes_pd : ∀ (a b : List P), PySem.W.alikeAll (toPDs a) (toPDs b) = P.alikes a b
  | [], b => by cases b <;> simp [toPDs, PySem.W.alikeAll, P.alikes]
  | x :: xs, b => by
    cases b with
    | nil => simp [toPDs, PySem.W.alikeAll, P.alikes]
    | cons y ys => simp [toPDs, PySem.W.alikeAll, P.alikes, alike_pd x y, alikes_pd xs ys]
end
theorem natLt_iff : ∀ (s t : List Nat), natLt s t = decide (s < t)
  | [], [] => by simp [natLt]
  | [], _ :: _ => by simp [natLt]
  | _ :: _, [] => by simp [natLt]
  | x :: xs, y :: ys => by
    simp only [natLt]
    by_cases c : x = y
    · subst c
      rw [if_pos rfl, natLt_iff xs ys]
      simp
    · rw [if_neg c]
      simp [List.cons_lt_cons_iff, c]
mutual
theorem lt_pd : ∀ (a b : P), P.alike a b = true → PySem.W.dataLt (toPD a) (toPD b) = P.lt a b
  | .non, b, h => by
    cases b <;> simp [P.alike] at h
    simp only [toPD, P.lt]
    exact PyProof.Rows.lex_irrefl _
  | .bl x, b, h => by
    cases b <;> simp [P.alike] at h
    rename_i y
    simp only [toPD, P.lt]
    rw [PySem.W.dataLt_bool]
    cases x <;> cases y <;> rfl
  | .int x, b, h => by
    cases b <;> simp [P.alike] at h
    simp only [toPD, P.lt]
    rw [PySem.W.dataLt_int]
  | .str x, b, h => by
    cases b <;> simp [P.alike] at h
    simp only [toPD, P.lt]
    rw [PySem.W.dataLt_str, natLt_iff]
  | .tup xs, b, h => by
    cases b <;> simp [P.alike] at h
    rename_i ys
    simp only [toPD, P.lt]
    rw [PySem.W.dataLt_tuple]
    exact lts_pd xs ys h
  | .lst xs, b, h => by
    cases b <;> simp [P.alike] at h
    rename_i ys
    simp only [toPD, P.lt]
    rw [PySem.W.dataLt_list]
    exact lts_pd xs ys h
theorem lts_pd : ∀ (a b : List P), P.alikes a b = true → PyProof.Rows.lexLt PyProof.Rows.itemOrd (PySem.W.keyToksAll (toPDs a)) (PySem.W.keyToksAll (toPDs b)) = P.lts a b
  | [], [], _ => by
    simp only [toPDs, P.lts]
    exact PyProof.Rows.lex_irrefl _
  | [], y :: ys, _ => by
    simp only [toPDs, P.lts]
    simp only [PySem.W.keyToksAll]
    exact (PyProof.Rows.lex_diff (O := PyProof.Rows.itemOrd) (by decide)).trans rfl
  | x :: xs, [], _ => by
    simp only [toPDs, P.lts]
    simp only [PySem.W.keyToksAll]
    exact (PyProof.Rows.lex_diff (O := PyProof.Rows.itemOrd) (by decide)).trans rfl
  | x :: xs, y :: ys, h => by
    simp only [P.alikes, Bool.and_eq_true] at h
    simp only [toPDs, P.lts]
    have ha : PySem.W.alike (toPD x) (toPD y) = true := by rw [alike_pd]; exact h.1
    cases e : P.pyeq x y with
    | true =>
      rw [if_pos rfl, PySem.W.dataLt_all_yes ha (by rw [eqv_pyeq]; exact e)]
      exact lts_pd xs ys h.2
    | false =>
      rw [if_neg (by simp), PySem.W.dataLt_all_no ha (by rw [eqv_pyeq]; exact e)]
      exact lt_pd x y h.1
end
end XL
end
section
set_option Elab.async false
set_option linter.all false
set_option maxRecDepth 100000
set_option maxHeartbeats 1000000
namespace XL
open PySem L2 PyProof.Rows
section
variable {X : Cx}
theorem opr_imp {f : Value → Value → Sem Value} {r : R2} {g : P → P → Option R} (h : OpR X f r) (w : ∀ x y H Q, rOf X.K g x y H Q → r x y H Q) : OpR X f (rOf X.K g) := fun pins s σ H x y v u Q I rx ry q => h pins s σ H x y v u Q I rx ry (w x y H Q q)
theorem rep_scal {K : PySem.W.Frag} {G m : List Addr} {H : Hp} {d : P} {v : V} (h : RepP K (m ++ G) H d v) : RepR K G m H (.p d) v := h
theorem op_catL : OpR X (binaryOp .Add) (fun x y H Q => ∃ l b xs zs, x = .ref l ∧ y = .ref b ∧ Rd H l (.lst xs) ∧ Rd H b (.lst zs) ∧ xs.length + zs.length ≤ sizeLine ∧ ∀ p, H p = none → Q (.ref p) (upd H p (.lst (xs ++ zs)))) := by
  intro pins s σ H x y v u Q I rx ry h
  obtain ⟨l, b, xs, zs, rfl, rfl, hH, hB, hz, q⟩ := h
  cases rx
  cases ry
  obtain ⟨z, its, n, r, e⟩ := hH.ok I.hok
  obtain ⟨z2, its2, n2, r2, e2⟩ := hB.ok I.hok
  have hl := r.length
  have hl2 := r2.length
  refine PySem.P.add_list e e2 ?_ (by rw [List.size_toArray, List.size_toArray]; omega)
  have ea : its.toArray ++ its2.toArray = (its ++ its2).toArray := by simp
  rw [ea]
  exact ⟨.ref _, _, I.lnew (t' := s.toks) (r.append r2) (by rw [List.length_append]; omega), rfl, q _ I.fresh⟩
theorem op_addX : OpR X (binaryOp .Add) (rOf X.K pAdd) := opr_imp (OpR.or op_add (OpR.or op_add_str (OpR.or op_catL op_catA))) fun x y H Q h => by
  obtain ⟨m, G, S, p, q, r, hS, hp, hq, hf, k⟩ := h
  unfold pAdd at hf
  split at hf
  · cases hf
    simp only [RdT, RepP] at hp hq
    subst hp hq
    exact .inl ⟨_, _, rfl, rfl, k _ H (Ext.refl _) (by simp [RepR, RepP]) trivial⟩
  · split at hf
    · rename_i hl
      cases hf
      simp only [RdT, RepP] at hp hq
      subst hp hq
      refine .inr (.inl ⟨_, _, rfl, rfl, ?_, k _ H (Ext.refl _) ?_ trivial⟩)
      · show _ + _ ≤ _
        simp only [Str.length, List.size_toArray]
        exact big_size hl
      · simp only [RepR, RepP, V.str.injEq]
        show Str.append _ _ = _
        simp [Str.append]
    · cases hf
  · split at hf
    · rename_i hl
      cases hf
      obtain ⟨a, vs, rfl, f1, r1⟩ := hp
      obtain ⟨b, ws, rfl, f2, r2⟩ := hq
      refine .inr (.inr (.inl ⟨a, b, vs, ws, rfl, rfl, f1, f2, ?_, fun p hp => ?_⟩))
      · rw [← r1.length, ← r2.length]; exact big_size hl
      · have e := Ext.new (o := .lst (vs ++ ws)) hp
        exact k _ _ e ⟨p, _, rfl, hS.fresh hp, upd_same, RepPs.step (Step.of_ext e) _ _ (r1.append r2)⟩ (own_new hS hp (r1.append r2))
    · cases hf
  · split at hf
    · rename_i xs ys hl
      cases hf
      simp only [RdT, RepP] at hp hq
      obtain ⟨a, vs, rfl, f1, r1⟩ := hp
      obtain ⟨b, ws, rfl, f2, r2⟩ := hq
      have l1 := r1.length
      have l2 := r2.length
      refine .inr (.inr (.inr ⟨a, b, vs, ws, rfl, rfl, f1.sq, f2.sq, ?_, fun e => ?_, fun e1 e2 => ?_, fun e1 e2 p hp => ?_⟩))
      · rw [← l1, ← l2]; exact big_size hl
      · subst e
        have : xs = [] := List.length_eq_zero_iff.mp (by simpa using l1)
        subst this
        exact k _ H (Ext.refl _) (by simp only [RepR, RepP]; exact ⟨b, ws, rfl, f2, by simpa using r2⟩) trivial
      · subst e2
        have : ys = [] := List.length_eq_zero_iff.mp (by simpa using l2)
        subst this
        exact k _ H (Ext.refl _) (by simp only [RepR, RepP]; exact ⟨a, vs, rfl, f1, by simpa using r1⟩) trivial
      · have e := Ext.new (o := .tup (vs ++ ws)) hp
        refine k _ _ e ?_ trivial
        simp only [RepR, RepP]
        exact ⟨p, _, rfl, .inl ⟨.inl upd_same, hS.fresh hp⟩, RepPs.step (Step.of_ext e) _ _ (r1.append r2)⟩
    · cases hf
  · cases hf
theorem op_subX : OpR X (binaryOp .Sub) (rOf X.K pSub) := opr_imp op_sub fun x y H Q h => by
  obtain ⟨m, G, S, p, q, r, hS, hp, hq, hf, k⟩ := h
  unfold pSub at hf
  split at hf
  · cases hf
    simp only [RdT, RepP] at hp hq
    subst hp hq
    exact ⟨_, _, rfl, rfl, k _ H (Ext.refl _) (by simp [RepR, RepP]) trivial⟩
  · cases hf
theorem op_mulX : OpR X (binaryOp .Mult) (rOf X.K pMul) := opr_imp (OpR.or op_mul op_repT) fun x y H Q h => by
  obtain ⟨m, G, S, p, q, r, hS, hp, hq, hf, k⟩ := h
  unfold pMul at hf
  split at hf
  · split at hf
    · rename_i hc
      cases hf
      simp only [RdT, RepP] at hp hq
      subst hp hq
      exact .inl ⟨_, _, rfl, rfl, hc, k _ H (Ext.refl _) (by simp [RepR, RepP]) trivial⟩
    · cases hf
  · split at hf
    · rename_i xs kk hc
      cases hf
      simp only [RdT, RepP] at hp hq
      subst hq
      obtain ⟨a, vs, rfl, f1, r1⟩ := hp
      have l1 := r1.length
      refine .inr ⟨a, kk, vs, rfl, rfl, f1.sq, fun e => hc.1 ?_, hc.2.1, hc.2.2.1, by omega, fun p hp => ?_⟩
      · subst e
        exact List.length_eq_zero_iff.mp (by simpa using l1)
      · have e := Ext.new (o := .tup (List.replicate kk.toNat vs).flatten) hp
        refine k _ _ e ?_ trivial
        simp only [RepR, RepP]
        refine ⟨p, _, rfl, .inl ⟨.inl upd_same, hS.fresh hp⟩, RepPs.step (Step.of_ext e) _ _ ?_⟩
        generalize kk.toNat = n
        induction n with
        | zero => exact RepPs.nil
        | succ n ih => simpa [List.replicate_succ] using r1.append ih
    · cases hf
  · cases hf
theorem op_divX : OpR X (binaryOp .FloorDiv) (rOf X.K pDiv) := opr_imp op_fdiv fun x y H Q h => by
  obtain ⟨m, G, S, p, q, r, hS, hp, hq, hf, k⟩ := h
  unfold pDiv at hf
  split at hf
  · split at hf
    · rename_i hc
      cases hf
      simp only [RdT, RepP] at hp hq
      subst hp hq
      exact ⟨_, _, rfl, rfl, hc, k _ H (Ext.refl _) (by simp [RepR, RepP]) trivial⟩
    · cases hf
  · cases hf
theorem op_modX : OpR X (binaryOp .Mod) (rOf X.K pMod) := opr_imp op_mod fun x y H Q h => by
  obtain ⟨m, G, S, p, q, r, hS, hp, hq, hf, k⟩ := h
  unfold pMod at hf
  split at hf
  · split at hf
    · rename_i hc
      cases hf
      simp only [RdT, RepP] at hp hq
      subst hp hq
      exact ⟨_, _, rfl, rfl, hc, k _ H (Ext.refl _) (by simp [RepR, RepP]) trivial⟩
    · cases hf
  · cases hf
theorem op_powX : OpR X (binaryOp .Pow) (rOf X.K pPow) := opr_imp op_pow fun x y H Q h => by
  obtain ⟨m, G, S, p, q, r, hS, hp, hq, hf, k⟩ := h
  unfold pPow at hf
  split at hf
  · split at hf
    · rename_i hc
      cases hf
      simp only [RdT, RepP] at hp hq
      subst hp hq
      have h3 := hc.2.2
      unfold lim64 at h3
      exact ⟨_, _, rfl, rfl, ⟨hc.1, hc.2.1, by omega⟩, k _ H (Ext.refl _) (by simp [RepR, RepP]) trivial⟩
    · cases hf
  · cases hf
theorem un_negX : UnR X (unaryOp .USub) (uOf X.K pNeg) := fun pins s σ H x v Q I rx h => by
  obtain ⟨m, G, S, p, r, hS, hp, hf, k⟩ := h
  unfold pNeg at hf
  split at hf
  · cases hf
    simp only [RdT, RepP] at hp
    subst hp
    exact un_neg pins s σ H _ v Q I rx ⟨_, rfl, k _ H (Ext.refl _) (by simp [RepR, RepP]) trivial⟩
  · cases hf
/-! ### comparisons -/
theorem notnone {p : P} (h : (match p with | .non => false | _ => true) = true) : toPD p ≠ .none := by
  cases p <;> simp [toPD] at h ⊢
theorem cmp_room {p q : P} {A : Around} (hu : A.units + 64 < cLine) (h : P.fit 60 p = true) : A.units + min (toPD p).depth (toPD q).depth < cLine := by
  have := ((fit_all 60).1 p h).2
  have := Nat.min_le_left (toPD p).depth (toPD q).depth
  omega
theorem cmp_of {p q : P} (h : cmpOk p q = true) : PySem.W.alike (toPD p) (toPD q) = true ∧ P.alike p q = true ∧ P.fit 60 p = true ∧ P.fit 60 q = true ∧ toPD p ≠ .none := by
  unfold cmpOk at h
  simp only [Bool.and_eq_true] at h
  exact ⟨by rw [alike_pd]; exact h.1.1.1, h.1.1.1, h.1.1.2, h.1.2, notnone h.2⟩
theorem alike_symm {p q : P} (h : P.alike p q = true) : P.alike q p = true := by
  rw [← alike_pd, PySem.W.alike_comm, alike_pd]; exact h
theorem op_ltX (hu : X.A.units + 64 < cLine) : OpR X (compareOp .Lt) (rOf X.K pLt) := fun pins s σ H x y v u Q I rx ry h => by
  obtain ⟨m, G, S, p, q, r, hS, hp, hq, hf, k⟩ := h
  unfold pLt at hf
  split at hf
  · cases hf
    simp only [RdT, RepP] at hp hq
    subst hp hq
    exact op_lt pins s σ H _ _ v u Q I rx ry ⟨_, _, rfl, rfl, k _ H (Ext.refl _) (by simp [RepR, RepP]) trivial⟩
  · split at hf
    · rename_i hc
      cases hf
      obtain ⟨c1, c2, c3, c4, c5⟩ := cmp_of hc
      obtain ⟨as, r1⟩ := Dp.reads I _ x v hp.dp rx
      obtain ⟨bs, r2⟩ := Dp.reads I _ y u hq.dp ry
      refine PySem.W.lt_data r1 r2 c1 c5 (cmp_room hu c3) ?_
      rw [lt_pd _ _ c2]
      exact ⟨.bl _, H, I, rfl, k _ H (Ext.refl _) (by simp [RepR, RepP]) trivial⟩
    · cases hf
theorem op_gtX (hu : X.A.units + 64 < cLine) : OpR X (compareOp .Gt) (rOf X.K pGt) := fun pins s σ H x y v u Q I rx ry h => by
  obtain ⟨m, G, S, p, q, r, hS, hp, hq, hf, k⟩ := h
  unfold pGt at hf
  split at hf
  · cases hf
    simp only [RdT, RepP] at hp hq
    subst hp hq
    exact op_gt pins s σ H _ _ v u Q I rx ry ⟨_, _, rfl, rfl, k _ H (Ext.refl _) (by simp [RepR, RepP]) trivial⟩
  · split at hf
    · rename_i hc
      cases hf
      obtain ⟨c1, c2, c3, c4, c5⟩ := cmp_of hc
      obtain ⟨as, r1⟩ := Dp.reads I _ x v hp.dp rx
      obtain ⟨bs, r2⟩ := Dp.reads I _ y u hq.dp ry
      refine PySem.W.gt_data r1 r2 c1 c5 (cmp_room hu c3) ?_
      rw [lt_pd _ _ (alike_symm c2)]
      exact ⟨.bl _, H, I, rfl, k _ H (Ext.refl _) (by simp [RepR, RepP]) trivial⟩
    · cases hf
theorem op_leX (hu : X.A.units + 64 < cLine) : OpR X (compareOp .LtE) (rOf X.K pLe) := fun pins s σ H x y v u Q I rx ry h => by
  obtain ⟨m, G, S, p, q, r, hS, hp, hq, hf, k⟩ := h
  unfold pLe at hf
  split at hf
  · cases hf
    simp only [RdT, RepP] at hp hq
    subst hp hq
    exact op_le pins s σ H _ _ v u Q I rx ry ⟨_, _, rfl, rfl, k _ H (Ext.refl _) (by simp [RepR, RepP]) trivial⟩
  · split at hf
    · rename_i hc
      cases hf
      obtain ⟨c1, c2, c3, c4, c5⟩ := cmp_of hc
      obtain ⟨as, r1⟩ := Dp.reads I _ x v hp.dp rx
      obtain ⟨bs, r2⟩ := Dp.reads I _ y u hq.dp ry
      refine PySem.W.le_data r1 r2 c1 c5 (cmp_room hu c3) ?_
      rw [lt_pd _ _ (alike_symm c2)]
      exact ⟨.bl _, H, I, rfl, k _ H (Ext.refl _) (by simp [RepR, RepP]) trivial⟩
    · cases hf
theorem op_geX (hu : X.A.units + 64 < cLine) : OpR X (compareOp .GtE) (rOf X.K pGe) := fun pins s σ H x y v u Q I rx ry h => by
  obtain ⟨m, G, S, p, q, r, hS, hp, hq, hf, k⟩ := h
  unfold pGe at hf
  split at hf
  · cases hf
    simp only [RdT, RepP] at hp hq
    subst hp hq
    exact op_ge pins s σ H _ _ v u Q I rx ry ⟨_, _, rfl, rfl, k _ H (Ext.refl _) (by simp [RepR, RepP]) trivial⟩
  · split at hf
    · rename_i hc
      cases hf
      obtain ⟨c1, c2, c3, c4, c5⟩ := cmp_of hc
      obtain ⟨as, r1⟩ := Dp.reads I _ x v hp.dp rx
      obtain ⟨bs, r2⟩ := Dp.reads I _ y u hq.dp ry
      refine PySem.W.ge_data r1 r2 c1 c5 (cmp_room hu c3) ?_
      rw [lt_pd _ _ c2]
      exact ⟨.bl _, H, I, rfl, k _ H (Ext.refl _) (by simp [RepR, RepP]) trivial⟩
    · cases hf
theorem op_eqX (hu : X.A.units + 64 < cLine) : OpR X (compareOp .Eq) (rOf X.K pEq) := opr_imp (op_eqD hu) fun x y H Q h => by
  obtain ⟨m, G, S, p, q, r, hS, hp, hq, hf, k⟩ := h
  unfold pEq at hf
  split at hf
  · rename_i hc
    simp only [Bool.and_eq_true] at hc
    cases hf
    refine ⟨_, _, hp.dp, hq.dp, fit_shaped hc.1, fit_shaped hc.2, ?_⟩
    rw [eqv_pyeq]
    exact k _ H (Ext.refl _) (by simp [RepR, RepP]) trivial
  · cases hf
theorem op_neX (hu : X.A.units + 64 < cLine) : OpR X (compareOp .NotEq) (rOf X.K pNe) := opr_imp (op_neD hu) fun x y H Q h => by
  obtain ⟨m, G, S, p, q, r, hS, hp, hq, hf, k⟩ := h
  unfold pNe at hf
  split at hf
  · rename_i hc
    simp only [Bool.and_eq_true] at hc
    cases hf
    refine ⟨_, _, hp.dp, hq.dp, fit_shaped hc.1, fit_shaped hc.2, ?_⟩
    rw [eqv_pyeq]
    exact k _ H (Ext.refl _) (by simp [RepR, RepP]) trivial
  · cases hf
/-- data that are not None -/
theorem rdt_ref {K : PySem.W.Frag} {m : List Addr} {H : Hp} {p : P} {v : V} (h : RdT K m H p v) : v = .non ↔ p = .non := by
  cases p <;> simp only [RdT, RepP] at h <;> first | (subst h; simp) | (obtain ⟨a, vs, rfl, _⟩ := h; simp)
theorem op_isX : OpR X (compareOp .Is) (rOf X.K pIs) := opr_imp (OpR.or op_isN op_is_bl) fun x y H Q h => by
  obtain ⟨m, G, S, p, q, r, hS, hp, hq, hf, k⟩ := h
  have e := rdt_ref hp
  unfold pIs at hf
  split at hf <;> first
    | (cases hf
       simp only [RdT, RepP] at hq
       subst hq
       refine .inl ⟨rfl, ?_⟩
       have e2 : decide (x = V.non) = true := decide_eq_true (e.mpr rfl)
       rw [e2]
       exact k _ H (Ext.refl _) (by simp [RepR, RepP]) trivial)
    | (cases hf
       simp only [RdT, RepP] at hq
       subst hq
       refine .inl ⟨rfl, ?_⟩
       have e2 : decide (x = V.non) = false := decide_eq_false (fun z => nomatch (e.mp z))
       rw [e2]
       exact k _ H (Ext.refl _) (by simp [RepR, RepP]) trivial)
    | (cases hf
       simp only [RdT, RepP] at hp hq
       subst hp hq
       exact .inr ⟨_, _, rfl, rfl, k _ H (Ext.refl _) (by simp [RepR, RepP]) trivial⟩)
    | cases hf
theorem op_isNotX : OpR X (compareOp .IsNot) (rOf X.K pIsNot) := opr_imp (OpR.or op_notN op_isnot_bl) fun x y H Q h => by
  obtain ⟨m, G, S, p, q, r, hS, hp, hq, hf, k⟩ := h
  have e := rdt_ref hp
  unfold pIsNot at hf
  split at hf <;> first
    | (cases hf
       simp only [RdT, RepP] at hq
       subst hq
       refine .inl ⟨rfl, ?_⟩
       have e2 : decide (x = V.non) = true := decide_eq_true (e.mpr rfl)
       rw [e2]
       exact k _ H (Ext.refl _) (by simp [RepR, RepP]) trivial)
    | (cases hf
       simp only [RdT, RepP] at hq
       subst hq
       refine .inl ⟨rfl, ?_⟩
       have e2 : decide (x = V.non) = false := decide_eq_false (fun z => nomatch (e.mp z))
       rw [e2]
       exact k _ H (Ext.refl _) (by simp [RepR, RepP]) trivial)
    | (cases hf
       simp only [RdT, RepP] at hp hq
       subst hp hq
       exact .inr ⟨_, _, rfl, rfl, k _ H (Ext.refl _) (by simp [RepR, RepP]) trivial⟩)
    | cases hf
end
end XL
end
section
set_option Elab.async false
set_option linter.all false
set_option maxRecDepth 100000
set_option maxHeartbeats 1000000
namespace XL
open PySem L2 PyProof.Rows
/-! ### in, not in, o[i] -/
section
variable {X : Cx}
theorem room_in {n : Nat} {e : P} {A : Around} (hu : A.units + 65 < cLine) (h : P.fit 60 e = true) : A.units + 1 + min n (toPD e).depth < cLine := by
  have := ((fit_all 60).1 e h).2
  have := Nat.min_le_right n (toPD e).depth
  omega
theorem any_pd (x : P) : ∀ ys : List P, ((toPDs ys).any fun z => PyData.eqv z (toPD x)) = inData x ys
  | [] => by simp [toPDs, inData]
  | y :: ys => by
    have ih := any_pd x ys
    simp only [toPDs, List.any_cons, inData, eqv_pyeq] at ih ⊢
    rw [ih]
theorem op_inX (hu : X.A.units + 65 < cLine) : OpR X (compareOp .In) (rOf X.K pIn) := fun pins s σ H x y v u Q I rx ry h => by
  obtain ⟨m, G, S, p, q, r, hS, hp, hq, hf, k⟩ := h
  unfold pIn at hf
  split at hf
  · cases hf
    simp only [RdT, RepP] at hp hq
    subst hp hq
    exact op_in_sign pins s σ H _ _ v u Q I rx ry ⟨_, _, rfl, rfl, k _ H (Ext.refl _) (by simp [RepR, RepP]) trivial⟩
  · split at hf
    · rename_i hc
      simp only [Bool.and_eq_true] at hc
      cases hf
      obtain ⟨as, r1⟩ := Dp.reads I _ x v hp.dp rx
      obtain ⟨bs, r2⟩ := Dp.reads I _ y u hq.dp ry
      have c2 := (fit_all 60).1 _ hc.2
      simp only [toPD, PyData.canLay0] at r2 c2
      refine SeqAt.in_list_reads r2 r1 c2.1 ((fit_all 60).1 _ hc.1).1 (room_in hu hc.1) ?_
      rw [any_pd]
      exact ⟨.bl _, H, I, rfl, k _ H (Ext.refl _) (by simp [RepR, RepP]) trivial⟩
    · cases hf
  · split at hf
    · rename_i hc
      simp only [Bool.and_eq_true] at hc
      cases hf
      obtain ⟨as, r1⟩ := Dp.reads I _ x v hp.dp rx
      obtain ⟨bs, r2⟩ := Dp.reads I _ y u hq.dp ry
      have c2 := (fit_all 60).1 _ hc.2
      simp only [toPD, PyData.canLay0] at r2 c2
      refine SeqAt.in_tuple_reads r2 r1 c2.1 ((fit_all 60).1 _ hc.1).1 (room_in hu hc.1) ?_
      rw [any_pd]
      exact ⟨.bl _, H, I, rfl, k _ H (Ext.refl _) (by simp [RepR, RepP]) trivial⟩
    · cases hf
  · cases hf
theorem op_notInX (hu : X.A.units + 65 < cLine) : OpR X (compareOp .NotIn) (rOf X.K pNotIn) := fun pins s σ H x y v u Q I rx ry h => by
  obtain ⟨m, G, S, p, q, r, hS, hp, hq, hf, k⟩ := h
  unfold pNotIn at hf
  split at hf
  · cases hf
    simp only [RdT, RepP] at hp hq
    subst hp hq
    exact op_notIn_sign pins s σ H _ _ v u Q I rx ry ⟨_, _, rfl, rfl, k _ H (Ext.refl _) (by simp [RepR, RepP]) trivial⟩
  · split at hf
    · rename_i hc
      simp only [Bool.and_eq_true] at hc
      cases hf
      obtain ⟨as, r1⟩ := Dp.reads I _ x v hp.dp rx
      obtain ⟨bs, r2⟩ := Dp.reads I _ y u hq.dp ry
      have c2 := (fit_all 60).1 _ hc.2
      simp only [toPD, PyData.canLay0] at r2 c2
      refine SeqAt.notIn_list_reads r2 r1 c2.1 ((fit_all 60).1 _ hc.1).1 (room_in hu hc.1) ?_
      rw [any_pd]
      exact ⟨.bl _, H, I, rfl, k _ H (Ext.refl _) (by simp [RepR, RepP]) trivial⟩
    · cases hf
  · split at hf
    · rename_i hc
      simp only [Bool.and_eq_true] at hc
      cases hf
      obtain ⟨as, r1⟩ := Dp.reads I _ x v hp.dp rx
      obtain ⟨bs, r2⟩ := Dp.reads I _ y u hq.dp ry
      have c2 := (fit_all 60).1 _ hc.2
      simp only [toPD, PyData.canLay0] at r2 c2
      refine SeqAt.notIn_tuple_reads r2 r1 c2.1 ((fit_all 60).1 _ hc.1).1 (room_in hu hc.1) ?_
      rw [any_pd]
      exact ⟨.bl _, H, I, rfl, k _ H (Ext.refl _) (by simp [RepR, RepP]) trivial⟩
    · cases hf
  · cases hf
theorem ixP_ixN (n : Nat) (i : Int) : ixP n i = ixN n i := by
  unfold ixP ixN
  by_cases h : 0 ≤ i
  · rw [if_pos h, if_pos h]
    by_cases c : i.toNat < n
    · first | rfl | (rw [if_pos c]; split <;> first | rfl | omega) | (simp [c]; omega)
    · first | rfl | (rw [if_neg c]; split <;> first | rfl | omega) | (simp [c]; omega)
  · rw [if_neg h, if_neg h]
    by_cases c : (-i).toNat ≤ n
    · first | rfl | (rw [if_pos c]; split <;> first | rfl | (congr 1; omega) | omega) | (simp [c]; omega)
    · first | rfl | (rw [if_neg c]; split <;> first | rfl | omega) | (simp [c]; omega)
theorem ix_X : IxR X (rOf X.K pIx) := fun value slice pins s σ H x y v u Q I rx ry h hs => by
  obtain ⟨m, G, S, p, q, r, hS, hp, hq, hf, k⟩ := h
  refine ix_seq value slice pins s σ H x y v u Q I rx ry ?_ hs
  unfold pIx at hf
  split at hf
  · simp only [Option.bind_eq_some_iff, Option.map_eq_some_iff] at hf
    obtain ⟨j, hj, d, hd, e⟩ := hf
    cases e
    obtain ⟨a, vs, rfl, f, r⟩ := hp
    simp only [RdT, RepP] at hq
    subst hq
    obtain ⟨w, hw, qw⟩ := r.get hd
    refine .inl ⟨a, vs, _, w, rfl, rfl, .inl f, ?_, k w H (Ext.refl _) qw trivial⟩
    unfold atI
    rw [← ixP_ixN, ← r.length, hj]
    exact hw
  · simp only [Option.bind_eq_some_iff, Option.map_eq_some_iff] at hf
    obtain ⟨j, hj, d, hd, e⟩ := hf
    cases e
    simp only [RdT, RepP] at hp hq
    subst hq
    obtain ⟨a, vs, rfl, f, r⟩ := hp
    obtain ⟨w, hw, qw⟩ := r.get hd
    refine .inr (.inl ⟨a, vs, _, w, rfl, rfl, f.sq, ?_, k w H (Ext.refl _) qw trivial⟩)
    unfold atI
    rw [← ixP_ixN, ← r.length, hj]
    exact hw
  · split at hf
    · rename_i hb
      simp only [Option.bind_eq_some_iff, Option.map_eq_some_iff] at hf
      obtain ⟨j, hj, d, hd, e⟩ := hf
      cases e
      simp only [RdT, RepP] at hp hq
      subst hp hq
      refine .inr (.inr ⟨_, _, d, rfl, rfl, ?_, ?_, k _ H (Ext.refl _) (by simp [RepR, RepP]) trivial⟩)
      · simp only [Str.length, List.size_toArray]; exact big_size hb
      · unfold atI
        rw [← ixP_ixN]
        simp only [hj]
        exact hd
    · cases hf
  · cases hf
theorem xe_ix {a b : Expr} {xa xb : XE} {pos : Pos} (ha : PE X a (tOf X.K xa)) (hb : PE X b (tOf X.K xb)) (hs : PlainIx b) : PE X (.Subscript a b pos) (tOf X.K (xBin pIx xa xb)) := PE.imp (pe_ix ix_X ha hb hs) fun σ H Q h => tOf.bin h
end
/-! ### built-ins -/
section
variable {X : Cx} {e : Expr} {es : List Expr} {xs : XA} {x : Str} {p pos : Pos} {id T : String} {f : List P → Option R}
theorem xe_callB (hc : CallR X (.builtin id) (cOf X.K f)) (hg : Gl X x) (hm : X.mg x = none) (hv : bootBuiltins x = some (.builtin id)) (ha : PA X (e :: es) (tOfA X.K xs)) (hn : x ≠ "__name__" := by decide) (hdb : (x == ("__debug__" : Str)) = false := by decide)
    (he : starEach (e :: es) X.env = (false, eval e X.env) :: starEach es X.env := by rfl) (hpl : (backTo pos (starEach es X.env)).any (·.1) = false := by rfl) : PE X (.Call (.Name x p) (e :: es) [] pos) (tOf X.K (xCall f xs)) :=
  PE.imp (pe_callB hc hg hm hv ha hn hdb he hpl) fun σ H Q h => tOf.call h
theorem xe_callTy (hc : CallR X (.type T) (cOf X.K f)) (hg : Gl X x) (hm : X.mg x = none) (hv : bootBuiltins x = some (.type T)) (ha : PA X (e :: es) (tOfA X.K xs)) (hn : x ≠ "__name__" := by decide) (hdb : (x == ("__debug__" : Str)) = false := by decide)
    (he : starEach (e :: es) X.env = (false, eval e X.env) :: starEach es X.env := by rfl) (hpl : (backTo pos (starEach es X.env)).any (·.1) = false := by rfl) : PE X (.Call (.Name x p) (e :: es) [] pos) (tOf X.K (xCall f xs)) :=
  PE.imp (pe_callTy hc hg hm hv ha hn hdb he hpl) fun σ H Q h => tOf.call h
theorem callr_imp {g : Value} {r : List V → Hp → VK → Prop} (h : CallR X g r) (w : ∀ vs H Q, cOf X.K f vs H Q → r vs H Q) : CallR X g (cOf X.K f) := fun pins s σ H vs us Q I rv q => h pins s σ H vs us Q I rv (w vs H Q q)
theorem one_arg {K : PySem.W.Frag} {m : List Addr} {H : Hp} {d : P} {vs : List V} (h : RdTs K m H [d] vs) : ∃ v, vs = [v] ∧ RdT K m H d v := by
  obtain ⟨v, r, rfl, q, e⟩ := h
  simp only [RdTs] at e
  subst e
  exact ⟨v, rfl, q⟩
theorem two_args {K : PySem.W.Frag} {m : List Addr} {H : Hp} {d d2 : P} {vs : List V} (h : RdTs K m H [d, d2] vs) : ∃ v w, vs = [v, w] ∧ RdT K m H d v ∧ RdT K m H d2 w := by
  obtain ⟨v, r, rfl, q, w, r2, rfl, q2, e⟩ := h
  simp only [RdTs] at e
  subst e
  exact ⟨v, w, rfl, q, q2⟩
theorem cr_len : CallR X (.builtin "len") (cOf X.K cLen) := callr_imp call_len fun vs H Q h => by
  obtain ⟨m, G, S, ps, r, hS, hp, hf, k⟩ := h
  unfold cLen at hf
  split at hf
  · cases hf
    obtain ⟨v, rfl, a, ws, rfl, f, r⟩ := one_arg hp
    refine ⟨_, _, rfl, .inl ⟨ws, .inl f, rfl⟩, ?_⟩
    rw [← r.length]
    exact k _ H (Ext.refl _) (by simp [RepR, RepP]) trivial
  · cases hf
    obtain ⟨v, rfl, q⟩ := one_arg hp
    simp only [RdT, RepP] at q
    obtain ⟨a, ws, rfl, f, r⟩ := q
    refine ⟨_, _, rfl, .inr ⟨ws, f.sq, rfl⟩, ?_⟩
    rw [← r.length]
    exact k _ H (Ext.refl _) (by simp [RepR, RepP]) trivial
  · split at hf
    · rename_i hb
      cases hf
      obtain ⟨v, rfl, q⟩ := one_arg hp
      simp only [RdT, RepP] at q
      subst q
      rename_i s
      exact ⟨_, s.length, rfl, ⟨by simp only [Str.length, List.size_toArray]; exact big_size hb, by simp only [Str.length, List.size_toArray]⟩, k _ H (Ext.refl _) (by simp [RepR, RepP]) trivial⟩
    · cases hf
  · cases hf
theorem cr_int : CallR X (.type "int") (cOf X.K cInt) := callr_imp call_int1 fun vs H Q h => by
  obtain ⟨m, G, S, ps, r, hS, hp, hf, k⟩ := h
  unfold cInt at hf
  split at hf
  · cases hf
    obtain ⟨v, rfl, q⟩ := one_arg hp
    simp only [RdT, RepP] at q
    subst q
    exact .inl ⟨_, rfl, k _ H (Ext.refl _) (by simp [RepR, RepP]) trivial⟩
  · cases hf
    obtain ⟨v, rfl, q⟩ := one_arg hp
    simp only [RdT, RepP] at q
    subst q
    exact .inr ⟨_, rfl, k _ H (Ext.refl _) (by simp [RepR, RepP]) trivial⟩
  · cases hf
theorem cr_tuple : CallR X (.type "tuple") (cOf X.K cTuple) := callr_imp call_tuple_of fun vs H Q h => by
  obtain ⟨m, G, S, ps, r, hS, hp, hf, k⟩ := h
  unfold cTuple at hf
  split at hf
  · cases hf
    obtain ⟨v, rfl, a, ws, rfl, f, r⟩ := one_arg hp
    refine ⟨a, ws, rfl, .inl ⟨.inl f, fun p hp => ?_⟩⟩
    have e := Ext.new (o := .tup ws) hp
    refine k _ _ e ?_ trivial
    simp only [RepR, RepP]
    exact ⟨p, ws, rfl, .inl ⟨.inl upd_same, hS.fresh hp⟩, RepPs.step (Step.of_ext e) _ _ r⟩
  · cases hf
    obtain ⟨v, rfl, q⟩ := one_arg hp
    simp only [RdT, RepP] at q
    obtain ⟨a, ws, rfl, f, r⟩ := q
    refine ⟨a, ws, rfl, .inr ⟨f.sq, k _ H (Ext.refl _) ?_ trivial⟩⟩
    simp only [RepR, RepP]
    exact ⟨a, ws, rfl, f, r⟩
  · cases hf
theorem cr_list : CallR X (.type "list") (cOf X.K cList) := callr_imp call_list_of fun vs H Q h => by
  obtain ⟨m, G, S, ps, r, hS, hp, hf, k⟩ := h
  unfold cList at hf
  split at hf
  · cases hf
    obtain ⟨v, rfl, a, ws, rfl, f, r⟩ := one_arg hp
    refine ⟨a, ws, rfl, .inl (.inl f), fun p hp => ?_⟩
    have e := Ext.new (o := .lst ws) hp
    exact k _ _ e ⟨p, ws, rfl, hS.fresh hp, upd_same, RepPs.step (Step.of_ext e) _ _ r⟩ (own_new hS hp r)
  · cases hf
    obtain ⟨v, rfl, q⟩ := one_arg hp
    simp only [RdT, RepP] at q
    obtain ⟨a, ws, rfl, f, r⟩ := q
    refine ⟨a, ws, rfl, .inr f.sq, fun p hp => ?_⟩
    have e := Ext.new (o := .lst ws) hp
    exact k _ _ e ⟨p, ws, rfl, hS.fresh hp, upd_same, RepPs.step (Step.of_ext e) _ _ r⟩ (own_new hS hp r)
  · cases hf
theorem bools_v {K : PySem.W.Frag} {m : List Addr} {H : Hp} : ∀ {ds : List P} {bs : List Bool} {vs : List V}, boolsOf ds = some bs → RepPs K m H ds vs → vs = bs.map V.bl
  | [], bs, vs, h, q => by simp only [boolsOf, Option.some.injEq] at h; subst h; simp only [RepPs] at q; subst q; rfl
  | .bl b :: ds, bs, vs, h, q => by
    simp only [boolsOf, Option.map_eq_some_iff] at h
    obtain ⟨cs, h, rfl⟩ := h
    simp only [RepPs, RepP] at q
    obtain ⟨v, r, rfl, rfl, q⟩ := q
    rw [bools_v h q]; rfl
  | .non :: _, _, _, h, _ => by simp [boolsOf] at h
  | .int _ :: _, _, _, h, _ => by simp [boolsOf] at h
  | .str _ :: _, _, _, h, _ => by simp [boolsOf] at h
  | .tup _ :: _, _, _, h, _ => by simp [boolsOf] at h
  | .lst _ :: _, _, _, h, _ => by simp [boolsOf] at h
theorem ints_v {K : PySem.W.Frag} {m : List Addr} {H : Hp} : ∀ {ds : List P} {bs : List Int} {vs : List V}, intsOf ds = some bs → RepPs K m H ds vs → vs = bs.map V.int
  | [], bs, vs, h, q => by simp only [intsOf, Option.some.injEq] at h; subst h; simp only [RepPs] at q; subst q; rfl
  | .int b :: ds, bs, vs, h, q => by
    simp only [intsOf, Option.map_eq_some_iff] at h
    obtain ⟨cs, h, rfl⟩ := h
    simp only [RepPs, RepP] at q
    obtain ⟨v, r, rfl, rfl, q⟩ := q
    rw [ints_v h q]; rfl
  | .non :: _, _, _, h, _ => by simp [intsOf] at h
  | .bl _ :: _, _, _, h, _ => by simp [intsOf] at h
  | .str _ :: _, _, _, h, _ => by simp [intsOf] at h
  | .tup _ :: _, _, _, h, _ => by simp [intsOf] at h
  | .lst _ :: _, _, _, h, _ => by simp [intsOf] at h
theorem strs_v {K : PySem.W.Frag} {m : List Addr} {H : Hp} : ∀ {ds : List P} {bs : List (List Nat)} {vs : List V}, strsOf ds = some bs → RepPs K m H ds vs → vs = (bs.map fun s => (⟨s.toArray⟩ : Str)).map V.str
  | [], bs, vs, h, q => by simp only [strsOf, Option.some.injEq] at h; subst h; simp only [RepPs] at q; subst q; rfl
  | .str b :: ds, bs, vs, h, q => by
    simp only [strsOf, Option.map_eq_some_iff] at h
    obtain ⟨cs, h, rfl⟩ := h
    simp only [RepPs, RepP] at q
    obtain ⟨v, r, rfl, rfl, q⟩ := q
    rw [strs_v h q]; rfl
  | .non :: _, _, _, h, _ => by simp [strsOf] at h
  | .bl _ :: _, _, _, h, _ => by simp [strsOf] at h
  | .int _ :: _, _, _, h, _ => by simp [strsOf] at h
  | .tup _ :: _, _, _, h, _ => by simp [strsOf] at h
  | .lst _ :: _, _, _, h, _ => by simp [strsOf] at h
theorem cr_allX (hc : X.calm = true) : CallR X (.builtin "all") (cOf X.K cAll) := callr_imp (cr_all hc) fun vs H Q h => by
  obtain ⟨m, G, S, ps, r, hS, hp, hf, k⟩ := h
  unfold cAll at hf
  split at hf
  · simp only [Option.map_eq_some_iff] at hf
    obtain ⟨bs, hb, e⟩ := hf
    cases e
    obtain ⟨v, rfl, a, ws, rfl, f, r⟩ := one_arg hp
    have e := bools_v hb r
    subst e
    exact ⟨a, bs, rfl, .inl f, k _ H (Ext.refl _) (by simp [RepR, RepP]) trivial⟩
  · cases hf
theorem cr_anyX (hc : X.calm = true) : CallR X (.builtin "any") (cOf X.K cAny) := callr_imp (cr_any hc) fun vs H Q h => by
  obtain ⟨m, G, S, ps, r, hS, hp, hf, k⟩ := h
  unfold cAny at hf
  split at hf
  · simp only [Option.map_eq_some_iff] at hf
    obtain ⟨bs, hb, e⟩ := hf
    cases e
    obtain ⟨v, rfl, a, ws, rfl, f, r⟩ := one_arg hp
    have e := bools_v hb r
    subst e
    exact ⟨a, bs, rfl, .inl f, k _ H (Ext.refl _) (by simp [RepR, RepP]) trivial⟩
  · cases hf
theorem cr_sumX (hc : X.calm = true) : CallR X (.builtin "sum") (cOf X.K cSum) := callr_imp (cr_sum hc) fun vs H Q h => by
  obtain ⟨m, G, S, ps, r, hS, hp, hf, k⟩ := h
  unfold cSum at hf
  split at hf
  · simp only [Option.map_eq_some_iff] at hf
    obtain ⟨bs, hb, e⟩ := hf
    cases e
    obtain ⟨v, rfl, a, ws, rfl, f, r⟩ := one_arg hp
    have e := ints_v hb r
    subst e
    exact ⟨a, bs, rfl, .inl f, k _ H (Ext.refl _) (by simp [RepR, RepP]) trivial⟩
  · cases hf
theorem maxI_spec : ∀ (l : List Int), l ≠ [] → maxI l ∈ l ∧ ∀ y ∈ l, y ≤ maxI l
  | [], h => absurd rfl h
  | [x], _ => by simp [maxI]
  | x :: y :: ys, _ => by
    obtain ⟨h1, h2⟩ := maxI_spec (y :: ys) (by simp)
    simp only [maxI] at h1 h2 ⊢
    split
    · rename_i c
      exact ⟨List.mem_cons_of_mem _ h1, fun z hz => by
        rcases List.mem_cons.mp hz with rfl | hz
        · omega
        · exact h2 z hz⟩
    · rename_i c
      exact ⟨by simp, fun z hz => by
        rcases List.mem_cons.mp hz with rfl | hz
        · omega
        · have := h2 z hz; omega⟩
theorem minI_spec : ∀ (l : List Int), l ≠ [] → minI l ∈ l ∧ ∀ y ∈ l, minI l ≤ y
  | [], h => absurd rfl h
  | [x], _ => by simp [minI]
  | x :: y :: ys, _ => by
    obtain ⟨h1, h2⟩ := minI_spec (y :: ys) (by simp)
    simp only [minI] at h1 h2 ⊢
    split
    · rename_i c
      exact ⟨List.mem_cons_of_mem _ h1, fun z hz => by
        rcases List.mem_cons.mp hz with rfl | hz
        · omega
        · exact h2 z hz⟩
    · rename_i c
      exact ⟨by simp, fun z hz => by
        rcases List.mem_cons.mp hz with rfl | hz
        · omega
        · have := h2 z hz; omega⟩
theorem cr_maxX (hc : X.calm = true) : CallR X (.builtin "max") (cOf X.K cMax) := callr_imp (CallR.or (cr_max hc) (call_max2 hc)) fun vs H Q h => by
  obtain ⟨m, G, S, ps, r, hS, hp, hf, k⟩ := h
  unfold cMax at hf
  split at hf
  · simp only [Option.bind_eq_some_iff] at hf
    obtain ⟨bs, hb, e⟩ := hf
    split at e
    · cases e
    · rename_i hne
      cases e
      obtain ⟨v, rfl, a, ws, rfl, f, r⟩ := one_arg hp
      have e := ints_v hb r
      subst e
      obtain ⟨s1, s2⟩ := maxI_spec bs hne
      refine .inl ⟨a, bs, rfl, .inl f, List.length_pos_iff.mpr hne, fun z hz hy => ?_⟩
      have : z = maxI bs := Int.le_antisymm (s2 z hz) (hy _ s1)
      subst this
      exact k _ H (Ext.refl _) (by simp [RepR, RepP]) trivial
  · cases hf
    obtain ⟨v, w, rfl, q1, q2⟩ := two_args hp
    simp only [RdT, RepP] at q1 q2
    subst q1 q2
    exact .inr ⟨_, _, rfl, k _ H (Ext.refl _) (by simp [RepR, RepP]) trivial⟩
  · cases hf
theorem cr_minX (hc : X.calm = true) : CallR X (.builtin "min") (cOf X.K cMin) := callr_imp (CallR.or (cr_min hc) (call_min2 hc)) fun vs H Q h => by
  obtain ⟨m, G, S, ps, r, hS, hp, hf, k⟩ := h
  unfold cMin at hf
  split at hf
  · simp only [Option.bind_eq_some_iff] at hf
    obtain ⟨bs, hb, e⟩ := hf
    split at e
    · cases e
    · rename_i hne
      cases e
      obtain ⟨v, rfl, a, ws, rfl, f, r⟩ := one_arg hp
      have e := ints_v hb r
      subst e
      obtain ⟨s1, s2⟩ := minI_spec bs hne
      refine .inl ⟨a, bs, rfl, .inl f, List.length_pos_iff.mpr hne, fun z hz hy => ?_⟩
      have : z = minI bs := Int.le_antisymm (hy _ s1) (s2 z hz)
      subst this
      exact k _ H (Ext.refl _) (by simp [RepR, RepP]) trivial
  · cases hf
    obtain ⟨v, w, rfl, q1, q2⟩ := two_args hp
    simp only [RdT, RepP] at q1 q2
    subst q1 q2
    exact .inr ⟨_, _, rfl, k _ H (Ext.refl _) (by simp [RepR, RepP]) trivial⟩
  · cases hf
end
end XL
end
section
set_option Elab.async false
set_option linter.all false
set_option maxRecDepth 100000
set_option maxHeartbeats 3200000
namespace XL
open PySem L2 PyProof.Rows
/-! ### sets of ints and texts, made of a list -/
def keyV : Value → Option Key
  | .int k _ => some (.inl k)
  | .str x _ => some (.inr x)
  | _ => none
theorem keyV_is {k : Key} {v : Value} : keyV v = some k ↔ keyIs k v = true := by
  constructor
  · intro h
    cases v <;> simp [keyV] at h <;> subst h <;> simp [keyIs, Value.isInt, Value.isStrOf]
  · intro h
    rcases keyIs_shape h with ⟨i, t, rfl, rfl⟩ | ⟨x, t, rfl, rfl⟩ <;> rfl
theorem keyV_scan {k : Key} {v : Value} (h : keyV v = some k) : v.scannable = true := by
  cases v <;> simp [keyV] at h <;> rfl
/-- the entry of a key -/
def EntK (w : World) (e : Int × Value) (k : Key) : Prop := keyV e.2 = some k ∧ e.1 = keyH w k
/-- a set at a whose keys are ks, in some order -/
def SetM (w : World) (h : Heap) (a : Addr) (ks : List Key) : Prop :=
  ∃ o es ep t kk, h.get? a = some o ∧ o.ExactSet ∧ o.data = .set es ep t ∧ Paired (EntK w) es.toList kk ∧ kk.Perm ks ∧ ks.Nodup ∧ es.size < scanBound ∧ t.fits es.size = true ∧ Ris t.place.toList ∧ (w.params.followText "set-order" = true ∨ t.led = true)
section
variable {Pg : Program} {w : World}
theorem paired_mem {α β : Type} {F : α → β → Prop} : ∀ {l : List α} {k : List β} {x : α}, Paired F l k → x ∈ l → ∃ y ∈ k, F x y
  | _, _, _, .cons r t, h => by
    rcases List.mem_cons.mp h with rfl | h
    · exact ⟨_, List.mem_cons_self, r⟩
    · obtain ⟨y, hy, q⟩ := paired_mem t h
      exact ⟨y, List.mem_cons_of_mem _ hy, q⟩
theorem paired_mem2 {α β : Type} {F : α → β → Prop} : ∀ {l : List α} {k : List β} {y : β}, Paired F l k → y ∈ k → ∃ x ∈ l, F x y
  | _, _, _, .cons r t, h => by
    rcases List.mem_cons.mp h with rfl | h
    · exact ⟨_, List.mem_cons_self, r⟩
    · obtain ⟨y, hy, q⟩ := paired_mem2 t h
      exact ⟨y, List.mem_cons_of_mem _ hy, q⟩
theorem paired_len {α β : Type} {F : α → β → Prop} : ∀ {l : List α} {k : List β}, Paired F l k → l.length = k.length
  | _, _, .nil => rfl
  | _, _, .cons _ t => by simp [paired_len t]
theorem paired_perm {α β : Type} {F : α → β → Prop} {l l' : List α} (p : l'.Perm l) : ∀ {k : List β}, Paired F l k → ∃ k', Paired F l' k' ∧ k'.Perm k := by
  induction p with
  | nil => intro k h; exact ⟨k, h, List.Perm.refl _⟩
  | cons x _ ih =>
    intro k h
    cases h with
    | cons r t => obtain ⟨k', h1, h2⟩ := ih t; exact ⟨_, .cons r h1, h2.cons _⟩
  | swap x y l =>
    intro k h
    cases h with
    | cons r t => cases t with | cons r2 t => exact ⟨_, .cons r2 (.cons r t), List.Perm.swap _ _ _⟩
  | trans _ _ ih1 ih2 =>
    intro k h
    obtain ⟨k2, h2, p2⟩ := ih2 h
    obtain ⟨k1, h1, p1⟩ := ih1 h2
    exact ⟨k1, h1, p1.trans p2⟩
theorem entK_elems {l : List (Int × Value)} {kk : List Key} (h : Paired (EntK w) l kk) : ElemsOf (mixKind Pg w) l := fun e he => by
  obtain ⟨k, _, h1, h2⟩ := paired_mem h he
  exact ⟨⟨k, keyV_is.mp h1, h2⟩, keyV_scan h1⟩
end
section
variable {Pg : Program} {w : World} {A : Around} {E : Value → Shared → Prop} {s : Shared} {a : Addr}
/-- what is stored, and laid anew if it is too full -/
theorem setM_tail {g : Bool → Sem Unit} (hg : ∀ (b : Bool) (s₁ : Shared) (Q' : Unit → Shared → Prop), Q' () s₁ → wpAny (model Pg w) A (g b) Q' E s₁) {o : Obj} {es es1 : Array (Int × Value)} {ep : Nat} {t t2 : SetTable} {kk ks : List Key}
    (ho : s.heap.get? a = some o) (hex : o.ExactSet) (hd : o.data = .set es ep t) (hp : Paired (EntK w) es1.toList kk) (pm : kk.Perm ks) (nd : ks.Nodup) (hb : es1.size < scanBound) (hf : t2.fits es1.size = true) (hr : Ris t2.place.toList)
    (hl : w.params.followText "set-order" = true ∨ t2.led = true) {dm : Bool} {R : Option Bool → Shared → Prop} (hR : ∀ h', Heap.SameBut a s.heap h' → SetM w h' a ks → R (some true) { s with heap := h' }) :
    wpAny (model Pg w) A (do
        storeSet a es1 t2
        if (!dm && t2.tooFull) = true then do
            g (relayAll t2 es1 (SetTable.grown es1.size)).2.2
            storeSet a (relayAll t2 es1 (SetTable.grown es1.size)).1 (relayAll t2 es1 (SetTable.grown es1.size)).2.1
            pure (some true)
          else pure (some true)) R E s := by
  refine wpAny_bind (wpAny_storeSet_of ho hd ?_ (fits_of_scanBound hb))
  have o1 := store_at (es' := es1) (t' := t2) ho hd
  have b1 := Heap.SameBut.update s.heap a (Obj.putSet es1 t2)
  split
  · have q1 := relayAll_perm t2 es1 (SetTable.grown es1.size)
    have q2 := relayAll_fits t2 es1 (SetTable.grown es1.size)
    have q3 := relayAll_ris t2 es1 (SetTable.grown es1.size)
    have q4 := relayAll_led t2 es1 (SetTable.grown es1.size)
    revert q1 q2 q3 q4
    generalize relayAll t2 es1 (SetTable.grown es1.size) = Z
    obtain ⟨es2, t3, gv⟩ := Z
    intro q1 q2 q3 q4
    dsimp only at q1 q2 q3 q4 ⊢
    have sz : es2.size = es1.size := by simpa using q1.length_eq
    refine wpAny_bind (hg _ _ _ (wpAny_bind (wpAny_storeSet_of o1 rfl ?_ (fits_of_scanBound (by rw [sz]; exact hb)))))
    obtain ⟨k2, hk2, p2⟩ := paired_perm q1 hp
    exact wpAny_pure (hR _ (b1.trans (Heap.SameBut.update _ a _)) ⟨_, es2, _, t3, k2, store_at o1 rfl, hex, rfl, hk2, p2.trans pm, nd, by rw [sz]; exact hb, q2, q3, hl.imp id fun z => q4.trans z⟩)
  · exact wpAny_pure (hR _ b1 ⟨_, es1, _, t2, kk, o1, hex, rfl, hp, pm, nd, hb, hf, hr, hl⟩)
/-- one more key -/
theorem setM_add {k : Key} {v : Value} {ks : List Key} {Q : Bool → Shared → Prop} (hv : keyV v = some k) (R : SetM w s.heap a ks) (room : ks.length + 1 < scanBound)
    (h1 : k ∈ ks → Q false s) (h2 : k ∉ ks → ∀ h', Heap.SameBut a s.heap h' → SetM w h' a (k :: ks) → Q true { s with heap := h' }) : wpAny (model Pg w) A (setAddHashed a v (keyH w k)) Q E s := by
  obtain ⟨o, es, ep, t, kk, ho, hex, hd, hp, pm, nd, hb, hf, hr, hl⟩ := R
  have hkey : (mixKind Pg w).is k v = true := keyV_is.mp hv
  have hsc := keyV_scan hv
  have hel : ElemsOf (mixKind Pg w) es.toList := entK_elems hp
  unfold setAddHashed setAddHashedIn
  refine wpAny_holding (wpAny_bind (wpAny_setState_of ho hd hf ?_))
  dsimp only
  rw [byScan_of hsc hb hel]
  simp only [↓reduceIte]
  unfold setAddByScan
  refine wpAny_bind (wpAny_bind (wpAny_rule (wpAny_bind (wpAny_setScan_of hkey ho hd hf hel ?_))))
  have mem : k ∈ ks ↔ ∃ e ∈ es.toList, (mixKind Pg w).is k e.2 = true := by
    rw [← pm.mem_iff]
    constructor
    · intro z
      obtain ⟨e, he, q⟩ := paired_mem2 hp z
      exact ⟨e, he, keyV_is.mp q.1⟩
    · rintro ⟨e, he, q⟩
      obtain ⟨k', hk', q'⟩ := paired_mem hp he
      have := (keyV_is.mpr q).symm.trans q'.1
      cases this
      exact hk'
  cases hfi : List.findIdx? (fun e => (mixKind Pg w).is k e.2) es.toList with
  | some j =>
    dsimp only
    obtain ⟨hj, pj, _⟩ := List.findIdx?_eq_some_iff_getElem.mp hfi
    exact wpAny_pure (wpAny_pure (h1 (mem.mpr ⟨_, List.getElem_mem hj, pj⟩)))
  | none =>
    dsimp only
    have hn : k ∉ ks := fun z => by
      obtain ⟨e, he, q⟩ := mem.mp z
      have c := List.findIdx?_eq_none_iff.mp hfi e he
      rw [q] at c; cases c
    have hgw : ∀ (b : Bool) {s₁ : Shared} {Q' : Unit → Shared → Prop}, Q' () s₁ → wpAny (model Pg w) A (match b with | true => rule "set.scan.the-table-gave-way" | false => pure ()) Q' E s₁ := fun b s₁ Q' q => by
      cases b
      · exact wpAny_pure q
      · exact wpAny_rule q
    have q1 := layNew_perm t es (keyH w k) v
    have q2 := layNew_fits t es (keyH w k) v
    have q3 := layNew_ris t es (keyH w k) v hr
    have q4 := layNew_led t es (keyH w k) v
    show wpAny _ _ _ _ _ _
    have eh : (mixKind Pg w).hash k = keyH w k := rfl
    revert q1 q2 q3 q4
    generalize layNew t es (keyH w k) v = Z
    obtain ⟨es1, t1, dm, gv⟩ := Z
    intro q1 q2 q3 q4
    dsimp only at q1 q2 q3 q4 ⊢
    rw [Array.toList_push] at q1
    have pc : es1.toList.Perm ((keyH w k, v) :: es.toList) := q1.trans (List.perm_append_singleton _ _)
    obtain ⟨k1, hk1, p1⟩ := paired_perm pc (.cons ⟨hv, rfl⟩ hp)
    have pm1 : k1.Perm (k :: ks) := p1.trans (pm.cons k)
    have nd1 : (k :: ks).Nodup := List.nodup_cons.mpr ⟨hn, nd⟩
    have sz : es1.size = ks.length + 1 := by
      have e1 := pc.length_eq
      have e2 := paired_len hp
      have e3 := pm.length_eq
      simp only [Array.length_toList, List.length_cons] at e1 e2
      omega
    have hb1 : es1.size < scanBound := by rw [sz]; exact room
    have hl1 : w.params.followText "set-order" = true ∨ t1.led = true := hl.imp id fun z => q4.trans z
    have fin := h2 hn
    refine wpAny_bind (hgw _ ?_)
    split
    · refine wpAny_bind ?_
      rw [hashByValue_scannable 8 hsc]
      refine wpAny_pure (setM_tail (fun b s₁ Q' q => ?_) ho hex hd hk1 pm1 nd1 hb1 ?_ ?_ ?_ fun h' sb r => ?_)
      · cases b
        · exact wpAny_pure q
        · exact wpAny_rule q
      · first | exact q2 | (split <;> first | exact q2 | exact SetTable.fits_plain_off q2)
      · first | exact q3 | (split <;> exact q3)
      · first | exact hl1 | (split <;> exact hl1)
      · exact wpAny_pure (fin h' sb r)
    · refine wpAny_bind (wpAny_pure ?_)
      simp only [↓reduceIte]
      refine setM_tail (fun b s₁ Q' q => ?_) ho hex hd hk1 pm1 nd1 hb1 q2 q3 hl1 fun h' sb r => ?_
      · cases b
        · exact wpAny_pure q
        · exact wpAny_rule q
      · exact wpAny_pure (fin h' sb r)
end
end XL
namespace XL
open PySem L2 PyProof.Rows
open Classical in
noncomputable def addK (ks : List Key) (k : Key) : List Key := if k ∈ ks then ks else k :: ks
noncomputable def addAll (l : List Key) : List Key := l.foldl addK []
theorem addK_len (ks : List Key) (k : Key) : (addK ks k).length ≤ ks.length + 1 := by
  unfold addK; split <;> simp
theorem addAll_snoc (l : List Key) (k : Key) : addAll (l ++ [k]) = addK (addAll l) k := by simp [addAll]
theorem foldl_addK_len : ∀ (l ks : List Key), (l.foldl addK ks).length ≤ ks.length + l.length
  | [], ks => by simp
  | k :: l, ks => by
    have h1 := foldl_addK_len l (addK ks k)
    have h2 := addK_len ks k
    simp only [List.foldl_cons, List.length_cons]
    omega
theorem addAll_len (l : List Key) : (addAll l).length ≤ l.length := by simpa [addAll] using foldl_addK_len l []
theorem foldl_addK_mem : ∀ (l ks : List Key) (k : Key), k ∈ l.foldl addK ks ↔ k ∈ ks ∨ k ∈ l
  | [], ks, k => by simp
  | x :: l, ks, k => by
    simp only [List.foldl_cons, foldl_addK_mem l (addK ks x) k, List.mem_cons]
    unfold addK
    split
    · rename_i h
      constructor
      · rintro (z | z)
        · exact .inl z
        · exact .inr (.inr z)
      · rintro (z | z | z)
        · exact .inl z
        · subst z; exact .inl h
        · exact .inr z
    · simp only [List.mem_cons]
      constructor
      · rintro ((z | z) | z)
        · exact .inr (.inl z)
        · exact .inl z
        · exact .inr (.inr z)
      · rintro (z | z | z)
        · exact .inl (.inr z)
        · exact .inl (.inl z)
        · exact .inr z
theorem addAll_mem (l : List Key) (k : Key) : k ∈ addAll l ↔ k ∈ l := by simp [addAll, foldl_addK_mem]
section
variable {Pg : Program} {w : World} {A : Around} {E : Value → Shared → Prop} {s : Shared}
theorem SetM.at {h h' : Heap} {a : Addr} {ks : List Key} (R : SetM w h a ks) (k : ∀ o, h.get? a = some o → h'.get? a = some o) : SetM w h' a ks := by
  obtain ⟨o, es, ep, t, kk, ho, r⟩ := R
  exact ⟨o, es, ep, t, kk, k o ho, r⟩
theorem setM_fresh {h : Heap} {a : Addr} (ho : h.get? a = some { cls := .type "set", dict := none, data := .set #[] 0 (.fresh 0 0 (!w.params.followText "set-order")) }) : SetM w h a [] := by
  refine ⟨_, #[], 0, _, [], ho, ⟨rfl, rfl, rfl⟩, rfl, .nil, List.Perm.refl _, List.nodup_nil, by decide, by rfl, List.Pairwise.nil, ?_⟩
  cases q : w.params.followText "set-order"
  · exact .inr rfl
  · exact .inl rfl
theorem setM_loop {I : Addr} {fp wr : List Addr} {Gr : Array GenState → Array GenState → Prop} {n : Nat} {Pv : Nat → Value → Prop} {St : Nat → Shared → Prop} {R : Result → Shared → Prop}
    (W : WalksS Pg w A.in1 I fp wr Gr n Pv St) (Z : Addr) (hZ : Z ∉ fp) (kz : List Key) (hn : n = kz.length) (hb : kz.length + 1 < scanBound) (hval : ∀ i v, Pv i v → ∃ k, kz[i]? = some k ∧ keyV v = some k) :
    ∀ (j i : Nat) (s : Shared), n - i = j → i ≤ n → St i s → SetM w s.heap Z (addAll (kz.take i)) →
      (∀ s', Moved (Z :: wr) Gr s s' → SetM w s'.heap Z (addAll kz) → R (.ok (.ret .none)) s') → codeAny (model Pg w) A (.builtin "set.update.loop" ⟨[.ref Z, .ref I], []⟩) R s := by
  have nz : Z ∉ wr := fun h => hZ (W.sub _ h)
  have up : ∀ b ∈ wr, b ∈ Z :: wr := fun b hb => List.mem_cons_of_mem _ hb
  intro j
  induction j with
  | zero =>
    intro i s hj hi st hS hR
    obtain rfl : i = n := by omega
    refine codeAny_builtin F.entry_set_update_loop ?_
    rw [Around.under_plainId F.plain_set_update_loop _]
    refine wpAny_bind (W.done s _ _ st fun s' hm => ?_)
    rw [List.take_of_length_le (by omega)] at hS
    exact wpAny_pure (hR s' (hm.mono up) (hS.at fun o e => hm.heap Z o nz e))
  | succ j ih =>
    intro i s hj hi st hS hR
    have lt : i < n := by omega
    refine codeAny_builtin F.entry_set_update_loop ?_
    rw [Around.under_plainId F.plain_set_update_loop _]
    refine wpAny_bind (W.item i s _ _ lt st fun v s' hP st' hm => ?_)
    obtain ⟨k, hk, hv⟩ := hval i v hP
    have hS' : SetM w s'.heap Z (addAll (kz.take i)) := hS.at fun o e => hm.heap Z o nz e
    have tk : kz.take (i + 1) = kz.take i ++ [k] := by rw [List.take_add_one, hk]; rfl
    have len : (addAll (kz.take i)).length + 1 < scanBound := by
      have h1 := addAll_len (kz.take i)
      have h2 : (kz.take i).length ≤ i := by simp; omega
      omega
    refine wpAny_bind (wpAny_holding ?_)
    unfold setAdd
    refine wpAny_holding (wpAny_bind ((mixKind Pg w).pyHash (keyV_is.mp hv) ?_))
    have fin : ∀ h', Heap.SameBut Z s'.heap h' → SetM w h' Z (addAll (kz.take (i + 1))) → codeAny (model Pg w) A (.builtin "set.update.loop" ⟨[.ref Z, .ref I], []⟩) R { s' with heap := h', toks := s'.toks + 1 } := fun h' sb r => by
      refine ih (i + 1) _ (by omega) lt (W.frame _ s' _ _ st' (Nat.le_succ _) fun b hb o e => ?_) r fun s'' hm'' hS'' => ?_
      · rw [sb.2 b (fun h : b = Z => hZ (by rw [← h]; exact hb))]; exact e
      · refine hR s'' (Moved.trans W.gtrans ((hm.mono up).then_heap (Nat.le_succ _) fun b o hb e => ?_) hm'') hS''
        rw [sb.2 b (fun h : b = Z => hb (by rw [h]; exact List.mem_cons_self))]; exact e
    refine setM_add (s := { s' with toks := s'.toks + 1 }) hv hS' len (fun hin => ?_) fun hout h' sb r => ?_
    · refine wpAny_pure ⟨plainId_quiet F.plain_set_update_loop _, fin s'.heap (Heap.SameBut.refl Z _) ?_⟩
      rw [tk, addAll_snoc]
      unfold addK
      rw [if_pos hin]
      exact hS'
    · refine wpAny_pure ⟨plainId_quiet F.plain_set_update_loop _, fin h' sb ?_⟩
      rw [tk, addAll_snoc]
      unfold addK
      rw [if_neg hout]
      exact r
end
end XL
end
section
set_option Elab.async false
set_option linter.all false
set_option maxRecDepth 100000
set_option maxHeartbeats 3200000
namespace XL
open PySem L2 PyProof.Rows
abbrev emptySet (w : World) : Obj := { cls := .type "set", dict := none, data := .set #[] 0 (.fresh 0 0 (!w.params.followText "set-order")) }
section
variable {Pg : Program} {w : World} {A : Around} {E : Value → Shared → Prop} {s : Shared}
theorem setM_call {l : Addr} {items : Array Value} (kz : List Key) {Q : Value → Shared → Prop} (hh : A.handled = none) (hl : s.heap.IsList l items) (hit : items.toList.map keyV = kz.map some) (hb : kz.length + 1 < scanBound)
    (h : ∀ (h' : Heap) (tk : Nat), SetM w h' s.heap.objs.size (addAll kz) → (∀ b o, s.heap.get? b = some o → h'.get? b = some o) → Q (.ref s.heap.objs.size) { s with heap := h', toks := tk }) :
    wpAny (model Pg w) A (call (.type "set") [.ref l]) Q E s := by
  have hsz : items.size = kz.length := by simpa using congrArg List.length hit
  obtain ⟨c, tl, hmro⟩ := F.called_set.mro
  have hmade := F.called_set.made
  have hsub := F.called_set.sub
  refine wpAny_call (codeAny_of_tree ?_)
  refine wpAny_pure ⟨Code.quiet_builtin _ (by decide +kernel), codeAny_builtin F.entry_type_call ?_⟩
  rw [Around.under_plain (weight_type_call_type "set" [.ref l] []) rfl]
  have h1 := F.called_set.notType
  have h2 := F.called_set.canCreate
  have hct := F.typeCall_set_1 (.ref l)
  repeat (any_goals (first | assumption | wp_step))
  refine codeAny_mono (code_set_led1 (.ref l) (E := E) (Q₁ := fun obj s₁ => obj = .ref s.heap.objs.size ∧ s₁ = { s with heap := s.heap.push (emptySet w) }) ⟨rfl, rfl⟩) fun r s₁ hr => ?_
  cases r with
  | error e => exact hr
  | ok fl =>
    cases fl with
    | ret obj =>
      obtain ⟨rfl, rfl⟩ := hr
      have hS : (s.heap.push (emptySet w)).get? s.heap.objs.size = some (emptySet w) := Heap.get?_push_size _ rfl
      have hT : Shared.TypeIs { s with heap := s.heap.push (emptySet w) } (.ref s.heap.objs.size) "set" := ⟨_, hS, rfl⟩
      have hli := F.called_set.init.lookup
      have hbi := F.called_set.init.bind (.ref s.heap.objs.size)
      repeat (any_goals (first | assumption | wp_step))
      refine codeAny_mono (codeAny_call_builtin (R := wants (fun r s₂ => r = .none ∧ ∃ h' tk, s₂ = { s with heap := h', toks := tk } ∧ SetM w h' s.heap.objs.size (addAll kz) ∧ ∀ b o, s.heap.get? b = some o → h'.get? b = some o) E)
        F.called_set.init.plain F.entry_set_init (check_set_init_1 hT ?_)) fun r₂ s₂ hr₂ => ?_
      · obtain ⟨⟨ocls, odict, odata, oslots⟩, hol, hcl, nl, hdl⟩ := hl
        simp only at hcl hdl
        subst hcl hdl
        have hol' : (s.heap.push (emptySet w)).get? l = some { cls := .type "list", dict := odict, data := .seq items nl, slots := oslots } := Heap.get?_push_of_some _ hol
        have hsls := F.sub_list_set
        have hslf := F.sub_list_frozenset
        have hne : (Value.type "list" == Value.type "dict") = false := by decide
        have hl1 : (s.heap.push (emptySet w)).IsList l items := ⟨_, hol', rfl, nl, rfl⟩
        unfold Builtin.«set.__init__» noKeywords Builtin.Frozenset.updateFrom
        generalize hPI : pyIter = PI
        wp_walk
        subst hPI
        refine wpAny_pyIter_list hl1 (wpAny_bind (wpAny_runValue ?_))
        have hlS : l < s.heap.objs.size := Heap.lt_size hol
        have hh3 : A.in1.in1.in1.handled = none := by simp [hh]
        have hp1 : (s.heap.push (emptySet w)).objs.size = s.heap.objs.size + 1 := Heap.size_push ..
        have hneI : l ≠ (s.heap.push (emptySet w)).objs.size := by rw [hp1]; exact Nat.ne_of_lt (Nat.lt_succ_of_lt hlS)
        have hSf : s.heap.objs.size ∉ [(s.heap.push (emptySet w)).objs.size, l] := by
          rw [hp1]
          simp only [List.mem_cons, List.not_mem_nil, or_false, not_or]
          exact ⟨Nat.ne_of_lt (Nat.lt_succ_self _), Nat.ne_of_gt hlS⟩
        have hval : ∀ (i : Nat) (v : Value), items[i]? = some v → ∃ k, kz[i]? = some k ∧ keyV v = some k := fun i v hv => by
          have e1 : (items.toList.map keyV)[i]? = some (keyV v) := by rw [List.getElem?_map, Array.getElem?_toList, hv]; rfl
          rw [hit, List.getElem?_map] at e1
          cases q : kz[i]? with
          | none => rw [q] at e1; cases e1
          | some k => rw [q] at e1; exact ⟨k, rfl, (Option.some.inj e1).symm⟩
        refine setM_loop ((Walks.list hh3 _ l hneI items).toS) s.heap.objs.size hSf kz hsz hb hval (items.size - 0) 0 _ (by omega) (Nat.zero_le _) ⟨⟨_, Heap.get?_push_size _ rfl, rfl, rfl⟩, hl1.push _⟩ ?hS0 ?hR
        case hS0 => exact setM_fresh (Heap.get?_push_of_some _ hS)
        case hR =>
          intro s' hm hS'
          obtain ⟨h', g2, d', tk', os'⟩ := s'
          have eg : g2 = s.gens := hm.gens
          have ed : d' = s.drawn := hm.drawn
          have eo : os' = s.os := hm.os
          subst eg ed eo
          refine wpAny_pure (wpAny_pure ⟨rfl, h', tk', rfl, hS', fun b o e => ?_⟩)
          have hb0 : b < s.heap.objs.size := Heap.lt_size e
          refine hm.heap b o ?_ (Heap.get?_push_of_some _ (Heap.get?_push_of_some _ e))
          simp only [hp1, List.mem_cons, List.not_mem_nil, or_false, not_or]
          exact ⟨Nat.ne_of_lt hb0, Nat.ne_of_lt (Nat.lt_succ_of_lt hb0)⟩
      · cases r₂ with
        | error e => exact hr₂
        | ok fl₂ =>
          cases fl₂ with
          | ret r =>
            obtain ⟨rfl, h', tk, rfl, hS', hk'⟩ := hr₂
            repeat (any_goals (first | assumption | wp_step))
            exact h _ _ hS' hk'
          | _ => exact hr₂.elim
    | _ => exact hr.elim
end
end XL
end
section
set_option Elab.async false
set_option linter.all false
set_option maxRecDepth 100000
set_option maxHeartbeats 1000000
namespace XL
open PySem L2 PyProof.Rows PySem.W
/-! ### putting in order -/
def insG {α : Type} (lt : α → α → Bool) (x : α) : List α → List α
  | [] => [x]
  | y :: ys => if lt y x = true then y :: insG lt x ys else x :: y :: ys
def sortG {α : Type} (lt : α → α → Bool) : List α → List α
  | [] => []
  | x :: xs => insG lt x (sortG lt xs)
theorem insG_mem {α : Type} {lt : α → α → Bool} {x z : α} : ∀ {l : List α}, z ∈ insG lt x l ↔ z = x ∨ z ∈ l
  | [] => by simp [insG]
  | y :: ys => by
    unfold insG
    split
    · simp only [List.mem_cons, insG_mem (l := ys)]
      constructor
      · rintro (h | h | h)
        · exact .inr (.inl h)
        · exact .inl h
        · exact .inr (.inr h)
      · rintro (h | h | h)
        · exact .inr (.inl h)
        · exact .inl h
        · exact .inr (.inr h)
    · simp
theorem insG_pair {α : Type} {lt : α → α → Bool} (h : TotalLe fun a b => !lt b a) {x : α} : ∀ {l : List α}, l.Pairwise (fun a b => (!lt b a) = true) → (insG lt x l).Pairwise (fun a b => (!lt b a) = true)
  | [], _ => by simp [insG]
  | y :: ys, hp => by
    obtain ⟨h1, h2⟩ := List.pairwise_cons.mp hp
    unfold insG
    split
    · rename_i c
      refine List.pairwise_cons.mpr ⟨fun z hz => ?_, insG_pair h h2⟩
      rcases insG_mem.mp hz with rfl | hz
      · rcases h.total y z with q | q
        · exact q
        · rw [c] at q; cases q
      · exact h1 z hz
    · rename_i c
      have c' : (!lt y x) = true := by simpa using c
      refine List.pairwise_cons.mpr ⟨fun z hz => ?_, hp⟩
      rcases List.mem_cons.mp hz with rfl | hz
      · exact c'
      · exact h.trans x y z c' (h1 z hz)
theorem insG_filter {α : Type} {lt : α → α → Bool} (h : TotalLe fun a b => !lt b a) {x c : α} : ∀ {l : List α}, (insG lt x l).filter (sameRank (fun a b => !lt b a) c) = (x :: l).filter (sameRank (fun a b => !lt b a) c)
  | [] => by simp [insG]
  | y :: ys => by
    unfold insG
    split
    · rename_i d
      have ih := insG_filter h (x := x) (c := c) (l := ys)
      simp only [List.filter_cons] at ih ⊢
      rw [ih]
      by_cases hx : sameRank (fun a b => !lt b a) c x = true
      · by_cases hy : sameRank (fun a b => !lt b a) c y = true
        · exfalso
          unfold sameRank at hx hy
          simp only [Bool.and_eq_true] at hx hy
          have := h.trans x c y hx.2 hy.1
          simp only [d, Bool.not_true] at this
          cases this
        · simp [hx, hy]
      · simp [hx]
    · rfl
theorem sortG_merge {α : Type} {lt : α → α → Bool} (h : TotalLe fun a b => !lt b a) (l : List α) : sortG lt l = l.mergeSort (fun a b => !lt b a) := by
  refine sort_unique h ?_ fun c => ?_
  · induction l with
    | nil => exact List.Pairwise.nil
    | cons x xs ih => exact insG_pair h ih
  · induction l with
    | nil => rfl
    | cons x xs ih =>
      show (insG lt x (sortG lt xs)).filter _ = _
      rw [insG_filter h, List.filter_cons, List.filter_cons, ih]
theorem data_total {β : Type} (k : β → PyData) : TotalLe (fun a b => !dataLt (k b) (k a)) := sortLe_total (listOrd itemOrd) false fun b => keyToks (k b)
theorem sortG_data {β : Type} (k : β → PyData) (l : List β) : l.mergeSort (dataLe false k) = sortG (fun a b => dataLt (k a) (k b)) l := (sortG_merge (lt := fun a b => dataLt (k a) (k b)) (data_total k) l).symm
theorem insG_congr {α : Type} {lt lt' : α → α → Bool} {x : α} : ∀ {l : List α}, (∀ y ∈ l, lt y x = lt' y x) → insG lt x l = insG lt' x l
  | [], _ => rfl
  | y :: ys, h => by
    unfold insG
    rw [h y List.mem_cons_self, insG_congr fun z hz => h z (List.mem_cons_of_mem _ hz)]
theorem sortG_mem {α : Type} {lt : α → α → Bool} {z : α} : ∀ {l : List α}, z ∈ sortG lt l ↔ z ∈ l
  | [] => by simp [sortG]
  | x :: xs => by simp [sortG, insG_mem, sortG_mem (l := xs)]
theorem sortG_congr {α : Type} {lt lt' : α → α → Bool} : ∀ {l : List α}, (∀ x ∈ l, ∀ y ∈ l, lt x y = lt' x y) → sortG lt l = sortG lt' l
  | [], _ => rfl
  | x :: xs, h => by
    unfold sortG
    rw [sortG_congr fun a ha b hb => h a (List.mem_cons_of_mem _ ha) b (List.mem_cons_of_mem _ hb)]
    exact insG_congr fun y hy => h y (List.mem_cons_of_mem _ (sortG_mem.mp hy)) x List.mem_cons_self
theorem insG_map {α β : Type} {lt : α → α → Bool} {lt' : β → β → Bool} (f : α → β) (h : ∀ a b, lt a b = lt' (f a) (f b)) (x : α) : ∀ l : List α, (insG lt x l).map f = insG lt' (f x) (l.map f)
  | [] => rfl
  | y :: ys => by
    unfold insG
    rw [h y x]
    simp only [List.map_cons]
    split
    · rw [List.map_cons, insG_map f h x ys]
    · rfl
theorem sortG_map {α β : Type} {lt : α → α → Bool} {lt' : β → β → Bool} (f : α → β) (h : ∀ a b, lt a b = lt' (f a) (f b)) : ∀ l : List α, (sortG lt l).map f = sortG lt' (l.map f)
  | [] => rfl
  | x :: xs => by
    show (insG lt x (sortG lt xs)).map f = insG lt' (f x) (sortG lt' (xs.map f))
    rw [insG_map f h, sortG_map f h xs]
theorem insP_G (x : P) : ∀ l : List P, insP x l = insG P.lt x l
  | [] => rfl
  | y :: ys => by simp only [insP, insG, insP_G x ys]
theorem sortP_G : ∀ l : List P, sortP l = sortG P.lt l
  | [] => rfl
  | x :: xs => by simp only [sortP, sortG, insP_G, sortP_G xs]
theorem allAlike_of : ∀ {ds : List P}, allAlike ds = true → ∀ x ∈ ds, ∀ y ∈ ds, P.alike x y = true
  | [], _, x, hx, _, _ => by cases hx
  | d :: ds, h, x, hx, y, hy => by
    simp only [allAlike, Bool.and_eq_true, List.all_eq_true] at h
    rcases List.mem_cons.mp hx with ex | hx1
    · rcases List.mem_cons.mp hy with ey | hy1
      · rw [ex, ey]; exact h.1.1
      · rw [ex]; exact (h.1.2 y hy1).1
    · rcases List.mem_cons.mp hy with ey | hy1
      · rw [ey]; exact (h.1.2 x hx1).2
      · exact allAlike_of h.2 x hx1 y hy1
theorem sortP_data {ds : List P} (h : ∀ x ∈ ds, ∀ y ∈ ds, P.alike x y = true) : sortG (fun a b => dataLt (toPD a) (toPD b)) ds = sortP ds := by
  rw [sortP_G]
  exact sortG_congr fun x hx y hy => lt_pd x y (h x hx y hy)
theorem each_zip {K : PySem.W.Frag} {m : List Addr} {H : Hp} : ∀ {ds : List P} {vs : List V} {us : List Value}, RepPs K m H ds vs → Vals vs us → EachIs (fun (u : Value) (b : P × V) => RelV b.2 u) us (ds.zip vs) ∧ ∀ b ∈ ds.zip vs, RepP K m H b.1 b.2
  | [], vs, us, h, r => by
    simp only [RepPs] at h; subst h
    cases r
    exact ⟨.nil, fun b hb => by simp at hb⟩
  | d :: ds, vs, us, h, r => by
    simp only [RepPs] at h
    obtain ⟨v, w, rfl, h1, h2⟩ := h
    cases r with
    | cons r rr =>
      obtain ⟨a, b⟩ := each_zip h2 rr
      refine ⟨.cons r a, fun c hc => ?_⟩
      simp only [List.zip_cons_cons, List.mem_cons] at hc
      rcases hc with rfl | hc
      · exact h1
      · exact b c hc
theorem each_vals {us : List Value} {bs : List (P × V)} (h : EachIs (fun (u : Value) (b : P × V) => RelV b.2 u) us bs) : Vals (bs.map (·.2)) us := by
  induction h with
  | nil => exact .nil
  | cons r _ ih => exact .cons r ih
theorem reps_pairs {K : PySem.W.Frag} {m : List Addr} {H : Hp} : ∀ {bs : List (P × V)}, (∀ b ∈ bs, RepP K m H b.1 b.2) → RepPs K m H (bs.map (·.1)) (bs.map (·.2))
  | [], _ => RepPs.nil
  | b :: bs, h => RepPs.cons (h b List.mem_cons_self) (reps_pairs fun c hc => h c (List.mem_cons_of_mem _ hc))
theorem sortable_of {ds : List P} (h : (ds.all fullTup || ds.all noTup) = true) : Sortable (ds.map toPD) := by
  simp only [Bool.or_eq_true, List.all_eq_true] at h
  rcases h with h | h
  · refine .inl fun d hd => ?_
    obtain ⟨x, hx, rfl⟩ := List.mem_map.mp hd
    have q := h x hx
    cases x with
    | tup xs =>
      cases xs with
      | nil => simp [fullTup] at q
      | cons y ys => exact ⟨toPD y, toPDs ys, by simp [toPD, toPDs]⟩
    | _ => simp [fullTup] at q
  · refine .inr fun d hd => ?_
    obtain ⟨x, hx, rfl⟩ := List.mem_map.mp hd
    have q := h x hx
    cases x <;> simp [noTup] at q <;> simp [toPD]
theorem cr_sortedX {X : Cx} (hu : X.A.units + 64 < cLine) : CallR X (.builtin "sorted") (cOf X.K cSorted) := fun pins s σ H vs us Q I r h => by
  obtain ⟨m, G, S, ps, r', hS, hp, hf, k⟩ := h
  unfold cSorted at hf
  split at hf
  · rename_i ds
    split at hf
    · rename_i hc
      cases hf
      obtain ⟨v, rfl, a, ws, rfl, f, q⟩ := one_arg hp
      unfold sortOk at hc
      simp only [Bool.and_eq_true, decide_eq_true_eq] at hc
      have al := allAlike_of hc.1.1.1
      obtain ⟨z, its, n, rv, eo⟩ := f.ok I.hok
      obtain ⟨u, rfl, ru⟩ := vals1 r
      cases ru
      obtain ⟨e1, e2⟩ := each_zip q rv
      have el : (ds.zip ws).map (·.1) = ds := by
        rw [List.map_fst_zip]; rw [q.length]; exact Nat.le_refl _
      have em : (ds.zip ws).map (fun b => toPD b.1) = ds.map toPD := by
        have := congrArg (List.map toPD) el
        rw [List.map_map] at this
        exact this
      have er : EachIs (fun v b => ∃ as, Reads s.heap v (toPD b.1) as) its (ds.zip ws) := by
        have := each_mem e1
        exact this.mono fun u b ⟨hr, hb⟩ => Dp.reads I _ _ _ (RepP.dp _ _ (e2 b hb)) hr
      have hl : s.heap.IsList a its.toArray := ⟨_, eo, rfl, n, rfl⟩
      refine sorted_data (enc := fun b : P × V => toPD b.1) hl e1 er ?_ ?_ ?_ ?_ fun out ho eo => ?_
      · rw [em]
        intro d hd d' hd'
        obtain ⟨x, hx, rfl⟩ := List.mem_map.mp hd
        obtain ⟨y, hy, rfl⟩ := List.mem_map.mp hd'
        rw [alike_pd]; exact al x hx y hy
      · rw [em]; exact sortable_of hc.1.2
      · have : (ds.zip ws).length = ds.length := by rw [← List.length_map (f := (·.1)), el]
        rw [this]; exact big_size hc.2
      · intro b hb
        have hb1 : b.1 ∈ ds := by rw [← el]; exact List.mem_map_of_mem hb
        have := ((fit_all 60).1 b.1 ((List.all_eq_true.mp hc.1.1.2) _ hb1)).2
        omega
      · rw [sortG_data] at eo
        have e3 : (sortG (fun a b : P × V => dataLt (toPD a.1) (toPD b.1)) (ds.zip ws)).map (·.1) = sortP ds := by
          rw [sortG_map (lt' := fun a b => dataLt (toPD a) (toPD b)) (fun z : P × V => z.1) (fun _ _ => rfl), el, sortP_data al]
        have rr : RepPs X.K (m ++ G) H (sortP ds) ((sortG (fun a b : P × V => dataLt (toPD a.1) (toPD b.1)) (ds.zip ws)).map (·.2)) := by
          rw [← e3]
          exact reps_pairs fun b hb => e2 b (sortG_mem.mp hb)
        obtain ⟨c, hc2⟩ := sortedAll_at s.heap its out.toArray
        have hfr : H (s.heap.objs.size + 1) = none := I.hok.fresh (Nat.le_succ _)
        have lz : ((sortG (fun a b : P × V => dataLt (toPD a.1) (toPD b.1)) (ds.zip ws)).map (·.2)).length ≤ sizeLine := by
          rw [← rr.length, ← e3, List.length_map]
          have := (ho.symm.trans (EachIs.length eo))
          rw [← EachIs.length eo, ho, ← List.length_map (f := (·.1)), el]
          exact big_size hc.2
        have J : Inv X pins σ (upd H (s.heap.objs.size + 1) (.lst ((sortG (fun a b : P × V => dataLt (toPD a.1) (toPD b.1)) (ds.zip ws)).map (·.2)))) { s with heap := sortedAll s.heap its out.toArray } :=
          I.laid (t' := s.toks) (fun b o e => sortedAll_old e) (Nat.le_succ _) ⟨lz, out, c, each_vals eo, hc2⟩
        have ex := Ext.new (o := .lst ((sortG (fun a b : P × V => dataLt (toPD a.1) (toPD b.1)) (ds.zip ws)).map (·.2))) hfr
        exact ⟨.ref _, _, J, rfl, k _ _ ex ⟨_, _, rfl, hS.fresh hfr, upd_same, RepPs.step (Step.of_ext ex) _ _ rr⟩ (own_new hS hfr rr)⟩
    · cases hf
  · cases hf
end XL
end
section
set_option Elab.async false
set_option linter.all false
set_option maxRecDepth 100000
set_option maxHeartbeats 1000000
namespace XL
open PySem L2 PyProof.Rows PySem.W
/-! ### sorted(set(xs)), len(set(xs)): ints alone, texts alone -/
def pOfKey : Key → P
  | .inl i => .int i
  | .inr x => .str x.cps.toList
theorem pOfKey_keyP {p : P} {k : Key} (h : keyP p = some k) : pOfKey k = p := by
  cases p <;> simp [keyP] at h <;> subst h <;> simp [pOfKey]
theorem keyP_pOf (k : Key) : keyP (pOfKey k) = some k := by
  cases k <;> simp [pOfKey, keyP]
def pdK : Key → PyData := fun k => toPD (pOfKey k)
theorem pdK_inj {a b : Key} (h : keyToks (pdK a) = keyToks (pdK b)) : a = b := by
  cases a <;> cases b <;> simp [pdK, pOfKey, toPD, keyToks] at h
  · rw [h]
  · rename_i x y
    have : x = y := by
      cases x; cases y
      simp only [Str.mk.injEq]
      exact Array.toList_inj.mp (by simpa using h)
    rw [this]
def ltK (a b : Key) : Bool := dataLt (pdK a) (pdK b)
theorem ltK_irrefl (a : Key) : ltK a a = false := PyProof.Rows.lex_irrefl _
theorem ltK_trans {a b c : Key} (h1 : ltK a b = true) (h2 : ltK b c = true) : ltK a c = true := (listOrd itemOrd).trans _ _ _ h1 h2
theorem ltK_total {a b : Key} (h : a ≠ b) : ltK a b = true ∨ ltK b a = true := by
  cases q : ltK a b with
  | true => exact .inl rfl
  | false =>
    cases r : ltK b a with
    | true => exact .inr rfl
    | false => exact absurd (pdK_inj ((listOrd itemOrd).total _ _ q r)) h
theorem insG_strict {x : Key} : ∀ {l : List Key}, l.Pairwise (fun a b => ltK a b = true) → x ∉ l → (insG ltK x l).Pairwise (fun a b => ltK a b = true)
  | [], _, _ => by simp [insG]
  | y :: ys, hp, hx => by
    obtain ⟨h1, h2⟩ := List.pairwise_cons.mp hp
    simp only [List.mem_cons, not_or] at hx
    unfold insG
    split
    · rename_i c
      refine List.pairwise_cons.mpr ⟨fun z hz => ?_, insG_strict h2 hx.2⟩
      rcases insG_mem.mp hz with rfl | hz
      · exact c
      · exact h1 z hz
    · rename_i c
      have c' : ltK x y = true := (ltK_total hx.1).elim id fun z => absurd z c
      refine List.pairwise_cons.mpr ⟨fun z hz => ?_, hp⟩
      rcases List.mem_cons.mp hz with rfl | hz
      · exact c'
      · exact ltK_trans c' (h1 z hz)
theorem sortG_strict : ∀ {l : List Key}, l.Nodup → (sortG ltK l).Pairwise (fun a b => ltK a b = true)
  | [], _ => List.Pairwise.nil
  | x :: xs, h => by
    obtain ⟨h1, h2⟩ := List.nodup_cons.mp h
    exact insG_strict (sortG_strict h2) fun z => h1 (sortG_mem.mp z)
theorem strict_one : ∀ {l m : List Key}, l.Pairwise (fun a b => ltK a b = true) → m.Pairwise (fun a b => ltK a b = true) → (∀ k, k ∈ l ↔ k ∈ m) → l = m
  | [], [], _, _, _ => rfl
  | [], y :: ys, _, _, h => absurd ((h y).mpr List.mem_cons_self) (by simp)
  | x :: xs, [], _, _, h => absurd ((h x).mp List.mem_cons_self) (by simp)
  | x :: xs, y :: ys, hl, hm, h => by
    obtain ⟨a1, a2⟩ := List.pairwise_cons.mp hl
    obtain ⟨b1, b2⟩ := List.pairwise_cons.mp hm
    have irr := ltK_irrefl
    have e : x = y := by
      rcases List.mem_cons.mp ((h x).mp List.mem_cons_self) with e | e
      · exact e
      · rcases List.mem_cons.mp ((h y).mpr List.mem_cons_self) with e' | e'
        · exact e'.symm
        · have := ltK_trans (b1 x e) (a1 y e')
          rw [irr] at this; cases this
    subst e
    rw [strict_one a2 b2 fun k => ?_]
    constructor
    · intro hk
      rcases List.mem_cons.mp ((h k).mp (List.mem_cons_of_mem _ hk)) with e | e
      · subst e; have := a1 k hk; rw [irr] at this; cases this
      · exact e
    · intro hk
      rcases List.mem_cons.mp ((h k).mpr (List.mem_cons_of_mem _ hk)) with e | e
      · subst e; have := b1 k hk; rw [irr] at this; cases this
      · exact e
theorem sortG_same {l m : List Key} (hl : l.Nodup) (hm : m.Nodup) (h : ∀ k, k ∈ l ↔ k ∈ m) : sortG ltK l = sortG ltK m :=
  strict_one (sortG_strict hl) (sortG_strict hm) fun k => by rw [sortG_mem, sortG_mem]; exact h k
/-- the keys of data -/
theorem keys_of {ds : List P} (h : (ds.all isIntP || ds.all isStrP) = true) : ∃ kz : List Key, ds.map keyP = kz.map some ∧ (∀ a ∈ kz, ∀ b ∈ kz, PySem.W.alike (pdK a) (pdK b) = true) := by
  simp only [Bool.or_eq_true, List.all_eq_true] at h
  have h' : (∃ ns : List Int, ds = ns.map P.int) ∨ ∃ ss : List (List Nat), ds = ss.map P.str := by
    rcases h with h | h
    · left
      induction ds with
      | nil => exact ⟨[], rfl⟩
      | cons d ds ih =>
        obtain ⟨ns, e⟩ := ih fun x hx => h x (List.mem_cons_of_mem _ hx)
        have := h d List.mem_cons_self
        cases d <;> simp [isIntP] at this
        rename_i i
        exact ⟨i :: ns, by simp [e]⟩
    · right
      induction ds with
      | nil => exact ⟨[], rfl⟩
      | cons d ds ih =>
        obtain ⟨ns, e⟩ := ih fun x hx => h x (List.mem_cons_of_mem _ hx)
        have := h d List.mem_cons_self
        cases d <;> simp [isStrP] at this
        rename_i i
        exact ⟨i :: ns, by simp [e]⟩
  rcases h' with ⟨ns, rfl⟩ | ⟨ss, rfl⟩
  · refine ⟨ns.map Sum.inl, by simp [keyP], fun a ha b hb => ?_⟩
    obtain ⟨i, _, rfl⟩ := List.mem_map.mp ha
    obtain ⟨j, _, rfl⟩ := List.mem_map.mp hb
    simp [pdK, pOfKey, toPD, PySem.W.alike]
  · refine ⟨ss.map fun s => Sum.inr ⟨s.toArray⟩, by simp [keyP], fun a ha b hb => ?_⟩
    obtain ⟨i, _, rfl⟩ := List.mem_map.mp ha
    obtain ⟨j, _, rfl⟩ := List.mem_map.mp hb
    simp [pdK, pOfKey, toPD, PySem.W.alike]
theorem keyV_rep {K : PySem.W.Frag} {m : List Addr} {H : Hp} {d : P} {v : V} {u : Value} {k : Key} (h : RepP K m H d v) (r : RelV v u) (e : keyP d = some k) : keyV u = some k := by
  cases d <;> simp [keyP] at e <;> subst e <;> simp only [RepP] at h <;> subst h <;> obtain ⟨t, rfl⟩ := r <;> rfl
theorem keysV_rep {K : PySem.W.Frag} {m : List Addr} {H : Hp} : ∀ {ds : List P} {vs : List V} {us : List Value} {kz : List Key}, RepPs K m H ds vs → Vals vs us → ds.map keyP = kz.map some → us.map keyV = kz.map some
  | [], vs, us, kz, h, r, e => by
    simp only [RepPs] at h; subst h
    cases r
    cases kz with
    | nil => rfl
    | cons k kz => simp at e
  | d :: ds, vs, us, kz, h, r, e => by
    simp only [RepPs] at h
    obtain ⟨v, w, rfl, h1, h2⟩ := h
    cases kz with
    | nil => simp at e
    | cons k kz =>
      simp only [List.map_cons, List.cons.injEq] at e
      cases r with
      | cons r rr => simp only [List.map_cons, keyV_rep h1 r e.1, keysV_rep h2 rr e.2]
theorem dedupP_mem {x : P} : ∀ {l : List P}, x ∈ dedupP l ↔ x ∈ l
  | [] => by simp [dedupP]
  | y :: ys => by
    unfold dedupP
    split
    · rename_i h
      rw [dedupP_mem (l := ys), List.mem_cons]
      constructor
      · exact .inr
      · rintro (rfl | z)
        · exact h
        · exact z
    · simp [dedupP_mem (l := ys)]
theorem dedupP_nodup : ∀ {l : List P}, (dedupP l).Nodup
  | [] => by simp [dedupP]
  | y :: ys => by
    unfold dedupP
    split
    · exact dedupP_nodup
    · rename_i h
      exact List.nodup_cons.mpr ⟨fun z => h (dedupP_mem.mp z), dedupP_nodup⟩
theorem foldl_addK_nodup : ∀ (l ks : List Key), ks.Nodup → (l.foldl addK ks).Nodup
  | [], ks, h => h
  | x :: l, ks, h => by
    refine foldl_addK_nodup l _ ?_
    unfold addK
    split
    · exact h
    · rename_i c; exact List.nodup_cons.mpr ⟨c, h⟩
theorem addAll_nodup (l : List Key) : (addAll l).Nodup := foldl_addK_nodup l [] List.nodup_nil
/-- what sorted gives of such keys -/
theorem sorted_keys {ds : List P} {kz ks : List Key} (e : ds.map keyP = kz.map some) (al : ∀ a ∈ kz, ∀ b ∈ kz, PySem.W.alike (pdK a) (pdK b) = true) (nd : ks.Nodup) (hk : ∀ k, k ∈ ks ↔ k ∈ kz) : (sortG ltK ks).map pOfKey = sortP (dedupP ds) := by
  have memP : ∀ d ∈ ds, ∃ k ∈ kz, keyP d = some k := fun d hd => by
    have : keyP d ∈ ds.map keyP := List.mem_map_of_mem hd
    rw [e] at this
    obtain ⟨k, hk, q⟩ := List.mem_map.mp this
    exact ⟨k, hk, q.symm⟩
  have memK : ∀ k ∈ kz, ∃ d ∈ ds, keyP d = some k := fun k hk => by
    have : some k ∈ kz.map some := List.mem_map_of_mem hk
    rw [← e] at this
    obtain ⟨d, hd, q⟩ := List.mem_map.mp this
    exact ⟨d, hd, q⟩
  have hj : ∃ js : List Key, (dedupP ds) = js.map pOfKey ∧ js.Nodup ∧ ∀ k, k ∈ js ↔ k ∈ kz := by
    have : ∀ l : List P, (∀ d ∈ l, d ∈ ds) → ∃ js : List Key, l = js.map pOfKey ∧ ∀ k ∈ js, keyP (pOfKey k) = some k ∧ pOfKey k ∈ l := by
      intro l
      induction l with
      | nil => intro _; exact ⟨[], rfl, fun k hk => by cases hk⟩
      | cons d l ih =>
        intro hl
        obtain ⟨js, e1, e2⟩ := ih fun x hx => hl x (List.mem_cons_of_mem _ hx)
        obtain ⟨k, _, q⟩ := memP d (hl d List.mem_cons_self)
        refine ⟨k :: js, by rw [List.map_cons, pOfKey_keyP q, ← e1], fun k' hk' => ⟨keyP_pOf k', ?_⟩⟩
        rcases List.mem_cons.mp hk' with rfl | hk'
        · rw [pOfKey_keyP q]; exact List.mem_cons_self
        · exact List.mem_cons_of_mem _ (e2 k' hk').2
    obtain ⟨js, e1, e2⟩ := this (dedupP ds) fun d hd => dedupP_mem.mp hd
    refine ⟨js, e1, ?_, fun k => ⟨fun hk => ?_, fun hk => ?_⟩⟩
    · have := dedupP_nodup (l := ds)
      rw [e1] at this
      exact List.Pairwise.of_map pOfKey (fun a b h z => h (by rw [z])) this
    · obtain ⟨k', hk', q⟩ := memP _ (dedupP_mem.mp (e2 k hk).2)
      rw [keyP_pOf] at q
      cases q; exact hk'
    · obtain ⟨d, hd, q⟩ := memK k hk
      have : d ∈ dedupP ds := dedupP_mem.mpr hd
      rw [e1] at this
      obtain ⟨k', hk', q'⟩ := List.mem_map.mp this
      rw [← q', keyP_pOf] at q
      cases q; exact hk'
  obtain ⟨js, e1, njs, mjs⟩ := hj
  rw [sortG_same nd njs fun k => (hk k).trans (mjs k).symm, e1, sortP_G]
  rw [sortG_map (lt := ltK) (lt' := fun a b => dataLt (toPD a) (toPD b)) pOfKey (fun a b => rfl)]
  refine sortG_congr fun x hx y hy => ?_
  obtain ⟨a, ha, rfl⟩ := List.mem_map.mp hx
  obtain ⟨b, hb, rfl⟩ := List.mem_map.mp hy
  refine lt_pd _ _ ?_
  rw [← alike_pd]
  exact al a ((mjs a).mp ha) b ((mjs b).mp hb)
theorem dedup_len {ds : List P} {kz ks : List Key} (e : ds.map keyP = kz.map some) (al : ∀ a ∈ kz, ∀ b ∈ kz, PySem.W.alike (pdK a) (pdK b) = true) (nd : ks.Nodup) (hk : ∀ k, k ∈ ks ↔ k ∈ kz) : ks.length = (dedupP ds).length := by
  have h := congrArg List.length (sorted_keys e al nd hk)
  have l1 : ∀ l : List Key, (sortG ltK l).length = l.length := by
    intro l
    induction l with
    | nil => rfl
    | cons x xs ih =>
      have : ∀ m : List Key, (insG ltK x m).length = m.length + 1 := by
        intro m
        induction m with
        | nil => rfl
        | cons y ys ih => unfold insG; split <;> simp [ih]
      show (insG ltK x (sortG ltK xs)).length = _
      rw [this, ih]; rfl
  have l2 : ∀ l : List P, (sortP l).length = l.length := by
    intro l
    induction l with
    | nil => rfl
    | cons x xs ih =>
      have : ∀ m : List P, (insP x m).length = m.length + 1 := by
        intro m
        induction m with
        | nil => rfl
        | cons y ys ih => unfold insP; split <;> simp [ih]
      show (insP x (sortP xs)).length = _
      rw [this, ih]; rfl
  rw [List.length_map, l1, l2] at h
  exact h
end XL
end
section
set_option Elab.async false
set_option linter.all false
set_option maxRecDepth 100000
set_option maxHeartbeats 1000000
namespace XL
open PySem L2 PyProof.Rows PySem.W
def vK : Key → V
  | .inl i => .int i
  | .inr x => .str x
theorem relV_key {k : Key} {u : Value} (h : keyV u = some k) : RelV (vK k) u := by
  cases u <;> simp [keyV] at h <;> subst h <;> exact ⟨_, rfl⟩
theorem reads_key {h : Heap} {k : Key} {u : Value} (e : keyV u = some k) : Reads h u (pdK k) [] := by
  cases u <;> simp [keyV] at e <;> subst e
  · exact .int _ _ 
  · exact .str _ _
theorem repP_key {K : PySem.W.Frag} {m : List Addr} {H : Hp} (k : Key) : RepP K m H (pOfKey k) (vK k) := by
  cases k <;> simp [RepP, pOfKey, vK]
theorem tOf.un {K : PySem.W.Frag} {σ : L2.St} {H : Hp} {Q : VK} {f : P → Option R} {xa : XE} (h : tOf K (xUn f xa) σ H Q) : tOf K xa σ H fun v H1 => uOf K f v H1 Q := by
  obtain ⟨m, G, ρ, S, r, S', hE, hS, hx, k⟩ := h
  simp only [xUn, Option.bind_eq_some_iff, Option.map_eq_some_iff] at hx
  obtain ⟨⟨r1, S1⟩, h1, p, hp, r', hf, e⟩ := hx
  cases e
  refine ⟨m, G, ρ, S, r1, S1, hE, hS, h1, fun v1 m1 H1 s1 hS1 q1 _ => ⟨m1, G, S1, p, _, hS1, q1.rd hS1 hp, hf, fun v H' e q o => ?_⟩⟩
  exact k v m1 H' (s1.trans (Step.of_ext e)) (hS1.ext e) q (o.back s1.dom)
theorem each_of_paired {α β : Type} {F : α → β → Prop} : ∀ {l : List α} {k : List β}, Paired F l k → EachIs F l k
  | _, _, .nil => .nil
  | _, _, .cons r t => .cons r (each_of_paired t)
section
variable {Pg : Program} {w : World} {A : Around} {E : Value → Shared → Prop} {s : Shared}
theorem sorted_setM {a : Addr} {ks : List Key} {Q : Value → Shared → Prop} (R : SetM w s.heap a ks) (hh : A.handled = none) (hu : A.units + 10 < cLine) (al : ∀ a ∈ ks, ∀ b ∈ ks, PySem.W.alike (pdK a) (pdK b) = true)
    (hQ : ∀ s' p (out : List Value) (c : Nat), (∀ b o, s.heap.get? b = some o → s'.heap.get? b = some o) → s'.gens = s.gens → s'.os = s.os → s.heap.objs.size ≤ p →
      s'.heap.get? p = some (seqObj "list" out.toArray c) → EachIs (fun u k => keyV u = some k) out (sortG ltK ks) → Q (.ref p) s') :
    wpAny (model Pg w) A (call (.builtin "sorted") [.ref a]) Q E s := by
  obtain ⟨o, es, ep, t, kk, ho, hex, hd, hp, pm0, nd, hb, hf, hr, hl⟩ := R
  refine Calls.call_function_entry kind_sorted plain_sorted entry_sorted (args_sorted1 _) ?_
  unfold Builtin.«sorted»
  refine wpAny_bind (m := checkCount "sorted" 1 1 _) (wpAny_pure ?_)
  refine wpAny_bind (L2.collect_set (A := A.in1) hh ⟨o, ho, hex.1, hd⟩ hf hb hr hl fun s1 vs k1 hz g1 o1 pm => ?_)
  have hp2 : Paired (fun (u : Value) (k : Key) => keyV u = some k) (es.toList.map (·.2)) kk := by
    clear pm hl hr hb hf hd
    revert hp pm0
    generalize es.toList = l
    intro hp pm0
    clear pm0
    induction hp with
    | nil => exact .nil
    | cons r _ ih => exact .cons r.1 ih
  obtain ⟨k2, hp3, pm2⟩ := paired_perm pm hp2
  have hk2 : k2.Perm ks := pm2.trans pm0
  have hvl : vs.length < scanBound := by
    rw [pm.length_eq, List.length_map, Array.length_toList]; exact hb
  have hvz : vs.length ≤ sizeLine := by
    rw [sizeLine_eq]; unfold scanBound at hvl; omega
  refine wpAny_bind (wpAny_newList ?_ hvz)
  have hoL : (s1.heap.push (seqObj "list" vs.toArray 0)).get? s1.heap.objs.size = some (seqObj "list" vs.toArray 0) := Heap.get?_push_size _ rfl
  have ee := each_of_paired hp3
  refine wpAny_bind (wpAny_holding (list_sort_data (s := { s1 with heap := s1.heap.push (seqObj "list" vs.toArray 0) }) (enc := pdK) hoL ee (ee.mono fun u k h => ⟨[], reads_key h, by simp⟩) ?_ ?_ ?_ ?_ fun out ho eo => ?_))
  · intro d hd' d2 hd2
    obtain ⟨x, hx, rfl⟩ := List.mem_map.mp hd'
    obtain ⟨y, hy, rfl⟩ := List.mem_map.mp hd2
    exact al x (hk2.mem_iff.mp hx) y (hk2.mem_iff.mp hy)
  · refine .inr fun d hd' => ?_
    obtain ⟨x, hx, rfl⟩ := List.mem_map.mp hd'
    cases x <;> simp [pdK, pOfKey, toPD]
  · rw [← EachIs.length ee]; exact hvz
  · intro k _
    have : (pdK k).depth = 0 := by cases k <;> rfl
    rw [this]
    have : A.in1.units = A.units + 1 := rfl
    omega
  · obtain ⟨c, hc⟩ := sortedHeap_at (vs := vs) (out := out.toArray) hoL
    rw [sortG_data] at eo
    have e2 : sortG (fun a b => dataLt (pdK a) (pdK b)) k2 = sortG ltK ks := sortG_same (hk2.nodup_iff.mpr nd) nd fun k => hk2.mem_iff
    rw [e2] at eo
    refine wpAny_pure ⟨_, rfl, hQ _ s1.heap.objs.size out c (fun b u e => ?_) g1 o1 hz hc eo⟩
    have q := k1 b u e
    have hlt := Heap.lt_size q
    show (sortedHeap (s1.heap.push (seqObj "list" vs.toArray 0)) s1.heap.objs.size vs out.toArray).get? b = some u
    rw [sortedHeap_old (Nat.ne_of_lt hlt) (by rw [size_push']; exact Nat.lt_succ_of_lt hlt)]
    exact Heap.get?_push_of_some _ q
end
theorem boot_sorted : bootBuiltins "sorted" = some (.builtin "sorted") := by decide +kernel
theorem repPs_keys {K : PySem.W.Frag} {m : List Addr} {H : Hp} : ∀ ks : List Key, RepPs K m H (ks.map pOfKey) (ks.map vK)
  | [] => RepPs.nil
  | k :: ks => RepPs.cons (repP_key k) (repPs_keys ks)
theorem sortP_len : ∀ l : List P, (sortP l).length = l.length := by
  intro l
  induction l with
  | nil => rfl
  | cons x xs ih =>
    have : ∀ m : List P, (insP x m).length = m.length + 1 := by
      intro m
      induction m with
      | nil => rfl
      | cons y ys ih => unfold insP; split <;> simp [ih]
    show (insP x (sortP xs)).length = _
    rw [this, ih]; rfl
theorem vals_keys : ∀ {us : List Value} {ks : List Key}, EachIs (fun u k => keyV u = some k) us ks → Vals (ks.map vK) us
  | _, _, .nil => .nil
  | _, _, .cons r t => .cons (relV_key r) (vals_keys t)
section
variable {X : Cx} {a : Expr} {xa : XE} {p p2 q pos : Pos}
theorem rd_set {pins : List (Addr × Obj)} {σ : L2.St} {H : Hp} {s : Shared} {m : List Addr} {ds : List P} {v : V} {u : Value} (I : Inv X pins σ H s) (h : RdT X.K m H (.lst ds) v) (hc : setOk ds = true) (r : RelV v u) :
    ∃ (l : Addr) (its : Array Value) (kz : List Key), u = .ref l ∧ s.heap.IsList l its ∧ its.toList.map keyV = kz.map some ∧ kz.length + 1 < scanBound ∧ ds.map keyP = kz.map some ∧ (∀ a ∈ kz, ∀ b ∈ kz, PySem.W.alike (pdK a) (pdK b) = true) := by
  obtain ⟨l, ws, rfl, f, q⟩ := h
  unfold setOk at hc
  simp only [Bool.and_eq_true, decide_eq_true_eq] at hc
  obtain ⟨z, its, n, rv, eo⟩ := f.ok I.hok
  cases r
  obtain ⟨kz, e, al⟩ := keys_of hc.1
  have hl : kz.length = ds.length := by simpa using (congrArg List.length e).symm
  exact ⟨l, its.toArray, kz, rfl, ⟨_, eo, rfl, n, rfl⟩, keysV_rep q rv e, by rw [hl]; unfold scanBound; omega, e, al⟩
theorem xe_sortedSet (hu : X.A.units + 64 < cLine) (hc : X.calm = true) (hg : Gl X "sorted") (hm : X.mg "sorted" = none) (hg2 : Gl X "set") (hm2 : X.mg "set" = none) (ha : PE X a (tOf X.K xa))
    (na : starEach [a] X.env = (false, eval a X.env) :: starEach [] X.env := by rfl) : PE X (.Call (.Name "sorted" p) [.Call (.Name "set" p2) [a] [] q] [] pos) (tOf X.K (xUn uSortedSet xa)) := by
  refine ⟨fun pins s σ H Q I h => ?_⟩
  refine Call_ (ld_blt I hg hm boot_sorted ?_)
  refine PyProof.Rows.callWith_builtin1 (PyProof.Rows.args_cons ?_ rfl) rfl rfl
  refine Call_ (ld_blt I hg2 hm2 boot_set ?_)
  refine PyProof.Rows.callWith_type1 (PyProof.Rows.args_cons (thn (ha.run pins s σ H _ I h.un) fun v s1 ⟨x, H1, I1, r1, q1⟩ => PyProof.Rows.args_nil ?_) na) na rfl
  obtain ⟨m, G, S, ps, r', hS, hp, hf, k⟩ := q1
  unfold uSortedSet at hf
  split at hf
  · rename_i ds
    split at hf
    · rename_i hok
      cases hf
      obtain ⟨l, its, kz, rfl, hl, hk, hb, e, al⟩ := rd_set I1 hp hok r1
      refine setM_call kz (I1.ok.hd hc) hl hk hb fun h' tk hS' hk' => ?_
      refine PyProof.Rows.args_nil ?_
      have I2 : Inv X pins σ H1 { s1 with heap := h', toks := tk } := I1.kept fun b o e => hk' b o e
      have mem := addAll_mem kz
      have nd : (addAll kz).Nodup := by obtain ⟨_, _, _, _, _, _, _, _, _, _, nd, _⟩ := hS'; exact nd
      refine sorted_setM hS' (I2.ok.hd hc) (by omega) (fun a ha b hb => al a ((mem a).mp ha) b ((mem b).mp hb)) fun s' p' out c kk g o hp' hg' eo => ?_
      have er := sorted_keys e al nd mem
      have hn : H1 p' = none := I2.hok.fresh hp'
      have hlen : ((sortG ltK (addAll kz)).map vK).length ≤ sizeLine := by
        rw [List.length_map]
        have h1 := congrArg List.length er
        have h2 := dedup_len e al nd mem
        have h3 := addAll_len kz
        have h4 : (sortG ltK (addAll kz)).length = (addAll kz).length := by rw [← List.length_map (f := pOfKey), h1, sortP_len, h2]
        rw [h4, sizeLine_eq]; unfold scanBound at hb; omega
      have J : Inv X pins σ (upd H1 p' (.lst ((sortG ltK (addAll kz)).map vK))) { s1 with heap := s'.heap, gens := s'.gens, drawn := s'.drawn, toks := s'.toks } :=
        Inv.call (s := { s1 with heap := h', toks := tk }) I2 (ch := []) (Un.laid kk hp' hn) (I2.hok.laid kk hp' ⟨hlen, out, c, vals_keys eo, hg'⟩) (by rw [g]; exact I2.bare) (fun _ z => nomatch z)
      have es : s' = { s1 with heap := s'.heap, gens := s'.gens, drawn := s'.drawn, toks := s'.toks } := by
        cases s'
        cases s1
        cases o
        rfl
      rw [es]
      have rr : RepPs X.K (m ++ G) H1 (sortP (dedupP ds)) ((sortG ltK (addAll kz)).map vK) := by rw [← er]; exact repPs_keys _
      have ex := Ext.new (o := .lst ((sortG ltK (addAll kz)).map vK)) hn
      exact ⟨.ref p', _, J, rfl, k _ _ ex ⟨_, _, rfl, hS.fresh hn, upd_same, RepPs.step (Step.of_ext ex) _ _ rr⟩ (own_new hS hn rr)⟩
    · cases hf
  · cases hf
theorem xe_lenSet (hc : X.calm = true) (hg : Gl X "len") (hm : X.mg "len" = none) (hg2 : Gl X "set") (hm2 : X.mg "set" = none) (ha : PE X a (tOf X.K xa))
    (na : starEach [a] X.env = (false, eval a X.env) :: starEach [] X.env := by rfl) : PE X (.Call (.Name "len" p) [.Call (.Name "set" p2) [a] [] q] [] pos) (tOf X.K (xUn uLenSet xa)) := by
  refine ⟨fun pins s σ H Q I h => ?_⟩
  refine Call_ (ld_blt I hg hm boot_len ?_)
  refine PyProof.Rows.callWith_builtin1 (PyProof.Rows.args_cons ?_ rfl) rfl rfl
  refine Call_ (ld_blt I hg2 hm2 boot_set ?_)
  refine PyProof.Rows.callWith_type1 (PyProof.Rows.args_cons (thn (ha.run pins s σ H _ I h.un) fun v s1 ⟨x, H1, I1, r1, q1⟩ => PyProof.Rows.args_nil ?_) na) na rfl
  obtain ⟨m, G, S, ps, r', hS, hp, hf, k⟩ := q1
  unfold uLenSet at hf
  split at hf
  · rename_i ds
    split at hf
    · rename_i hok
      cases hf
      obtain ⟨l, its, kz, rfl, hl, hk, hb, e, al⟩ := rd_set I1 hp hok r1
      refine setM_call kz (I1.ok.hd hc) hl hk hb fun h' tk hS' hk' => ?_
      refine PyProof.Rows.args_nil ?_
      have I2 : Inv X pins σ H1 { s1 with heap := h', toks := tk } := I1.kept fun b o e => hk' b o e
      have mem := addAll_mem kz
      obtain ⟨o, es, ep, t, kk, ho, hex, hd, hp', pm, nd, hb2, hf2, _, _⟩ := hS'
      have h2 := dedup_len e al nd mem
      have h5 : es.size = (dedupP ds).length := by rw [← h2, ← pm.length_eq, ← paired_len hp', Array.length_toList]
      refine call_len_set ho hex hd hf2 (by unfold scanBound at hb2; omega) ⟨.int es.size, H1, I2.tok _, ⟨_, rfl⟩, k _ H1 (Ext.refl _) (by simp [RepR, RepP, h5]) trivial⟩
    · cases hf
  · cases hf
end
end XL
end
section
set_option Elab.async false
set_option linter.all false
set_option maxRecDepth 100000
set_option maxHeartbeats 1000000
namespace XL
open PySem L2 PyProof.Rows
/-! ### isinstance -/
def pTy : P → String
  | .non => "NoneType"
  | .bl _ => "bool"
  | .int _ => "int"
  | .str _ => "str"
  | .lst _ => "list"
  | .tup _ => "tuple"
theorem rdT_ty {K : PySem.W.Frag} {m : List Addr} {H : Hp} {d : P} {v : V} (h : RdT K m H d v) : TyX K H v (.type (pTy d)) := by
  cases d with
  | non => cases (show v = .non by simpa only [RdT, RepP] using h); exact .base .non
  | bl b => cases (show v = .bl b by simpa only [RdT, RepP] using h); exact .base (.bl _)
  | int b => cases (show v = .int b by simpa only [RdT, RepP] using h); exact .base (.int _)
  | str b => cases (show v = .str ⟨b.toArray⟩ by simpa only [RdT, RepP] using h); exact .base (.str _)
  | lst ds =>
    obtain ⟨a, vs, rfl, f | ⟨o, f⟩, _⟩ := h
    · exact .base (.lst f)
    · exact .base (.frz f)
  | tup ds =>
    simp only [RdT, RepP] at h
    obtain ⟨a, vs, rfl, ⟨f | ⟨o, f⟩, _⟩ | ⟨o, its, n, f, c, _⟩, _⟩ := h
    · exact .base (.tup f)
    · exact .fTuple f
    · exact .kTuple f c
theorem boot_isinstance : bootBuiltins "isinstance" = some (.builtin "isinstance") := by decide +kernel
theorem boot_int : bootBuiltins "int" = some (.type "int") := by decide +kernel
theorem boot_bool : bootBuiltins "bool" = some (.type "bool") := by decide +kernel
theorem boot_tuple : bootBuiltins "tuple" = some (.type "tuple") := by decide +kernel
theorem boot_str : bootBuiltins "str" = some (.type "str") := by decide +kernel
theorem boot_list : bootBuiltins "list" = some (.type "list") := by decide +kernel
theorem isi_int (d : P) : kitB (pTy d) "int" = some (isiInt d) := by cases d <;> (simp only [pTy, isiInt, isiBool, isiTuple, isiStr]; decide +kernel)
theorem isi_bool (d : P) : kitB (pTy d) "bool" = some (isiBool d) := by cases d <;> (simp only [pTy, isiInt, isiBool, isiTuple, isiStr]; decide +kernel)
theorem isi_tuple (d : P) : kitB (pTy d) "tuple" = some (isiTuple d) := by cases d <;> (simp only [pTy, isiInt, isiBool, isiTuple, isiStr]; decide +kernel)
theorem isi_str (d : P) : kitB (pTy d) "str" = some (isiStr d) := by cases d <;> (simp only [pTy, isiInt, isiBool, isiTuple, isiStr]; decide +kernel)
section
variable {X : Cx} {a : Expr} {xa : XE} {p p2 pos : Pos} {c : Str} {T : String} {f : P → Bool}
theorem xe_isi (hg : Gl X "isinstance") (hm : X.mg "isinstance" = none) (hg2 : Gl X c) (hm2 : X.mg c = none) (hT : bootBuiltins c = some (.type T)) (hf : ∀ d, kitB (pTy d) T = some (f d)) (ha : PE X a (tOf X.K xa))
    (hn : c ≠ "__name__" := by decide) (hdb : (c == ("__debug__" : Str)) = false := by decide)
    (he : starEach (a :: [Expr.Name c p2]) X.env = (false, eval a X.env) :: starEach [Expr.Name c p2] X.env := by rfl) : PE X (.Call (.Name "isinstance" p) [a, .Name c p2] [] pos) (tOf X.K (xUn (pIsi f) xa)) := by
  have hb : PE X (.Name c p2) (tC (.ty T)) := pe_bltn hg2 hm2 hT rfl hn hdb
  have hA : PA X [a, .Name c p2] (tCons (tOf X.K xa) (tCons (tC (.ty T)) tNil)) := pa_cons ha (pa_cons hb pa_nil rfl) he
  refine PE.imp (pe_callB call_isi hg hm boot_isinstance hA (he := he)) fun σ H Q h => ?_
  have h' := h.un
  obtain ⟨m, G, ρ, S, r, S', hE, hS, hx, k⟩ := h'
  refine ⟨m, G, ρ, S, r, S', hE, hS, hx, fun v m' H' s1 hS1 q1 o1 => ?_⟩
  obtain ⟨m2, G2, S2, d, r2, hS2, hd, hf2, k2⟩ := k v m' H' s1 hS1 q1 o1
  cases hf2
  exact ⟨v, .ty T, .type (pTy d), .type T, f d, rfl, .ty T, rdT_ty hd, kit_ty (hf d), k2 _ H' (Ext.refl _) (by simp [RepR, RepP]) trivial⟩
end
end XL
end
section
set_option Elab.async false
set_option linter.all false
set_option maxRecDepth 100000
set_option maxHeartbeats 1000000
namespace XL
open PySem L2 PyProof.Rows
/-! ### methods that read -/
def mOf (K : PySem.W.Frag) (f : P → List P → Option R) : V → List V → Hp → VK → Prop := fun x xs H Q => ∃ m G S p ps r, RepSt K G m S H ∧ RdT K (m ++ G) H p x ∧ RdTs K (m ++ G) H ps xs ∧ f p ps = some r ∧ ∀ v H', Ext H H' → RepR K G m H' r v → Own K H G m H' S r v → Q v H'
def tyN : Ty → String
  | .str => "str"
  | .lst => "list"
theorem ty_rd {K : PySem.W.Frag} {m : List Addr} {H : Hp} {p : P} {v : V} {ty : Ty} (h : RdT K m H p v) (e : isTy ty p = true) : tyV K (tyN ty) v H := by
  cases ty <;> cases p <;> simp [isTy] at e
  · simp only [RdT, RepP] at h; subst h; rfl
  · obtain ⟨a, vs, rfl, f, q⟩ := h
    exact .inl ⟨rfl, vs, .inl f⟩
section
variable {X : Cx} {o e : Expr} {es : List Expr} {xo : XE} {xs : XA} {name : Str} {apos cpos : Pos} {ty : Ty} {id : String} {f : P → List P → Option R}
theorem xe_meth (pa : PlainAttrs (tyN ty)) (slot : Slot (tyN ty) name id) (hty : typeOf (.builtin id) = pure (.type "method_descriptor")) (hm : MtR X id (mOf X.K f)) (ho : PE X o (tOf X.K xo)) (ha : PA X (e :: es) (tOfA X.K xs))
    (hbase : attributeBase o name X.env (eval o X.env) = eval o X.env := by rfl)
    (hfew : ((backTo cpos (starEach (e :: es) X.env)).all (fun x => !x.1) && (backToKw cpos (keywordEach [] X.env)).all (fun x => x.1.isSome)
      && decide ((e :: es).length + ([] : List Keyword).length + (if ([] : List Keyword).isEmpty then 0 else 1) < 30)) = true := by rfl)
    (hline : (apos.endLine == cpos.line) = true := by rfl) (hs : starEach (e :: es) X.env = (false, eval e X.env) :: starEach es X.env := by rfl) (hplain : (backTo cpos (starEach es X.env)).any (·.1) = false := by rfl) :
    PE X (.Call (.Attribute o name apos) (e :: es) [] cpos) (tOf X.K (xMeth ty f xo xs)) :=
  PE.imp (pe_bm pa slot hty hm ho ha hbase hfew hline hs hplain) fun σ H Q h => by
    obtain ⟨m, G, ρ, S, r, S', hE, hS, hx, k⟩ := h
    simp only [xMeth, Option.bind_eq_some_iff, Option.map_eq_some_iff] at hx
    obtain ⟨⟨r1, S1⟩, h1, p0, hp0, hx⟩ := hx
    split at hx
    · rename_i hi
      simp only [Option.bind_eq_some_iff, Option.map_eq_some_iff] at hx
      obtain ⟨⟨rs, S2⟩, h2, p, hp, ps, hps, r', hf, e⟩ := hx
      cases e
      refine ⟨m, G, ρ, S, r1, S1, hE, hS, h1, fun v1 m1 H1 s1 hS1 q1 _ => ⟨ty_rd (q1.rd hS1 hp0) hi, m1, G, ρ, S1, rs, S2, hE.step s1, hS1, h2, fun vs m2 H2 s2 hS2 q2 => ?_⟩⟩
      refine ⟨m2, G, S2, p, ps, _, hS2, (q1.step s2).rd hS2 hp, q2.rds hS2 hps, hf, fun v H' e q o => ?_⟩
      exact k v m2 H' ((s1.trans s2).trans (Step.of_ext e)) (hS2.ext e) q (o.back (s1.trans s2).dom)
    · cases hx
theorem xe_meth0 (pa : PlainAttrs (tyN ty)) (slot : Slot (tyN ty) name id) (hty : typeOf (.builtin id) = pure (.type "method_descriptor")) (hm : MtR X id (mOf X.K f)) (ho : PE X o (tOf X.K xo))
    (hbase : attributeBase o name X.env (eval o X.env) = eval o X.env := by rfl) (hline : (apos.endLine == cpos.line) = true := by rfl) : PE X (.Call (.Attribute o name apos) [] [] cpos) (tOf X.K (xMeth ty f xo xNil)) :=
  PE.imp (pe_bm0 pa slot hty hm ho hbase hline) fun σ H Q h => by
    obtain ⟨m, G, ρ, S, r, S', hE, hS, hx, k⟩ := h
    simp only [xMeth, Option.bind_eq_some_iff, Option.map_eq_some_iff] at hx
    obtain ⟨⟨r1, S1⟩, h1, p0, hp0, hx⟩ := hx
    split at hx
    · rename_i hi
      simp only [Option.bind_eq_some_iff, Option.map_eq_some_iff] at hx
      obtain ⟨⟨rs, S2⟩, h2, p, hp, ps, hps, r', hf, e⟩ := hx
      cases e
      cases h2
      cases hps
      refine ⟨m, G, ρ, S, r1, S1, hE, hS, h1, fun v1 m1 H1 s1 hS1 q1 _ => ⟨ty_rd (q1.rd hS1 hp0) hi, m1, G, S1, p, [], _, hS1, q1.rd hS1 hp, rfl, hf, fun v H' e q o => ?_⟩⟩
      exact k v m1 H' (s1.trans (Step.of_ext e)) (hS1.ext e) q (o.back s1.dom)
    · cases hx
end
section
variable {X : Cx}
theorem mtr_imp {id : String} {f : P → List P → Option R} {r : V → List V → Hp → VK → Prop} (h : MtR X id r) (w : ∀ v vs H Q, mOf X.K f v vs H Q → r v vs H Q) : MtR X id (mOf X.K f) := fun pins s σ H x xs v us Q I rx rv q => h pins s σ H x xs v us Q I rx rv (w x xs H Q q)
theorem idxIn_some {x : P} : ∀ {ds : List P} {j : Nat}, idxIn x ds = some j → ∃ z, ds[j]? = some z ∧ P.pyeq z x = true ∧ ∀ (m : Nat) (z' : P), m < j → ds[m]? = some z' → P.pyeq z' x = false
  | [], j, h => by simp [idxIn] at h
  | y :: ys, j, h => by
    unfold idxIn at h
    split at h
    · rename_i c
      cases h
      exact ⟨y, rfl, c, fun m z' hm => absurd hm (Nat.not_lt_zero _)⟩
    · rename_i c
      simp only [Option.map_eq_some_iff] at h
      obtain ⟨i, hi, rfl⟩ := h
      obtain ⟨z, h1, h2, h3⟩ := idxIn_some hi
      refine ⟨z, by simpa using h1, h2, fun m z' hm hz => ?_⟩
      cases m with
      | zero => simp at hz; subst hz; simpa using c
      | succ m => exact h3 m z' (by omega) (by simpa using hz)
theorem mt_indexX (hu : X.A.units + 65 < cLine) : MtR X "list.index" (mOf X.K mIndex) := mtr_imp (mt_indexD hu) fun v vs H Q h => by
  obtain ⟨m, G, S, p, ps, r, hS, hp, hps, hf, k⟩ := h
  unfold mIndex at hf
  split at hf
  · rename_i ds x
    split at hf
    · rename_i hc
      simp only [Option.map_eq_some_iff] at hf
      obtain ⟨j, hj, rfl⟩ := hf
      simp only [Bool.and_eq_true] at hc
      obtain ⟨y, rfl, hy⟩ := one_arg hps
      obtain ⟨z, h1, h2, h3⟩ := idxIn_some hj
      have hd := hp.dp
      obtain ⟨a, ws, rfl, f, q⟩ := hp
      simp only [toPD] at hd
      refine ⟨a, y, toPD x, toPDs ds, j, toPD z, rfl, rfl, hd, hy.dp, ?_, fit_shaped hc.1, ?_, by rw [eqv_pyeq]; exact h2, fun m z' hm hz => ?_, k _ H (Ext.refl _) (by simp [RepR, RepP]) trivial⟩
      · have := fit_shaped hc.2
        simpa only [toPD] using this
      · rw [toPDs_map, List.getElem?_map, h1]; rfl
      · rw [toPDs_map, List.getElem?_map] at hz
        cases q2 : ds[m]? with
        | none => rw [q2] at hz; cases hz
        | some w => rw [q2] at hz; cases hz; rw [eqv_pyeq]; exact h3 m w hm q2
    · cases hf
  · cases hf
theorem mt_lowerX : MtR X "str.lower" (mOf X.K mLower) := mtr_imp mt_lower fun v vs H Q h => by
  obtain ⟨m, G, S, p, ps, r, hS, hp, hps, hf, k⟩ := h
  unfold mLower at hf
  split at hf
  · rename_i s
    split at hf
    · rename_i hc
      cases hf
      simp only [RdT, RepP] at hp
      subst hp
      cases hps
      refine ⟨_, rfl, rfl, by simp only [Str.length, List.size_toArray]; omega, ?_⟩
      rw [lower_ascii (x := ⟨s.toArray⟩) (fun c hc' => by have := (List.all_eq_true.mp hc.2) c (by simpa using hc'); simpa using this)]
      refine k _ H (Ext.refl _) ?_ trivial
      show _ = _
      simp [RepP, lowC, lo1]
    · cases hf
  · cases hf
theorem joinT_is (a : List Nat) : ∀ ys : List (List Nat), (Txt.join ⟨a.toArray⟩ (ys.map fun y => (⟨y.toArray⟩ : Str))) = ⟨(joinT a ys).toArray⟩ := by
  intro ys
  have e : ∀ ys : List (List Nat), Str.join ⟨a.toArray⟩ (ys.map fun y => (⟨y.toArray⟩ : Str)) = ⟨(joinT a ys).toArray⟩ := by
    intro ys
    induction ys with
    | nil => rfl
    | cons y ys ih =>
      cases ys with
      | nil => rfl
      | cons z zs =>
        show ((⟨y.toArray⟩ : Str) ++ (⟨a.toArray⟩ : Str)) ++ Str.join ⟨a.toArray⟩ ((z :: zs).map fun y => (⟨y.toArray⟩ : Str)) = _
        rw [ih]
        show (⟨_⟩ : Str) = _
        simp [joinT, Str.cps_append]
  unfold Txt.join
  rw [StrLaws.glued_eq_join]
  exact e ys
theorem reps_strs {K : PySem.W.Frag} {m : List Addr} {H : Hp} : ∀ {ds : List P} {vs : List V} {ts : List (List Nat)}, RepPs K m H ds vs → strsOf ds = some ts → vs = (ts.map fun y => (⟨y.toArray⟩ : Str)).map V.str
  | [], vs, ts, h, e => by
    simp only [RepPs] at h; subst h; cases e; rfl
  | d :: ds, vs, ts, h, e => by
    simp only [RepPs] at h
    obtain ⟨v, w, rfl, h1, h2⟩ := h
    cases d <;> simp [strsOf] at e
    obtain ⟨bs, e2, rfl⟩ := e
    simp only [RepP] at h1
    subst h1
    rw [reps_strs h2 e2]; rfl
theorem mt_joinX : MtR X "str.join" (mOf X.K mJoin) := mtr_imp mt_join fun v vs H Q h => by
  obtain ⟨m, G, S, p, ps, r, hS, hp, hps, hf, k⟩ := h
  unfold mJoin at hf
  have fin : ∀ (s : List Nat) (ts : List (List Nat)) (a : Addr), RdT X.K (m ++ G) H (.str s) v → vs = [.ref a] → (SqL X.K H a ((ts.map fun y => (⟨y.toArray⟩ : Str)).map V.str) ∨ SqT X.K H a ((ts.map fun y => (⟨y.toArray⟩ : Str)).map V.str)) →
      (ts.map (·.length)).sum + ts.length * s.length ≤ big → r = .p (.str (joinT s ts)) → ∃ a p, ∃ ys : List Str, v = .str a ∧ vs = [.ref p] ∧ (SqL X.K H p (ys.map V.str) ∨ SqT X.K H p (ys.map V.str)) ∧
    (ys.map (·.length)).sum + ys.length * a.length ≤ 16777216 ∧ Q (.str (Txt.join a ys)) H := fun s ts a hp e hs hz er => by
    simp only [RdT, RepP] at hp
    refine ⟨_, a, _, hp, e, hs, ?_, ?_⟩
    · have : (ts.map fun y => (⟨y.toArray⟩ : Str)).map (·.length) = ts.map (·.length) := by simp [Str.length]
      rw [this, List.length_map]
      simp only [Str.length, List.size_toArray]
      have : big ≤ 16777216 := by decide
      omega
    · rw [joinT_is]
      subst er
      exact k _ H (Ext.refl _) (by simp [RepR, RepP]) trivial
  split at hf
  · simp only [Option.bind_eq_some_iff] at hf
    obtain ⟨ts, ht, hf⟩ := hf
    split at hf
    · rename_i hz
      cases hf
      obtain ⟨w, rfl, a, ws, rfl, f, q⟩ := one_arg hps
      have := reps_strs q ht
      subst this
      exact fin _ ts a hp rfl (.inl (.inl f)) hz rfl
    · cases hf
  · simp only [Option.bind_eq_some_iff] at hf
    obtain ⟨ts, ht, hf⟩ := hf
    split at hf
    · rename_i hz
      cases hf
      obtain ⟨w, rfl, q⟩ := one_arg hps
      simp only [RdT, RepP] at q
      obtain ⟨a, ws, rfl, f, q⟩ := q
      have := reps_strs q ht
      subst this
      exact fin _ ts a hp rfl (.inr f.sq) hz rfl
    · cases hf
  · cases hf
end
end XL
end
section
set_option Elab.async false
set_option linter.all false
set_option maxRecDepth 100000
set_option maxHeartbeats 1000000
namespace XL
open PySem L2 PyProof.Rows
/-! ### stores to cells -/
section
variable {K : PySem.W.Frag} {G m : List Addr} {H : Hp} {S : Sto}
theorem Step.write {a : Addr} {o : HO} (ha : a ∈ m) (hz : ∀ o u, H a ≠ some (.frz o u)) : Step m H m (upd H a o) :=
  ⟨⟨[], by simp, fun _ h => by cases h⟩, fun b u h hb => by
    have : b ≠ a := fun z => hb (z ▸ ha)
    rw [upd_ne this]; exact h, fun b h => by
    by_cases e : b = a
    · subst e; rw [upd_same] at h; cases h
    · rw [upd_ne e] at h; exact h, fun b o' w e => by
    rw [upd_ne (fun z : b = a => hz _ _ (z ▸ e))]; exact e⟩
theorem RepSt.put (hS : RepSt K G m S H) {l : Nat} {a : Addr} {ds : List P} {vs ws : List V} (hl : m[l]? = some a) (hw : H a = some (.lst ws)) (q : RepPs K (m ++ G) H ds vs) : RepSt K G m (S.set l (.lst ds)) (upd H a (.lst vs)) := by
  have ha : a ∈ m := List.mem_of_getElem? hl
  have st : Step m H m (upd H a (.lst vs)) := Step.write ha fun o u z => by rw [hw] at z; cases z
  have hlm : l < m.length := (List.getElem?_eq_some_iff.mp hl).1
  refine ⟨by rw [List.length_set]; exact hS.len, hS.nd, fun j b c hj hc => ?_, fun b hb => ⟨?_, (hS.gd b hb).2⟩⟩
  · by_cases e : j = l
    · subst e
      rw [hl] at hj
      cases hj
      rw [List.getElem?_set_self (by rw [← hS.len]; exact hlm)] at hc
      cases hc
      exact RepC.lst.mpr ⟨vs, upd_same, RepPs.step st _ _ q⟩
    · rw [List.getElem?_set_ne (Ne.symm e)] at hc
      have hne : b ≠ a := fun z => by
        subst z
        exact e ((List.getElem?_inj (List.getElem?_eq_some_iff.mp hj).1 hS.nd).mp (hj.trans hl.symm))
      obtain ⟨vs', o', h1, kk, h2⟩ := hS.cell j b c hj hc
      exact ⟨vs', o', by rw [upd_ne hne]; exact h1, kk, RepPs.step st _ _ h2⟩
  · intro z
    exact (hS.gd b hb).1 (st.dom b z)
theorem repPs_set : ∀ {ds : List P} {vs : List V} {j : Nat} {d : P} {v : V}, RepPs K m H ds vs → RepP K m H d v → RepPs K m H (ds.set j d) (vs.set j v)
  | [], vs, j, d, v, h, q => by simp only [RepPs] at h; subst h; exact RepPs.nil
  | e :: ds, vs, j, d, v, h, q => by
    simp only [RepPs] at h
    obtain ⟨u, w, rfl, h1, h2⟩ := h
    cases j with
    | zero => exact RepPs.cons q h2
    | succ j => exact RepPs.cons h1 (repPs_set h2 q)
theorem repPs_last : ∀ {ds : List P} {vs : List V} {d : P}, RepPs K m H ds vs → ds.getLast? = some d → ∃ v, vs[vs.length - 1]? = some v ∧ RepP K m H d v := by
  intro ds vs d h e
  rw [List.getLast?_eq_getElem?] at e
  obtain ⟨v, h1, h2⟩ := RepPs.get h e
  rw [h.length] at h1
  exact ⟨v, h1, h2⟩
theorem repPs_init : ∀ {ds : List P} {vs : List V}, RepPs K m H ds vs → RepPs K m H ds.dropLast vs.dropLast
  | [], vs, h => by simp only [RepPs] at h; subst h; exact RepPs.nil
  | [d], vs, h => by
    simp only [RepPs] at h
    obtain ⟨u, w, rfl, h1, rfl⟩ := h
    exact RepPs.nil
  | d :: e :: ds, vs, h => by
    simp only [RepPs] at h
    obtain ⟨u, w, rfl, h1, u2, w2, rfl, h2, h3⟩ := h
    show RepPs K m H (d :: (e :: ds).dropLast) (u :: (u2 :: w2).dropLast)
    exact RepPs.cons h1 (repPs_init (RepPs.cons h2 h3))
end
theorem type_list_extend : typeOf (.builtin "list.extend") = pure (.type "method_descriptor") := PySem.F.type_list_extend
theorem type_list_pop : typeOf (.builtin "list.pop") = pure (.type "method_descriptor") := PySem.F.type_list_pop
section
variable {X : Cx} {o e : Expr} {xo xa : XE} {apos cpos : Pos}
/-- what o.append(e) etc. stand on -/
theorem cell_of {K : PySem.W.Frag} {G m : List Addr} {S : Sto} {H : Hp} {l : Nat} {v : V} {ds : List P} (hS : RepSt K G m S H) (q : RepR K G m H (.ref l) v) (hc : S[l]? = some (.lst ds)) : ∃ a vs, v = .ref a ∧ m[l]? = some a ∧ H a = some (.lst vs) ∧ RepPs K (m ++ G) H ds vs := by
  obtain ⟨a, rfl, hl⟩ := q
  obtain ⟨vs, h1, h2⟩ := RepC.lst.mp (hS.cell l a _ hl hc)
  exact ⟨a, vs, rfl, hl, h1, h2⟩
theorem xe_append (ho : PE X o (tOf X.K xo)) (ha : PE X e (tOf X.K xa))
    (hbase : attributeBase o "append" X.env (eval o X.env) = eval o X.env := by rfl)
    (hfew : ((backTo cpos (starEach [e] X.env)).all (fun x => !x.1) && (backToKw cpos (keywordEach [] X.env)).all (fun x => x.1.isSome)
      && decide ([e].length + ([] : List Keyword).length + (if ([] : List Keyword).isEmpty then 0 else 1) < 30)) = true := by rfl)
    (hline : (apos.endLine == cpos.line) = true := by rfl) (hs : starEach [e] X.env = (false, eval e X.env) :: starEach [] X.env := by rfl) (hplain : (backTo cpos (starEach [] X.env)).any (·.1) = false := by rfl) :
    PE X (.Call (.Attribute o "append" apos) [e] [] cpos) (tOf X.K (xApp xo xa)) :=
  PE.imp (pe_bm PySem.F.plainAttrs_list PySem.F.slot_list_append PySem.F.type_list_append (r := rAppend) mt_append ho (pa_cons ha pa_nil hs) hbase hfew hline hs hplain) fun σ H Q h => by
    obtain ⟨m, G, ρ, S, r, S', hE, hS, hx, k⟩ := h
    simp only [xApp, Option.bind_eq_some_iff] at hx
    obtain ⟨⟨r1, S1⟩, h1, hx⟩ := hx
    split at hx
    · rename_i l e1
      simp only at e1
      subst e1
      split at hx
      · rename_i ds0 hc0
        simp only [Option.bind_eq_some_iff] at hx
        obtain ⟨⟨r2, S2⟩, h2, hx⟩ := hx
        split at hx
        · rename_i ds hc
          simp only [Option.bind_eq_some_iff] at hx
          obtain ⟨d, hd, hx⟩ := hx
          split at hx
          · rename_i hz
            cases hx
            refine ⟨m, G, ρ, S, _, S1, hE, hS, h1, fun v1 m1 H1 s1 hS1 q1 _ => ⟨?_, m1, G, ρ, S1, r2, S2, hE.step s1, hS1, h2, fun v2 m2 H2 s2 hS2 q2 _ => ?_⟩⟩
            · obtain ⟨a, vs, rfl, hl, hH, hq⟩ := cell_of hS1 q1 hc0
              exact .inl ⟨rfl, vs, .inl (.inl hH)⟩
            · obtain ⟨a, vs, rfl, hl, hH, hq⟩ := cell_of hS2 (q1.step s2) hc
              refine ⟨a, vs, v2, rfl, rfl, hH, ?_, ?_⟩
              · rw [← hq.length]; exact Nat.lt_of_lt_of_le hz (by decide)
              · have st : Step m2 H2 m2 (upd H2 a (.lst (vs ++ [v2]))) := Step.write (List.mem_of_getElem? hl) fun o u z => by rw [hH] at z; cases z
                exact k .non m2 _ ((s1.trans s2).trans st) (hS2.put hl hH (hq.append (RepPs.one (q2.fz hd)))) (by simp [RepR, RepP]) trivial
          · cases hx
        · cases hx
      · cases hx
    · cases hx
theorem xe_extend (ho : PE X o (tOf X.K xo)) (ha : PE X e (tOf X.K xa))
    (hbase : attributeBase o "extend" X.env (eval o X.env) = eval o X.env := by rfl)
    (hfew : ((backTo cpos (starEach [e] X.env)).all (fun x => !x.1) && (backToKw cpos (keywordEach [] X.env)).all (fun x => x.1.isSome)
      && decide ([e].length + ([] : List Keyword).length + (if ([] : List Keyword).isEmpty then 0 else 1) < 30)) = true := by rfl)
    (hline : (apos.endLine == cpos.line) = true := by rfl) (hs : starEach [e] X.env = (false, eval e X.env) :: starEach [] X.env := by rfl) (hplain : (backTo cpos (starEach [] X.env)).any (·.1) = false := by rfl) :
    PE X (.Call (.Attribute o "extend" apos) [e] [] cpos) (tOf X.K (xExt xo xa)) :=
  PE.imp (pe_bm PySem.F.plainAttrs_list PySem.F.slot_list_extend type_list_extend (r := rExtend) mt_extend ho (pa_cons ha pa_nil hs) hbase hfew hline hs hplain) fun σ H Q h => by
    obtain ⟨m, G, ρ, S, r, S', hE, hS, hx, k⟩ := h
    simp only [xExt, Option.bind_eq_some_iff] at hx
    obtain ⟨⟨r1, S1⟩, h1, hx⟩ := hx
    split at hx
    · rename_i l e1
      simp only at e1
      subst e1
      split at hx
      · rename_i ds0 hc0
        simp only [Option.bind_eq_some_iff] at hx
        obtain ⟨⟨r2, S2⟩, h2, hx⟩ := hx
        split at hx
        · rename_i ds hc
          split at hx
          · rename_i es e2
            simp only at e2
            subst e2
            split at hx
            · rename_i hz
              cases hx
              refine ⟨m, G, ρ, S, _, S1, hE, hS, h1, fun v1 m1 H1 s1 hS1 q1 _ => ⟨?_, m1, G, ρ, S1, _, S2, hE.step s1, hS1, h2, fun v2 m2 H2 s2 hS2 q2 _ => ?_⟩⟩
              · obtain ⟨a, vs, rfl, hl, hH, hq⟩ := cell_of hS1 q1 hc0
                exact .inl ⟨rfl, vs, .inl (.inl hH)⟩
              · obtain ⟨a, vs, rfl, hl, hH, hq⟩ := cell_of hS2 (q1.step s2) hc
                obtain ⟨b, ws, rfl, hb, hB, hw⟩ := q2
                refine ⟨a, b, vs, ws, rfl, rfl, hH, hB, ?_, ?_⟩
                · rw [← hq.length, ← hw.length]; exact Nat.le_trans hz (by decide)
                · have st : Step m2 H2 m2 (upd H2 a (.lst (vs ++ ws))) := Step.write (List.mem_of_getElem? hl) fun o u z => by rw [hH] at z; cases z
                  exact k .non m2 _ ((s1.trans s2).trans st) (hS2.put hl hH (hq.append hw)) (by simp [RepR, RepP]) trivial
            · cases hx
          · cases hx
        · cases hx
      · cases hx
    · cases hx
theorem xe_pop (ho : PE X o (tOf X.K xo))
    (hbase : attributeBase o "pop" X.env (eval o X.env) = eval o X.env := by rfl) (hline : (apos.endLine == cpos.line) = true := by rfl) :
    PE X (.Call (.Attribute o "pop" apos) [] [] cpos) (tOf X.K (xPop xo)) :=
  PE.imp (pe_bm0 PySem.F.plainAttrs_list PySem.F.slot_list_pop type_list_pop (r := rPop) mt_pop ho hbase hline) fun σ H Q h => by
    obtain ⟨m, G, ρ, S, r, S', hE, hS, hx, k⟩ := h
    simp only [xPop, Option.bind_eq_some_iff] at hx
    obtain ⟨⟨r1, S1⟩, h1, hx⟩ := hx
    split at hx
    · rename_i l e1
      simp only at e1
      subst e1
      split at hx
      · rename_i ds hc
        split at hx
        · rename_i d hd
          cases hx
          refine ⟨m, G, ρ, S, _, S1, hE, hS, h1, fun v1 m1 H1 s1 hS1 q1 _ => ?_⟩
          obtain ⟨a, vs, rfl, hl, hH, hq⟩ := cell_of hS1 q1 hc
          obtain ⟨y, hy, ry⟩ := repPs_last hq hd
          have st : Step m1 H1 m1 (upd H1 a (.lst vs.dropLast)) := Step.write (List.mem_of_getElem? hl) fun o u z => by rw [hH] at z; cases z
          exact ⟨.inl ⟨rfl, vs, .inl (.inl hH)⟩, a, vs, y, rfl, rfl, hH, hy, k y m1 _ (s1.trans st) (hS1.put hl hH (repPs_init hq)) (RepP.step st _ _ ry) trivial⟩
        · cases hx
      · cases hx
    · cases hx
theorem ixP_N {n : Nat} {i : Int} {j : Nat} (h : ixP n i = some j) : ixN n i = some j := by
  unfold ixP at h
  unfold ixN
  split at h
  · rename_i c
    rw [if_pos c]
    split at h
    · rename_i c2; rw [if_pos (by omega)]; exact h
    · cases h
  · rename_i c
    rw [if_neg c]
    split at h
    · rename_i c2
      rw [if_pos (by omega)]
      cases h
      congr 1
      omega
    · cases h
theorem xs_putL {i : Expr} {xi : XE} {pos tpos : Pos} (he : PE X e (tOf X.K xa)) (ho : PE X o (tOf X.K xo)) (hi : PE X i (tOf X.K xi))
    (hs : swapsWithSole [.Subscript o i tpos] e pos.line X.env = pure false := by rfl) (hw : swappedStores [.Subscript o i tpos] e X.env = pure none := by rfl)
    (h1 : (assignEach [.Subscript o i tpos] X.env).map (·.2) = [assign (.Subscript o i tpos) X.env] := by rfl)
    (hasg : ∀ v, assign (.Subscript o i tpos) X.env v = (do
      let ov ← holding [v] (eval o X.env)
      let iv ← holding [v, ov] (eval i X.env)
      standAt tpos
      holding [v, ov, iv] (setItem ov iv v)
      release [v, ov, iv] []) := by intro _; rfl) : PS X (.Assign [.Subscript o i tpos] e pos) (tOfS X.K (xPutL xa xo xi)) :=
  PS.imp (ps_asg he (pg_sub ho hi set_list hasg) hs hw h1) fun D σ H h => by
    obtain ⟨m, G, ρ, S, fl, S', hE, hS, hx, k⟩ := h
    simp only [xPutL, Option.bind_eq_some_iff] at hx
    obtain ⟨⟨r0, S0⟩, h0, ⟨r1, S1⟩, h1, ⟨r2, S2⟩, h2, hx⟩ := hx
    split at hx
    · rename_i l j e1 e2
      simp only at e1 e2
      subst e1 e2
      split at hx
      · rename_i ds hc
        simp only [Option.bind_eq_some_iff, Option.map_eq_some_iff] at hx
        obtain ⟨d, hd, n, hn, e⟩ := hx
        cases e
        refine ⟨m, G, ρ, S, r0, S0, hE, hS, h0, fun v0 m0 H0 s0 hS0 q0 _ => ⟨m0, G, ρ, S0, _, S1, hE.step s0, hS0, h1, fun v1 m1 H1 s1 hS1 q1 _ => ⟨m1, G, ρ, S1, _, S2, (hE.step s0).step s1, hS1, h2, fun v2 m2 H2 s2 hS2 q2 _ => ?_⟩⟩⟩
        obtain ⟨a, vs, rfl, hl, hH, hq⟩ := cell_of hS2 (q1.step s2) hc
        have q2' : v2 = .int j := by simpa only [RepR, RepP] using q2
        subst q2'
        have st : Step m2 H2 m2 (upd H2 a (.lst (vs.set n v0))) := Step.write (List.mem_of_getElem? hl) fun o u z => by rw [hH] at z; cases z
        refine ⟨a, vs, j, n, rfl, rfl, hH, by rw [← hq.length]; exact ixP_N hn, ?_⟩
        exact k σ m2 _ (((s0.trans s1).trans s2).trans st) (hS2.put hl hH (repPs_set hq ((q0.step (s1.trans s2)).fz hd))) ((((hE.step s0).step s1).step s2).step st)
      · cases hx
    · cases hx
end
end XL
end
section
set_option Elab.async false
set_option linter.all false
set_option maxRecDepth 100000
set_option maxHeartbeats 1000000
namespace XL
open PySem L2 PyProof.Rows
/-! ### list(range(n)) -/
theorem repPs_rng {K : PySem.W.Frag} {m : List Addr} {H : Hp} (f : Nat → Int) : ∀ l : List Nat, RepPs K m H (l.map fun i => P.int (f i)) (l.map fun i => V.int (f i))
  | [] => RepPs.nil
  | k :: ks => RepPs.cons (by simp [RepP]) (repPs_rng f ks)
section
variable {X : Cx} {a : Expr} {xa : XE} {p p2 q pos : Pos}
theorem xe_listRng (hc : X.calm = true) (hg : Gl X "list") (hm : X.mg "list" = none) (hg2 : Gl X "range") (hm2 : X.mg "range" = none) (ha : PE X a (tOf X.K xa))
    (na : starEach [a] X.env = (false, eval a X.env) :: starEach [] X.env := by rfl) : PE X (.Call (.Name "list" p) [.Call (.Name "range" p2) [a] [] q] [] pos) (tOf X.K (xUn uListRng xa)) :=
  PE.imp (pe_listRg hc hg hm (prg_1 hg2 hm2 ha na)) fun σ H Q h => by
    obtain ⟨m, G, ρ, S, r, S', hE, hS, hx, k⟩ := h.un
    refine ⟨m, G, ρ, S, r, S', hE, hS, hx, fun v m' H' s1 hS1 q1 o1 => ?_⟩
    obtain ⟨m2, G2, S2, d, r2, hS2, hd, hf2, k2⟩ := k v m' H' s1 hS1 q1 o1
    unfold uListRng at hf2
    split at hf2
    · rename_i n
      split at hf2
      · rename_i hb
        cases hf2
        simp only [RdT, RepP] at hd
        subst hd
        have hbg : (big : Int) = 1000000 := rfl
        refine ⟨n, rfl, ⟨by omega, by omega, by omega, by omega, by omega⟩, fun q' hq' => ?_⟩
        have rr : RepPs X.K (m2 ++ G2) H' ((List.range n.toNat).map fun i => P.int (i : Nat)) (rgV 0 n) := by
          unfold rgV
          have : (n - 0).toNat = n.toNat := by rw [Int.sub_zero]
          rw [this]
          have e2 : (fun i : Nat => V.int (0 + (i : Nat))) = fun i : Nat => V.int ((i : Nat) : Int) := by funext i; rw [Int.zero_add]
          rw [e2]
          exact repPs_rng (fun i => (i : Int)) _
        have ex := Ext.new (o := .lst (rgV 0 n)) hq'
        exact k2 _ _ ex ⟨_, _, rfl, hS2.fresh hq', upd_same, RepPs.step (Step.of_ext ex) _ _ rr⟩ (own_new hS2 hq' rr)
      · cases hf2
    · cases hf2
end
/-! ### tables of the module: texts as keys -/
def KRep (K : PySem.W.Frag) (p : P) (u : Value) : Prop := ∃ v, RelV v u ∧ ∀ m H, RepP K m H p v
theorem KRep.str {K : PySem.W.Frag} {s : List Nat} {x : Str} {t : Tok} (h : x = ⟨s.toArray⟩) : KRep K (.str s) (.str x t) := ⟨.str ⟨s.toArray⟩, ⟨t, by rw [h]⟩, fun m H => by simp [RepP]⟩
theorem KRep.int {K : PySem.W.Frag} {i : Int} {t : Tok} : KRep K (.int i) (.int i t) := ⟨.int i, ⟨t, rfl⟩, fun m H => by simp [RepP]⟩
def KReps (K : PySem.W.Frag) : List P → List Value → Prop
  | [], us => us = []
  | p :: ps, us => ∃ u r, us = u :: r ∧ KRep K p u ∧ KReps K ps r
theorem KReps.all {K : PySem.W.Frag} : ∀ {ps : List P} {us : List Value}, KReps K ps us → ∃ vs, Vals vs us ∧ ∀ m H, RepPs K m H ps vs
  | [], us, h => by cases h; exact ⟨[], .nil, fun _ _ => RepPs.nil⟩
  | p :: ps, us, h => by
    obtain ⟨u, r, rfl, ⟨v, h1, h2⟩, h3⟩ := h
    obtain ⟨vs, h4, h5⟩ := KReps.all h3
    exact ⟨v :: vs, .cons h1 h4, fun m H => RepPs.cons (h2 m H) (h5 m H)⟩
theorem KRep.tup {K : PySem.W.Frag} {ps : List P} {a : Addr} {o : Obj} {its : Array Value} {n : Nat} (h : K.lookup a = some o) (hc : o.cls = .type "tuple") (hd : o.data = .seq its n) (hz : its.size ≤ sizeLine) (q : KReps K ps its.toList) : KRep K (.tup ps) (.ref a) := by
  obtain ⟨vs, h4, h5⟩ := q.all
  refine ⟨.ref a, rfl, fun m H => ?_⟩
  simp only [RepP]
  exact ⟨a, vs, rfl, .inr ⟨o, its, n, h, hc, hd, hz, h4⟩, h5 m H⟩
def TabEs (K : PySem.W.Frag) : List DictEntry → Tab → Prop
  | [], t => t = []
  | e :: es, t => ∃ s p r, t = (s, p) :: r ∧ (∃ x tok, e.key = .str x tok ∧ x = ⟨s.toArray⟩) ∧ KRep K p e.val ∧ TabEs K es r
structure TabAt (K : PySem.W.Frag) (w : World) (d : Addr) (t : Tab) : Prop where
  ok : ∃ es n, KDict K w d es n ∧ TabEs K es.toList t
theorem str_beq {s t : List Nat} : ((⟨s.toArray⟩ : Str) == ⟨t.toArray⟩) = (s == t) := by
  by_cases h : s = t
  · subst h; simp
  · have h1 : (s == t) = false := by simpa using h
    have h2 : ((⟨s.toArray⟩ : Str) == ⟨t.toArray⟩) = false := by
      rw [beq_eq_false_iff_ne]
      intro z
      exact h (by simpa using congrArg (fun x : Str => x.cps.toList) z)
    rw [h1, h2]
theorem tabEs_find {K : PySem.W.Frag} {s : List Nat} : ∀ {es : List DictEntry} {t : Tab}, TabEs K es t → (∀ p, t.lookup s = some p → ∃ e, es.find? (·.key.isStr ⟨s.toArray⟩) = some e ∧ KRep K p e.val) ∧ (t.lookup s = none → es.find? (·.key.isStr ⟨s.toArray⟩) = none ∧ es.any (·.refKey) = false)
  | [], t, h => by
    cases h
    exact ⟨fun p h => by simp at h, fun _ => ⟨rfl, rfl⟩⟩
  | e :: es, t, h => by
    obtain ⟨s', p', r, rfl, ⟨x, tok, hk, hx⟩, hv, hr⟩ := h
    obtain ⟨i1, i2⟩ := tabEs_find (s := s) hr
    have e1 : e.key.isStr ⟨s.toArray⟩ = (s == s') := by
      rw [hk, hx]
      show Value.isStr (.str _ _) _ = _
      simp only [Value.isStr]
      first
        | exact str_beq
        | (rw [str_beq, Bool.eq_iff_iff]; simp only [beq_iff_eq]; exact eq_comm)
    have e2 : e.refKey = false := by
      simp only [DictEntry.refKey, hk]
    rw [List.lookup_cons, List.find?_cons, e1]
    cases q : s == s' with
    | true => exact ⟨fun p h => by cases h; exact ⟨e, rfl, hv⟩, fun h => by simp at h⟩
    | false =>
      refine ⟨i1, fun h => ?_⟩
      obtain ⟨j1, j2⟩ := i2 h
      exact ⟨j1, by rw [List.any_cons, e2, j2]; rfl⟩
theorem tab_ns {K : PySem.W.Frag} {w : World} {d : Addr} {es : Array DictEntry} {n : Nat} {t : Tab} (D : KDict K w d es n) (q : TabEs K es.toList t) (s : List Nat) : (∀ p, t.lookup s = some p → ∃ u, PySem.W.nsIn K d ⟨s.toArray⟩ = some (some u) ∧ KRep K p u) ∧ (t.lookup s = none → PySem.W.nsIn K d ⟨s.toArray⟩ = some none) := by
  obtain ⟨h1, h2⟩ := tabEs_find (s := s) q
  have hl := D.at_
  refine ⟨fun p h => ?_, fun h => ?_⟩
  · obtain ⟨e, he, hv⟩ := h1 p h
    refine ⟨e.val, ?_, hv⟩
    unfold PySem.W.nsIn
    rw [hl]
    simp only [he]
  · obtain ⟨h3, h4⟩ := h2 h
    unfold PySem.W.nsIn
    rw [hl]
    simp only [h3, h4, Bool.false_eq_true, if_false]
section
variable {X : Cx} {a : Expr} {xa : XE} {p p2 q pos : Pos} {d : Addr} {t : Tab} {c : Str}
theorem un_rule {xa : XE} {f : P → Option R} {σ : L2.St} {H : Hp} {Q : VK} {T : VK} (h : tOf X.K (xUn f xa) σ H Q) (w : ∀ v H1, uOf X.K f v H1 Q → T v H1) : tOf X.K xa σ H T := by
  obtain ⟨m, G, ρ, S, r, S', hE, hS, hx, k⟩ := h.un
  exact ⟨m, G, ρ, S, r, S', hE, hS, hx, fun v m' H' s1 hS1 q1 o1 => w v H' (k v m' H' s1 hS1 q1 o1)⟩
theorem xe_inTab (T : TabAt X.K X.w d t) (hg : Gl X c) (hm : X.mg c = some (.ref d)) (ha : PE X a (tOf X.K xa)) (hdb : (c == ("__debug__" : Str)) = false := by decide) : PE X (.Compare a [.In] [.Name c p] pos) (tOf X.K (xUn (tabIn t) xa)) := by
  obtain ⟨es, n, D, q⟩ := T.ok
  refine PE.imp (pe_cmpR (op_in_kd D) ha (pe_glob (v := .ref d) hg hm rfl hdb) rfl) fun σ H Q h => un_rule h fun v H1 hu => ?_
  obtain ⟨m, G, S, pp, r, hS, hp, hf, k⟩ := hu
  unfold tabIn at hf
  split at hf
  · rename_i s
    cases hf
    simp only [RdT, RepP] at hp
    subst hp
    obtain ⟨i1, i2⟩ := tab_ns D q s
    cases e : t.lookup s with
    | none => exact ⟨_, none, rfl, rfl, i2 e, by rw [e] at k; exact k _ H1 (Ext.refl _) (by simp [RepR, RepP]) trivial⟩
    | some p0 =>
      obtain ⟨u, hu, _⟩ := i1 p0 e
      exact ⟨_, some u, rfl, rfl, hu, by rw [e] at k; exact k _ H1 (Ext.refl _) (by simp [RepR, RepP]) trivial⟩
  · cases hf
theorem xe_ixTab (T : TabAt X.K X.w d t) (hg : Gl X c) (hm : X.mg c = some (.ref d)) (ha : PE X a (tOf X.K xa)) (hs : PlainIx a) (hdb : (c == ("__debug__" : Str)) = false := by decide) : PE X (.Subscript (.Name c p) a pos) (tOf X.K (xUn (tabGet t) xa)) := by
  obtain ⟨es, n, D, q⟩ := T.ok
  refine PE.imp (pe_ix ix_kdict (pe_glob (v := .ref d) hg hm rfl hdb) ha hs) fun σ H Q h => un_rule h fun v H1 hu => ?_
  obtain ⟨m, G, S, pp, r, hS, hp, hf, k⟩ := hu
  unfold tabGet at hf
  split at hf
  · rename_i s
    simp only [Option.map_eq_some_iff] at hf
    obtain ⟨p0, e, rfl⟩ := hf
    simp only [RdT, RepP] at hp
    subst hp
    obtain ⟨u, hu, v, rv, rp⟩ := (tab_ns D q s).1 p0 e
    exact ⟨d, _, v, rfl, rfl, ⟨es, n, u, D.at_, D.lit, hu, rv⟩, k v H1 (Ext.refl _) (rp _ _) trivial⟩
  · cases hf
/-- a text of the module -/
theorem xe_globS {s : List Nat} {x : Str} {tk : Tok} (hg : Gl X c) (hm : X.mg c = some (.str x tk)) (h : x = ⟨s.toArray⟩) (hdb : (c == ("__debug__" : Str)) = false := by decide) : PE X (.Name c p) (tOf X.K (xC (.str s))) :=
  xe_C (pe_glob (v := .str ⟨s.toArray⟩) hg hm ⟨tk, by rw [h]⟩ hdb) (fun m H => by simp [RepP])
end
end XL
end
section
set_option Elab.async false
set_option linter.all false
set_option maxRecDepth 100000
set_option maxHeartbeats 1000000
namespace XL
open PySem L2 PyProof.Rows
theorem xi_any {X : Cx} {tg e : Expr} {xa : XE} (he : PE X e (tOf X.K xa)) : PI X tg e (iOf X.K (xItA xa)) := by
  refine ⟨fun pins s σ H R I h => ?_⟩
  obtain ⟨m, G, ρ, S, ds, lc, S', hE, hS, hx, k⟩ := h
  unfold xItA at hx
  split at hx
  · exact (xi_str he).run pins s σ H R I ⟨m, G, ρ, S, ds, lc, S', hE, hS, hx, k⟩
  · exact (xi_seq he).run pins s σ H R I ⟨m, G, ρ, S, ds, lc, S', hE, hS, hx, k⟩
/-! ### names of the module -/
structure StrG (mg : Str → Option Value) (c : Str) (s : List Nat) : Prop where
  ok : ∃ x tk, mg c = some (.str x tk) ∧ x = ⟨s.toArray⟩
structure TabG (K : PySem.W.Frag) (w : World) (mg : Str → Option Value) (c : Str) (t : Tab) : Prop where
  ok : ∃ d, mg c = some (.ref d) ∧ TabAt K w d t
section
variable {X : Cx} {a : Expr} {xa : XE} {p pos : Pos} {t : Tab} {c : Str} {s : List Nat}
theorem xe_gS (h : StrG X.mg c s) (hg : Gl X c) (hdb : (c == ("__debug__" : Str)) = false := by decide) : PE X (.Name c p) (tOf X.K (xC (.str s))) := by
  obtain ⟨x, tk, hm, e⟩ := h.ok
  exact xe_globS hg hm e hdb
theorem xe_inT (h : TabG X.K X.w X.mg c t) (hg : Gl X c) (ha : PE X a (tOf X.K xa)) (hdb : (c == ("__debug__" : Str)) = false := by decide) : PE X (.Compare a [.In] [.Name c p] pos) (tOf X.K (xUn (tabIn t) xa)) := by
  obtain ⟨d, hm, T⟩ := h.ok
  exact xe_inTab T hg hm ha hdb
theorem xB_rd {K : PySem.W.Frag} {x : XE} {σ : L2.St} {H : Hp} {Q : Bool → Hp → Prop} (h : tOfT K (xB x) σ H Q) : tOf K x σ H (fun v H' => ∃ k, v = .bl k ∧ Q k H') := by
  obtain ⟨m, G, ρ, S, r, S', hE, hS, hx, k⟩ := h
  simp only [xB, Option.bind_eq_some_iff] at hx
  obtain ⟨⟨r1, S1⟩, h1, hx⟩ := hx
  refine ⟨m, G, ρ, S, r1, S1, hE, hS, h1, fun v1 m1 H1 s1 hS1 q1 _ => ?_⟩
  dsimp only at hx
  split at hx
  · cases hx
    simp only [RepR, RepP] at q1
    exact ⟨_, q1, k m1 H1 s1 hS1⟩
  · cases hx
theorem xt_inT (h : TabG X.K X.w X.mg c t) (hg : Gl X c) (ha : PE X a (tOf X.K xa)) (hdb : (c == ("__debug__" : Str)) = false := by decide) : PT X (.Compare a [.In] [.Name c p] pos) (tOfT X.K (xB (xUn (tabIn t) xa))) := by
  obtain ⟨d, hm, T⟩ := h.ok
  obtain ⟨es, n, D, q⟩ := T.ok
  refine PT.imp (pt_cmpR (op_in_kd D) ha (pe_glob (v := .ref d) hg hm rfl hdb) rfl) fun σ H Q h => un_rule (xB_rd h) fun v H1 hu => ?_
  obtain ⟨m, G, S, pp, r, hS, hp, hf, k⟩ := hu
  unfold tabIn at hf
  split at hf
  · rename_i s
    cases hf
    simp only [RdT, RepP] at hp
    subst hp
    obtain ⟨i1, i2⟩ := tab_ns D q s
    cases e : t.lookup s with
    | none => exact ⟨_, none, rfl, rfl, i2 e, by rw [e] at k; exact k _ H1 (Ext.refl _) (by simp [RepR, RepP]) trivial⟩
    | some p0 =>
      obtain ⟨u, hu, _⟩ := i1 p0 e
      exact ⟨_, some u, rfl, rfl, hu, by rw [e] at k; exact k _ H1 (Ext.refl _) (by simp [RepR, RepP]) trivial⟩
  · cases hf
theorem xe_ixT (h : TabG X.K X.w X.mg c t) (hg : Gl X c) (ha : PE X a (tOf X.K xa)) (hs : PlainIx a) (hdb : (c == ("__debug__" : Str)) = false := by decide) : PE X (.Subscript (.Name c p) a pos) (tOf X.K (xUn (tabGet t) xa)) := by
  obtain ⟨d, hm, T⟩ := h.ok
  exact xe_ixTab T hg hm ha hs hdb
end
/-! ### defs by name -/
structure DefOk (P : Program) (w : World) (K : PySem.W.Frag) (mg : Str → Option Value) (j : Nat) (x : Str) (ps : List Str) (k n : Nat) (b : XS) : Prop where
  ok : ∃ (f : Addr) (fd : FuncData), (∀ base : Heap, FnOk P w K mg base CX0 j f fd ps (spOf K k (mkF k n b))) ∧ mg x = some (.ref f) ∧ PySem.W.keepIn K (.ref f) = true ∧ ∀ us : List Value, us.length = ps.length → bindArgs fd ⟨us, []⟩ = pure (ps.zip us)
section
variable {X : Cx} {e : Expr} {es : List Expr} {x : Str} {ps : List Str} {p pos : Pos} {k j n : Nat} {b : XS} {xs : XD}
theorem xe_defD (D : DefOk X.prog X.w X.K X.mg j x ps k n b) (hr : Room j X.A) (hg : Gl X x) (ha : PA X (e :: es) (tOfD X.K xs)) (hdb : (x == ("__debug__" : Str)) = false := by decide)
    (he : starEach (e :: es) X.env = (false, eval e X.env) :: starEach es X.env := by rfl) (hpl : (backTo pos (starEach es X.env)).any (·.1) = false := by rfl) : PE X (.Call (.Name x p) (e :: es) [] pos) (tOf X.K (xDef (mkF k n b) xs)) := by
  obtain ⟨f, fd, F, hm, hk, hb⟩ := D.ok
  exact xe_def (F _) hr hg hm hk (.all hb) ha hdb he hpl
theorem xe_defD0 (D : DefOk X.prog X.w X.K X.mg j x ps k n b) (hr : Room j X.A) (hg : Gl X x) (hdb : (x == ("__debug__" : Str)) = false := by decide) : PE X (.Call (.Name x p) [] [] pos) (tOf X.K (xDef (mkF k n b) xNilD)) := by
  obtain ⟨f, fd, F, hm, hk, hb⟩ := D.ok
  exact xe_def0 (F _) hr hg hm hk (.all hb) hdb
end
/-- what the top has written of a def -/
structure FunAt (K : PySem.W.Frag) (mg : Str → Option Value) (x : Str) (st : Stmt) (ps : List Str) : Prop where
  ok : ∃ (f : Addr) (fd : FuncData), Fun K x x st f fd ∧ mg x = some (.ref f) ∧ PySem.W.keepIn K (.ref f) = true ∧ ∀ us : List Value, us.length = ps.length → bindArgs fd ⟨us, []⟩ = pure (ps.zip us)
theorem def_ok {Pg : Program} {w : World} {K : PySem.W.Frag} {mg : Str → Option Value} {x : Str} {st : Stmt} {N ps : List Str} {j k n : Nat} {b : XS} (F : FunAt K mg x st ps) (Sc : FnScope N ps (defScope st)) (hk : ps.length = k) (hn : N.length = n)
    (hb : ∀ (base : Heap) (f : Addr) (cdv : Value) (A : Around) (outer : List PySem.Env) (s : Shared) (H : Hp) (E : XK), Room j (A.deeper (envOfC x (defScope st) s.heap.objs.size f cdv)) → PSs (cxOf CX0 Pg w K mg base N x (defScope st) f cdv A outer s H E).nox (defBody st) (tOfS K b)) :
    DefOk Pg w K mg (j + 1) x ps k n b := by
  subst hk hn
  obtain ⟨f, fd, F, h1, h2, h3⟩ := F.ok
  exact ⟨f, fd, fun base => ok_def F Sc (fun cdv A outer s H E => hb base f cdv A outer s H E), h1, h2, h3⟩
theorem fun_at {K : PySem.W.Frag} {h : Heap} {mg : Str → Option Value} (X : K.In h) (G : h.Ns mainGlobals mg) {x : Str} {st : Stmt} {ps : List Str} {f : Addr} {oc : Value} {od an : Option Addr} {osl : Array (Option Value)} {kV doc pm cdv ct : Value}
    (a : PySem.W.nsIn K mainGlobals x = some (some (.ref f))) (l : K.lookup f = some ⟨oc, od, .func (PySem.W.fnOf x x (defArgs st) (defBody st) (defScope st) .none kV doc pm an cdv ct), osl⟩) (c : PySem.W.codeIn K cdv x = true) (k : PySem.W.keepIn K (.ref f) = true)
    (hb : ∀ (us : List Value), us.length = ps.length → bindArgs (PySem.W.fnOf x x (defArgs st) (defBody st) (defScope st) .none kV doc pm an cdv ct) ⟨us, []⟩ = pure (ps.zip us)) : FunAt K mg x st ps :=
  ⟨f, _, fun_mk (st := st) l c k, PySem.W.mg_of X G a, k, hb⟩
theorem str_at {K : PySem.W.Frag} {h : Heap} {mg : Str → Option Value} (X : K.In h) (G : h.Ns mainGlobals mg) {c : Str} {x : Str} {tk : Tok} {s : List Nat} (a : PySem.W.nsIn K mainGlobals c = some (some (.str x tk))) (e : x = ⟨s.toArray⟩) : StrG mg c s := ⟨x, tk, PySem.W.mg_of X G a, e⟩
theorem tab_at {K : PySem.W.Frag} {w : World} {h : Heap} {mg : Str → Option Value} (X : K.In h) (G : h.Ns mainGlobals mg) {c : Str} {d : Addr} {es : Array DictEntry} {n : Nat} {t : Tab} (a : PySem.W.nsIn K mainGlobals c = some (some (.ref d))) (l : K.lookup d = some ⟨.type "dict", none, .dict es n, #[]⟩)
    (kl : PySem.W.KeysLit w.params es.toList) (lo : (d == sysModules) = false) (te : TabEs K es.toList t) : TabG K w mg c t := ⟨d, PySem.W.mg_of X G a, ⟨es, n, ⟨l, kl, lo⟩, te⟩⟩
theorem law_fin {Pg : Program} {w : World} {K : PySem.W.Frag} {mg : Str → Option Value} {fa : Addr} {j n : Nat} {b : XS} {nm : Str} (hmg : mg nm = some (.ref fa)) (D : DefOk Pg w K mg j nm ["script"] 1 n b) :
    ∃ fd : FuncData, (∀ (s : Shared) (u : Value), BindsTo s fd ⟨[u], []⟩ [("script", u)]) ∧ ∀ base : Heap, K.In base → base.Ns mainGlobals mg → FnOk Pg w K mg base CX0 j fa fd ["script"] (spOf K 1 (mkF 1 n b)) := by
  obtain ⟨f, fd, F, hm, hk, hb⟩ := D.ok
  rw [hmg] at hm
  cases hm
  exact ⟨fd, fun s u => .of_eq (hb [u] rfl), fun base _ _ => F base⟩
theorem rm64 {A : Around} {k : Nat} (hr : Room k A) : A.units + 64 < cLine := hr.units
theorem rm65 {A : Around} {k : Nat} (hr : Room k A) : A.units + 65 < cLine := by have := hr.un; omega
/-! ### the end -/
def NoL (K : PySem.W.Frag) : Prop := (K.all fun p => !(p.2.cls == Value.type "list")) = true
theorem noL_lookup {K : PySem.W.Frag} (h : NoL K) {a : Addr} {o : Obj} (e : K.lookup a = some o) : o.cls ≠ .type "list" := by
  have hm : (a, o) ∈ K := by
    revert e
    clear h
    induction K with
    | nil => intro e; cases e
    | cons p r ih =>
      intro e
      obtain ⟨b, x⟩ := p
      rw [List.lookup_cons] at e
      split at e
      · rename_i q
        cases e
        have : a = b := by simpa using q
        subst this
        exact List.mem_cons_self
      · exact List.mem_cons_of_mem _ (ih e)
  have := List.all_eq_true.mp h _ hm
  intro z
  simp [z] at this
theorem script_rep {K : PySem.W.Frag} {H : Hp} : ∀ ns : List Int, RepPs K [] H (ns.map P.int) (ns.map V.int)
  | [] => RepPs.nil
  | n :: ns => RepPs.cons (by simp [RepP]) (script_rep ns)
theorem law_walk {l : PySem.W.OpenLaw} {k n : Nat} {q : Program} {loose : List Str} {XP : (Str → Option Value) → Heap → Prop} {YP : World → Heap → Prop} {d : DefRec} {K : Params → PySem.W.Frag} {f : XF}
    (hn : l.most = some n) (hn2 : n ≤ 63) (hdf : d.params.defaults = []) (hr : Room k callerA) (hY : ∀ (w : World) (h : Heap), YP w h → (K w.params).In h) (hL : ∀ P : Params, NoL (K P))
    (F : ∀ (w : World) (mg : Str → Option Value) (fa : Addr) (h : Heap), (K w.params).In h → h.Ns mainGlobals mg → mg d.name = some (.ref fa) →
      ∃ fd : FuncData, (∀ (s : Shared) (u : Value), BindsTo s fd ⟨[u], []⟩ [("script", u)]) ∧ ∀ base : Heap, (K w.params).In base → base.Ns mainGlobals mg → FnOk l.prog w (K w.params) mg base CX0 k fa fd ["script"] (spOf (K w.params) 1 f))
    (law : ∀ ns : List Int, ns.length ≤ 63 → ∃ S, f [.p (.lst (ns.map P.int))] [] = some (.p (.bl true), S)) :
    PySem.W.WalkO q loose XP YP l.row.toRowW d [] (fun f vs => PySem.call f vs) := by
  refine L2.walk_of (n := n) (k := k) (x := "script") (CX := fun _ => CX0) (sp := fun w => spOf (K w.params) 1 f) hn (Nat.le_trans hn2 (by decide)) hdf hr hY F (fun w H a ns hl hO hS => ?_) fun _ _ _ _ _ z => z
  obtain ⟨S, e⟩ := law ns (Nat.le_trans hl hn2)
  have hr : Rd H a (.lst (ns.map V.int)) := by
    rcases hS with h | ⟨o, its, m, h1, h2, _⟩
    · exact h
    · exact absurd h2 (noL_lookup (hL w.params) h1)
  refine ⟨[], [], [], [.p (.lst (ns.map P.int))], _, S, rfl, ⟨rfl, List.nodup_nil, fun l a c h => by simp at h, fun a h => by simp at h⟩, ?_, e, fun v H' _ _ q _ => ?_⟩
  · refine ⟨.ref a, [], rfl, ?_, rfl⟩
    simp only [RepD, RepP]
    exact ⟨a, _, rfl, .inl ⟨hr, by simp⟩, script_rep ns⟩
  · simpa only [RepR, RepP] using q
end XL
end
section
set_option Elab.async false
set_option linter.all false
set_option maxRecDepth 100000
set_option maxHeartbeats 1000000
namespace XL
open PySem L2 PyProof.Rows
/-! ### dicts with plain keys -/
theorem keyP_inj {a b : P} {k : Key} (h1 : keyP a = some k) (h2 : keyP b = some k) : a = b := by
  rw [← pOfKey_keyP h1, ← pOfKey_keyP h2]
theorem keyOk_some {p : P} (h : keyOkP p = true) : ∃ k, keyP p = some k := by
  cases p <;> simp [keyOkP] at h <;> exact ⟨_, rfl⟩
theorem kV_rep {K : PySem.W.Frag} {m : List Addr} {H : Hp} {p : P} {v : V} {k : Key} (h : RdT K m H p v) (e : keyP p = some k) : v = kV k := by
  cases p <;> simp [keyP] at e <;> subst e <;> simp only [RdT, RepP] at h <;> subst h <;> rfl
section
variable {K : PySem.W.Frag} {m : List Addr} {H : Hp}
theorem look_rep {p : P} {k : Key} (hk : keyP p = some k) : ∀ {kvs : List (P × P)} {ks : List Key} {ws : List V}, (kvs.map (·.1)).map keyP = ks.map some → RepPs K m H (kvs.map (·.2)) ws →
    (∀ d, lookD kvs p = some d → ∃ v, valV (ks.zip ws) k = some v ∧ RepP K m H d v) ∧ (lookD kvs p = none → valV (ks.zip ws) k = none)
  | [], ks, ws, h, r => by
    cases ks with
    | nil => exact ⟨fun d h => by simp [lookD] at h, fun _ => rfl⟩
    | cons _ _ => simp at h
  | (q, e) :: kvs, ks, ws, h, r => by
    cases ks with
    | nil => simp at h
    | cons kq ks =>
      simp only [List.map_cons, List.cons.injEq] at h
      simp only [List.map_cons, RepPs] at r
      obtain ⟨v, w, rfl, r1, r2⟩ := r
      obtain ⟨i1, i2⟩ := look_rep hk h.2 r2
      by_cases c : q = p
      · subst c
        have e0 : kq = k := Option.some.inj (h.1.symm.trans hk)
        subst e0
        have e1 : lookD ((q, e) :: kvs) q = some e := by simp [lookD]
        have e2 : valV ((kq :: ks).zip (v :: w)) kq = some v := by simp [valV]
        rw [e1, e2]
        exact ⟨fun d hd => by cases hd; exact ⟨v, rfl, r1⟩, fun h => by cases h⟩
      · have c2 : kq ≠ k := fun z => c (keyP_inj (z ▸ h.1) hk)
        have e1 : lookD ((q, e) :: kvs) p = lookD kvs p := by simp [lookD, List.find?_cons, c]
        have e2 : valV ((kq :: ks).zip (v :: w)) k = valV (ks.zip w) k := by simp [valV, List.find?_cons, c2]
        rw [e1, e2]
        exact ⟨i1, i2⟩
theorem put_rep {p d : P} {k : Key} {v : V} (hk : keyP p = some k) (hd : RepP K m H d v) : ∀ {kvs : List (P × P)} {ks : List Key} {ws : List V}, (kvs.map (·.1)).map keyP = ks.map some → RepPs K m H (kvs.map (·.2)) ws →
    ∃ (ks' : List Key) (ws' : List V), putK (ks.zip ws) k v = ks'.zip ws' ∧ ((putD kvs p d).map (·.1)).map keyP = ks'.map some ∧ RepPs K m H ((putD kvs p d).map (·.2)) ws' := by
  intro kvs ks ws h r
  have anyE : ∀ {kvs : List (P × P)} {ks : List Key} {ws : List V}, (kvs.map (·.1)).map keyP = ks.map some → RepPs K m H (kvs.map (·.2)) ws → ((ks.zip ws).any fun kv => decide (kv.1 = k)) = (kvs.any fun kv => decide (kv.1 = p)) := by
    intro kvs
    induction kvs with
    | nil => intro ks ws h r; cases ks with
      | nil => rfl
      | cons _ _ => simp at h
    | cons q kvs ih =>
      intro ks ws h r
      cases ks with
      | nil => simp at h
      | cons kq ks =>
        simp only [List.map_cons, List.cons.injEq] at h
        simp only [List.map_cons, RepPs] at r
        obtain ⟨u, w, rfl, r1, r2⟩ := r
        simp only [List.zip_cons_cons, List.any_cons, ih h.2 r2]
        congr 1
        rw [decide_eq_decide]
        exact ⟨fun z => keyP_inj (z ▸ h.1) hk, fun z => by rw [z, hk] at h; exact (Option.some.inj h.1).symm⟩
  unfold putK putD
  rw [anyE h r]
  split
  · rename_i c
    have mapE : ∀ {kvs : List (P × P)} {ks : List Key} {ws : List V}, (kvs.map (·.1)).map keyP = ks.map some → RepPs K m H (kvs.map (·.2)) ws → ∃ ws', ((ks.zip ws).map fun kv => if kv.1 = k then (kv.1, v) else kv) = ks.zip ws' ∧ RepPs K m H ((kvs.map fun kv => if kv.1 = p then (kv.1, d) else kv).map (·.2)) ws' ∧ ((kvs.map fun kv => if kv.1 = p then (kv.1, d) else kv).map (·.1)).map keyP = ks.map some := by
      intro kvs
      induction kvs with
      | nil => intro ks ws h r; cases ks with
        | nil => exact ⟨[], rfl, RepPs.nil, rfl⟩
        | cons _ _ => simp at h
      | cons q kvs ih =>
        intro ks ws h r
        cases ks with
        | nil => simp at h
        | cons kq ks =>
          simp only [List.map_cons, List.cons.injEq] at h
          simp only [List.map_cons, RepPs] at r
          obtain ⟨u, w, rfl, r1, r2⟩ := r
          obtain ⟨ws', e1, e2, e3⟩ := ih h.2 r2
          by_cases c : q.1 = p
          · have c2 : kq = k := by rw [c, hk] at h; exact (Option.some.inj h.1).symm
            refine ⟨v :: ws', ?_, ?_, ?_⟩
            · simp only [List.zip_cons_cons, List.map_cons, c2, if_true, e1]
            · simp only [List.map_cons, c, if_true]; exact RepPs.cons hd e2
            · simp only [List.map_cons, c, if_true, e3, List.cons.injEq, and_true]; rw [← c]; exact h.1
          · have c2 : kq ≠ k := fun z => c (keyP_inj (z ▸ h.1) hk)
            refine ⟨u :: ws', ?_, ?_, ?_⟩
            · simp only [List.zip_cons_cons, List.map_cons, c2, if_false, e1]
            · simp only [List.map_cons, c, if_false]; exact RepPs.cons r1 e2
            · simp only [List.map_cons, c, if_false, e3, List.cons.injEq, and_true]; exact h.1
    obtain ⟨ws', e1, e2, e3⟩ := mapE h r
    exact ⟨ks, ws', e1, e3, e2⟩
  · refine ⟨ks ++ [k], ws ++ [v], ?_, ?_, ?_⟩
    · have hl : ks.length = ws.length := by
        have a := congrArg List.length h
        simp only [List.length_map] at a
        have b := r.length
        simp only [List.length_map] at b
        omega
      rw [List.zip_append hl]; rfl
    · simp only [List.map_append, List.map_cons, List.map_nil, h, hk]
    · simp only [List.map_append, List.map_cons, List.map_nil]; exact r.append (RepPs.one hd)
end
theorem dict_of {K : PySem.W.Frag} {G m : List Addr} {S : Sto} {H : Hp} {r : R} {v : V} {kvs : List (P × P)} (hS : RepSt K G m S H) (q : RepR K G m H r v) (hc : r.dict S = some (false, kvs)) : ∃ (a : Addr) (ks : List Key) (ws : List V), v = .ref a ∧ Rd H a (.dK (ks.zip ws)) ∧ (kvs.map (·.1)).map keyP = ks.map some ∧ RepPs K (m ++ G) H (kvs.map (·.2)) ws := by
  cases r with
  | ref l =>
    simp only [R.dict] at hc
    split at hc
    · rename_i lk t kvs' h
      cases hc
      obtain ⟨a, rfl, hl⟩ := q
      obtain ⟨ws, o, z, ho, hr⟩ := hS.cell l a _ hl h
      cases lk with
      | false => obtain ⟨ks, e, rfl⟩ := ho; exact ⟨a, ks, ws, rfl, .inl z, e, hr⟩
      | true => obtain ⟨ob, u, rfl, ks, e, rfl⟩ := ho; exact ⟨a, ks, ws, rfl, .inr ⟨ob, z⟩, e, hr⟩
    · cases hc
  | p d => simp [R.dict] at hc
  | frl d => simp [R.dict] at hc
  | frd t d => simp [R.dict] at hc
section
variable {X : Cx} {o i e : Expr} {xo xi xe : XE} {pos tpos : Pos}
theorem xe_newD : PE X (.Dict [] [] pos) (tOf X.K (xNewD false)) := PE.imp pe_dnewK fun σ H Q h => by
  obtain ⟨m, G, ρ, S, r, S', hE, hS, hx, k⟩ := h
  cases hx
  intro p hp
  have ex := Ext.new (o := .dK []) hp
  have hh : HoOf (.dct false false []) [] (.dK []) := ⟨[], rfl, rfl⟩
  refine k _ m _ (Step.of_ext ex) (hS.ext ex) ⟨p, rfl, hS.fresh hp, [], .dK [], upd_same, hh, RepPs.nil⟩ (own_newD hS hp hh RepPs.nil)
theorem xe_getD (hu : X.A.units + 64 < cLine) (ho : PE X o (tOf X.K xo)) (hi : PE X i (tOf X.K xi)) (hs : NoSl i) : PE X (.Subscript o i pos) (tOf X.K (xGetD xo xi)) := PE.imp (pe_dget (by omega) ho hi hs) fun σ H Q h => by
  obtain ⟨m, G, ρ, S, r, S', hE, hS, hx, k⟩ := h
  simp only [xGetD, Option.bind_eq_some_iff] at hx
  obtain ⟨⟨r1, S1⟩, h1, ⟨r2, S2⟩, h2, ⟨t, kvs⟩, hd, p, hp, hx⟩ := hx
  split at hx
  · rename_i hc
    simp only [Bool.and_eq_true, Bool.not_eq_true'] at hc
    obtain ⟨hc1, rfl⟩ := hc
    simp only [Option.map_eq_some_iff] at hx
    obtain ⟨v0, hv0, e⟩ := hx
    cases e
    obtain ⟨ky, hky⟩ := keyOk_some hc1
    refine ⟨m, G, ρ, S, r1, S1, hE, hS, h1, fun v1 m1 H1 s1 hS1 q1 _ => ⟨m1, G, ρ, S1, r2, _, hE.step s1, hS1, h2, fun v2 m2 H2 s2 hS2 q2 _ => ?_⟩⟩
    obtain ⟨a, ks, ws, rfl, hR, hks, hws⟩ := dict_of hS2 (q1.step s2) hd
    obtain ⟨w, hw, rw'⟩ := (look_rep hky hks hws).1 v0 hv0
    exact ⟨a, w, rfl, .inl ⟨_, ky, hR, kV_rep (q2.rd hS2 hp) hky, hw.symm⟩, k w m2 H2 (s1.trans s2) hS2 rw' trivial⟩
  · cases hx
theorem pc_inD (hu : X.A.units + 64 < cLine) (hi : PE X i (tOf X.K xi)) (ho : PE X o (tOf X.K xo)) : PC X .In i o (tOf X.K (xInD false xi xo)) := by
  have base := pc_din (X := X) (show X.A.units + 1 < cLine by omega) hi ho
  refine ⟨fun pins s σ H Q I h => base.run pins s σ H Q I ?_⟩
  obtain ⟨m, G, ρ, S, r, S', hE, hS, hx, k⟩ := h
  simp only [xInD, Option.bind_eq_some_iff] at hx
  obtain ⟨⟨r2, S1⟩, h1, ⟨r1, S2⟩, h2, ⟨t, kvs⟩, hd, p, hp, hx⟩ := hx
  split at hx
  · rename_i hc
    simp only [Bool.and_eq_true, Bool.not_eq_true'] at hc
    obtain ⟨hc1, rfl⟩ := hc
    cases hx
    obtain ⟨ky, hky⟩ := keyOk_some hc1
    refine ⟨m, G, ρ, S, r2, S1, hE, hS, h1, fun v2 m1 H1 s1 hS1 q2 _ => ⟨m1, G, ρ, S1, r1, S2, hE.step s1, hS1, h2, fun v1 m2 H2 s2 hS2 q1 _ => ?_⟩⟩
    obtain ⟨a, ks, ws, rfl, hR, hks, hws⟩ := dict_of hS2 q1 hd
    obtain ⟨l1, l2⟩ := look_rep hky hks hws
    refine ⟨a, valV (ks.zip ws) ky, rfl, .inl ⟨_, ky, hR, kV_rep ((q2.step s2).rd hS2 hp) hky, rfl⟩, ?_⟩
    have : (valV (ks.zip ws) ky).isSome = (lookD kvs p).isSome := by
      cases c : lookD kvs p with
      | none => rw [l2 c]; rfl
      | some d => obtain ⟨v, hv, _⟩ := l1 d c; rw [hv]; rfl
    rw [this]
    exact k _ m2 H2 (s1.trans s2) hS2 (by simp [RepR, RepP]) trivial
  · cases hx
theorem pc_notInD (hu : X.A.units + 64 < cLine) (hi : PE X i (tOf X.K xi)) (ho : PE X o (tOf X.K xo)) : PC X .NotIn i o (tOf X.K (xInD true xi xo)) := by
  have base := pc_dnotin (X := X) (show X.A.units + 1 < cLine by omega) hi ho
  refine ⟨fun pins s σ H Q I h => base.run pins s σ H Q I ?_⟩
  obtain ⟨m, G, ρ, S, r, S', hE, hS, hx, k⟩ := h
  simp only [xInD, Option.bind_eq_some_iff] at hx
  obtain ⟨⟨r2, S1⟩, h1, ⟨r1, S2⟩, h2, ⟨t, kvs⟩, hd, p, hp, hx⟩ := hx
  split at hx
  · rename_i hc
    simp only [Bool.and_eq_true, Bool.not_eq_true'] at hc
    obtain ⟨hc1, rfl⟩ := hc
    cases hx
    obtain ⟨ky, hky⟩ := keyOk_some hc1
    refine ⟨m, G, ρ, S, r2, S1, hE, hS, h1, fun v2 m1 H1 s1 hS1 q2 _ => ⟨m1, G, ρ, S1, r1, S2, hE.step s1, hS1, h2, fun v1 m2 H2 s2 hS2 q1 _ => ?_⟩⟩
    obtain ⟨a, ks, ws, rfl, hR, hks, hws⟩ := dict_of hS2 q1 hd
    obtain ⟨l1, l2⟩ := look_rep hky hks hws
    refine ⟨a, valV (ks.zip ws) ky, rfl, .inl ⟨_, ky, hR, kV_rep ((q2.step s2).rd hS2 hp) hky, rfl⟩, ?_⟩
    have : (valV (ks.zip ws) ky).isSome = (lookD kvs p).isSome := by
      cases c : lookD kvs p with
      | none => rw [l2 c]; rfl
      | some d => obtain ⟨v, hv, _⟩ := l1 d c; rw [hv]; rfl
    rw [this]
    exact k _ m2 H2 (s1.trans s2) hS2 (by simp [RepR, RepP]) trivial
  · cases hx
theorem RepSt.putC {K : PySem.W.Frag} {G m : List Addr} {H : Hp} {S : Sto} (hS : RepSt K G m S H) {l : Nat} {a : Addr} {c : Cell} {ho ho0 : HO} {vs : List V} (hl : m[l]? = some a) (hw : H a = some ho0) (hz : ∀ o u, ho0 ≠ .frz o u) (hh : HoOf c vs ho) (q : RepPs K (m ++ G) H c.vals vs) : RepSt K G m (S.set l c) (upd H a ho) := by
  have ha : a ∈ m := List.mem_of_getElem? hl
  have st : Step m H m (upd H a ho) := Step.write ha fun o u z => by rw [hw] at z; exact hz o u (Option.some.inj z)
  have hlm : l < m.length := (List.getElem?_eq_some_iff.mp hl).1
  refine ⟨by rw [List.length_set]; exact hS.len, hS.nd, fun j b c' hj hc => ?_, fun b hb => ⟨fun z => (hS.gd b hb).1 (st.dom b z), (hS.gd b hb).2⟩⟩
  by_cases e : j = l
  · subst e
    rw [hl] at hj
    cases hj
    rw [List.getElem?_set_self (by rw [← hS.len]; exact hlm)] at hc
    cases hc
    exact ⟨vs, ho, upd_same, hh, RepPs.step st _ _ q⟩
  · rw [List.getElem?_set_ne (Ne.symm e)] at hc
    have hne : b ≠ a := fun z => by
      subst z
      exact e ((List.getElem?_inj (List.getElem?_eq_some_iff.mp hj).1 hS.nd).mp (hj.trans hl.symm))
    obtain ⟨vs', o', h1, kk, h2⟩ := hS.cell j b c' hj hc
    exact ⟨vs', o', by rw [upd_ne hne]; exact h1, kk, RepPs.step st _ _ h2⟩
theorem xs_putD (hu : X.A.units + 64 < cLine) (he : PE X e (tOf X.K xe)) (ho : PE X o (tOf X.K xo)) (hi : PE X i (tOf X.K xi))
    (hs : swapsWithSole [.Subscript o i tpos] e pos.line X.env = pure false := by rfl) (hw : swappedStores [.Subscript o i tpos] e X.env = pure none := by rfl)
    (h1 : (assignEach [.Subscript o i tpos] X.env).map (·.2) = [assign (.Subscript o i tpos) X.env] := by rfl)
    (hasg : ∀ v, assign (.Subscript o i tpos) X.env v = (do
      let ov ← holding [v] (eval o X.env)
      let iv ← holding [v, ov] (eval i X.env)
      standAt tpos
      holding [v, ov, iv] (setItem ov iv v)
      release [v, ov, iv] []) := by intro _; rfl) : PS X (.Assign [.Subscript o i tpos] e pos) (tOfS X.K (xPutD xe xo xi)) :=
  PS.imp (ps_asg he (pg_sub ho hi (set_dict (show X.A.units + 1 < cLine by omega)) hasg) hs hw h1) fun D σ H h => by
    obtain ⟨m, G, ρ, S, fl, S', hE, hS, hx, k⟩ := h
    simp only [xPutD, Option.bind_eq_some_iff] at hx
    obtain ⟨⟨r0, S0⟩, h0, ⟨r1, S1⟩, h1, ⟨r2, S2⟩, h2, hx⟩ := hx
    split at hx
    · rename_i l e1
      simp only at e1
      subst e1
      split at hx
      · rename_i kvs hc
        simp only [Option.bind_eq_some_iff] at hx
        obtain ⟨d, hd, p, hp, hx⟩ := hx
        split at hx
        · rename_i hcc
          simp only [Bool.and_eq_true, decide_eq_true_eq] at hcc
          cases hx
          obtain ⟨ky, hky⟩ := keyOk_some hcc.1
          refine ⟨m, G, ρ, S, r0, S0, hE, hS, h0, fun v0 m0 H0 s0 hS0 q0 _ => ⟨m0, G, ρ, S0, _, S1, hE.step s0, hS0, h1, fun v1 m1 H1 s1 hS1 q1 _ => ⟨m1, G, ρ, S1, _, S2, (hE.step s0).step s1, hS1, h2, fun v2 m2 H2 s2 hS2 q2 _ => ?_⟩⟩⟩
          obtain ⟨a, rfl, hl⟩ := q1.step s2
          obtain ⟨ws, ob, z, ⟨ks, hks, rfl⟩, hws⟩ := hS2.cell l a _ hl hc
          obtain ⟨ks', ws', e1, e2, e3⟩ := put_rep hky ((q0.step (s1.trans s2)).fz hd) hks hws
          have hlen : (ks.zip ws).length < sizeLine := by
            have a1 := hws.length
            simp only [Cell.vals, List.length_map] at a1
            have : (ks.zip ws).length ≤ ws.length := by rw [List.length_zip]; exact Nat.min_le_right _ _
            have hb : kvs.length < sizeLine := Nat.lt_of_lt_of_le hcc.2 (by decide)
            omega
          have hh : HoOf (.dct false false (putD kvs p d)) ws' (.dK (ks'.zip ws')) := ⟨ks', e2, rfl⟩
          have st : Step m2 H2 m2 (upd H2 a (.dK (ks'.zip ws'))) := Step.write (List.mem_of_getElem? hl) fun o u y => by rw [z] at y; cases y
          refine ⟨a, upd H2 a (.dK (ks'.zip ws')), rfl, .inl ⟨ks.zip ws, ky, z, kV_rep (q2.rd hS2 hp) hky, hlen, by rw [e1]⟩, ?_⟩
          exact k σ m2 _ (((s0.trans s1).trans s2).trans st) (hS2.putC hl z (fun o u y => by cases y) hh e3) ((((hE.step s0).step s1).step s2).step st)
        · cases hx
      · cases hx
    · cases hx
end
end XL
end
section
set_option Elab.async false
set_option linter.all false
set_option maxRecDepth 100000
set_option maxHeartbeats 1000000
namespace XL
open PySem L2 PyProof.Rows
section
variable {K : PySem.W.Frag} {G m : List Addr} {H : Hp} {S : Sto}
/-! ### locking a dict -/
theorem dictU_mut {t : Bool} {ks : List P} {ws : List V} {u : HO} (h : DictU t ks ws u) : Mut (some u) := by
  cases t with
  | false => obtain ⟨k, _, rfl⟩ := h; trivial
  | true => obtain ⟨k, _, rfl⟩ := h; trivial
theorem dictU_nofrz {t : Bool} {ks : List P} {ws : List V} {u : HO} (h : DictU t ks ws u) : ∀ o w, u ≠ .frz o w := by
  intro o w e
  subst e
  cases t with
  | false => obtain ⟨k, _, e⟩ := h; cases e
  | true => obtain ⟨k, _, e⟩ := h; cases e
/-- a cell's object is exchanged for one with the same values -/
theorem RepSt.swap (hS : RepSt K G m S H) {l : Nat} {a : Addr} {c : Cell} {ho : HO} {vs : List V} (hl : m[l]? = some a) (hh : HoOf c vs ho) (q : RepPs K (m ++ G) H c.vals vs) : RepSt K G m (S.set l c) (upd H a ho) := by
  have ha : a ∈ m := List.mem_of_getElem? hl
  have hlm : l < m.length := (List.getElem?_eq_some_iff.mp hl).1
  have mv : ∀ (ds : List P) (ws : List V), RepPs K (m ++ G) H ds ws → RepPs K (m ++ G) (upd H a ho) ds ws :=
    (RepP.move (G := G) (G' := G) (m := m) (m' := m) (fun b o e hm => by
      rw [upd_ne (fun z : b = a => hm (List.mem_append_left _ (z ▸ ha)))]; exact e) (fun b hb => .inl hb)).2
  refine ⟨by rw [List.length_set]; exact hS.len, hS.nd, fun j b c' hj hc => ?_, fun b hb => ⟨fun z => ?_, (hS.gd b hb).2⟩⟩
  · by_cases e : j = l
    · subst e
      rw [hl] at hj
      cases hj
      rw [List.getElem?_set_self (by rw [← hS.len]; exact hlm)] at hc
      cases hc
      exact ⟨vs, ho, upd_same, hh, mv _ _ q⟩
    · rw [List.getElem?_set_ne (Ne.symm e)] at hc
      have hne : b ≠ a := fun z => by
        subst z
        exact e ((List.getElem?_inj (List.getElem?_eq_some_iff.mp hj).1 hS.nd).mp (hj.trans hl.symm))
      obtain ⟨vs', o', h1, kk, h2⟩ := hS.cell j b c' hj hc
      exact ⟨vs', o', by rw [upd_ne hne]; exact h1, kk, mv _ _ h2⟩
  · by_cases c : b = a
    · subst c; rw [upd_same] at z; cases z
    · rw [upd_ne c] at z; exact (hS.gd b hb).1 z
theorem RepE.swap {ρ : Env} {σ : L2.St} {a : Addr} {ho : HO} (hE : RepE K G m H ρ σ) (ha : a ∈ m) : RepE K G m (upd H a ho) ρ σ :=
  ⟨hE.len, fun i d e => by
    obtain ⟨v, hv, q⟩ := hE.slot i d e
    refine ⟨v, hv, ?_⟩
    cases d with
    | p d => exact (RepP.move (G := G) (G' := G) (m := m) (m' := m) (fun b o e hm => by
        rw [upd_ne (fun z : b = a => hm (List.mem_append_left _ (z ▸ ha)))]; exact e) (fun b hb => .inl hb)).1 d v q
    | ref l => exact q⟩
/-- the dict's keys, walked while it is locked -/
theorem itok_dict {a : Addr} {l : Nat} {ob : Obj} {kvs : List (P × P)} {ks : List Key} {ws : List V} (hm : m[l]? = some a) (hH : H a = some (.frz ob (.dK (ks.zip ws)))) (hk : (kvs.map (·.1)).map keyP = ks.map some) (hl : ks.length = ws.length) :
    ItOk K G m H (kvs.map (·.1)) (some l) S (Itk a ob (ks.zip ws)) := by
  have len : (kvs.map (·.1)).length = (ks.zip ws).length := by
    have := congrArg List.length hk
    simp only [List.length_map] at this
    rw [List.length_map, List.length_zip]; omega
  refine ⟨fun i d G1 m1 H1 S1 hd s hg hS _ => ?_, fun i d G1 m1 H1 S1 x H2 hd s hg hS _ hy => ?_, fun G1 m1 H1 S1 s hg hS _ => ?_⟩
  · exact ⟨s.fz _ _ _ hH, by rw [← len]; exact (List.getElem?_eq_some_iff.mp hd).1⟩
  · obtain ⟨rfl, k, v, e, rfl⟩ := hy
    refine ⟨Ext.refl _, ?_⟩
    have hz := List.getElem?_zip_eq_some.mp e
    have e2 : keyP d = some k := by
      have h1 : ((kvs.map (·.1)).map keyP)[i]? = some (keyP d) := by rw [List.getElem?_map, hd]; rfl
      rw [hk, List.getElem?_map, hz.1] at h1
      exact (Option.some.inj h1).symm
    cases d <;> simp [keyP] at e2 <;> subst e2 <;> simp [RepP, kV]
  · exact ⟨s.fz _ _ _ hH, by rw [len]; exact Nat.le_refl _⟩
theorem Step.unlock {m' : List Addr} {H' : Hp} {a : Addr} {od : Obj} {u : HO} (s : Step m (upd H a (.frz od u)) m' H') (ha : a ∈ m) (hu : H a = some u) (hz : ∀ o w, u ≠ .frz o w) : Step m H m' (upd H' a u) := by
  obtain ⟨t, rfl, ht⟩ := s.pre
  have ne : ∀ b, upd H a (.frz od u) b = none → H b = none := fun b e => by
    by_cases c : b = a
    · subst c; rw [upd_same] at e; cases e
    · rw [upd_ne c] at e; exact e
  refine ⟨⟨t, rfl, fun b hb => ne b (ht b hb)⟩, fun b o e hm => ?_, fun b e => ?_, fun b o w e => ?_⟩
  · have c : b ≠ a := fun z => hm (z ▸ ha)
    rw [upd_ne c]
    exact s.keep b o (by rw [upd_ne c]; exact e) hm
  · by_cases c : b = a
    · subst c; rw [upd_same] at e; cases e
    · rw [upd_ne c] at e; exact ne b (s.dom b e)
  · have c : b ≠ a := fun z => by subst z; rw [hu] at e; exact hz o w (Option.some.inj e)
    rw [upd_ne c]
    exact s.fz b o w (by rw [upd_ne c]; exact e)
theorem RepR.swap {r : R} {v : V} {a : Addr} {ho : HO} (h : RepR K G m H r v) (ha : a ∈ m) : RepR K G m (upd H a ho) r v := by
  have mv := RepP.move (K := K) (H := H) (H' := upd H a ho) (G := G) (G' := G) (m := m) (m' := m) (fun b o e hm => by
      rw [upd_ne (fun z : b = a => hm (List.mem_append_left _ (z ▸ ha)))]; exact e) (fun b hb => .inl hb)
  cases r with
  | p d => exact mv.1 d v h
  | ref l => exact h
  | frl ds =>
    obtain ⟨b, vs, e, nm, hb, q⟩ := h
    exact ⟨b, vs, e, nm, by rw [upd_ne (fun z : b = a => nm (List.mem_append_left _ (z ▸ ha)))]; exact hb, mv.2 ds vs q⟩
  | frd t kvs =>
    obtain ⟨b, e, nm, ws, o, hb, ho, q⟩ := h
    exact ⟨b, e, nm, ws, o, by rw [upd_ne (fun z : b = a => nm (List.mem_append_left _ (z ▸ ha)))]; exact hb, ho, mv.2 _ ws q⟩
theorem unlock_cell {l : Nat} {a : Addr} {od : Obj} {u : HO} {t : Bool} {kvs : List (P × P)} (hS : RepSt K G m S H) (hl : m[l]? = some a) (hc : S[l]? = some (.dct true t kvs)) (hH : H a = some (.frz od u)) : RepSt K G m (S.set l (.dct false t kvs)) (upd H a u) := by
  obtain ⟨ws, o, e, ⟨ob, u', rfl, hd⟩, r⟩ := hS.cell l a _ hl hc
  rw [hH] at e
  cases e
  exact hS.swap hl hd r
theorem Own.unlock {r : R} {v : V} {H0 Hl : Hp} {l : Nat} {a : Addr} {od : Obj} {u : HO} {t : Bool} {kvs : List (P × P)} (o : Own K Hl G m H S r v) (h0 : ∀ b, Hl b = none → H0 b = none) (hS : RepSt K G m S H) (hl : m[l]? = some a) (hc : S[l]? = some (.dct true t kvs)) (hH : H a = some (.frz od u)) : Own K H0 G m (upd H a u) (S.set l (.dct false t kvs)) r v := by
  have hlm : l < m.length := (List.getElem?_eq_some_iff.mp hl).1
  have hlS : l < S.length := (List.getElem?_eq_some_iff.mp hc).1
  have key : ∀ (b : Addr) (c : Cell), RepSt K G (m ++ [b]) (S ++ [c]) H → RepSt K G (m ++ [b]) (S.set l (.dct false t kvs) ++ [c]) (upd H a u) := fun b c q => by
    have := unlock_cell (l := l) (a := a) (od := od) (u := u) (t := t) (kvs := kvs) q (by rw [List.getElem?_append_left hlm]; exact hl) (by rw [List.getElem?_append_left hlS]; exact hc) hH
    rwa [List.set_append_left _ _ hlS] at this
  cases r with
  | p d => trivial
  | ref l => trivial
  | frl ds => obtain ⟨b, e, hb, q⟩ := o; exact ⟨b, e, h0 b hb, key b _ q⟩
  | frd t' kvs' => obtain ⟨b, e, hb, q⟩ := o; exact ⟨b, e, h0 b hb, key b _ q⟩
end
section
variable {X : Cx} {st : Stmt} {e : Expr} {i : Nat}
theorem lock_none {H : Hp} {a : Addr} {od : Obj} {u : HO} : ∀ b, upd H a (.frz od u) b = none → H b = none := fun b e => by
  by_cases c : b = a
  · subst c; rw [upd_same] at e; cases e
  · rw [upd_ne c] at e; exact e
theorem xs_lock {x : XS} (h : PS X st (tOfS X.K x)) : PS X st (tOfS X.K (xLockS i x)) := PS.imp (ps_lock h) fun D σ H hx => by
  obtain ⟨m, G, ρ, S, fl, S', hE, hS, hx, k⟩ := hx
  unfold xLockS at hx
  split at hx
  · rename_i l hi
    split at hx
    · rename_i t kvs hc
      simp only [Option.bind_eq_some_iff] at hx
      obtain ⟨⟨f1, S1⟩, h1, hx⟩ := hx
      split at hx
      · rename_i hc1
        cases hx
        obtain ⟨v, hv, a, rfl, hl⟩ := hE.slot i _ hi
        have ha : a ∈ m := List.mem_of_getElem? hl
        obtain ⟨ws, u, hu, hd, r⟩ := hS.cell l a _ hl hc
        have hz := dictU_nofrz hd
        refine ⟨a, u, hu, dictU_mut hd, fun od => ?_⟩
        refine ⟨m, G, ρ, S.set l (.dct true t kvs), f1, S1, hE.swap ha, hS.swap hl (c := .dct true t kvs) ⟨od, u, rfl, hd⟩ r, h1, ?_⟩
        cases f1 with
        | nx ρ' => exact fun σ' m' H' s hS' hE' => ⟨s.fz _ _ _ upd_same, k σ' m' _ (s.unlock ha hu hz) (unlock_cell hS' (s.get hl) hc1 (s.fz _ _ _ upd_same)) (hE'.swap (List.mem_of_getElem? (s.get hl)))⟩
        | bk ρ' => exact fun σ' m' H' s hS' hE' => ⟨s.fz _ _ _ upd_same, k σ' m' _ (s.unlock ha hu hz) (unlock_cell hS' (s.get hl) hc1 (s.fz _ _ _ upd_same)) (hE'.swap (List.mem_of_getElem? (s.get hl)))⟩
        | ct ρ' => exact fun σ' m' H' s hS' hE' => ⟨s.fz _ _ _ upd_same, k σ' m' _ (s.unlock ha hu hz) (unlock_cell hS' (s.get hl) hc1 (s.fz _ _ _ upd_same)) (hE'.swap (List.mem_of_getElem? (s.get hl)))⟩
        | rt r1 => exact fun v m' H' s hS' q o => ⟨s.fz _ _ _ upd_same, k v m' _ (s.unlock ha hu hz) (unlock_cell hS' (s.get hl) hc1 (s.fz _ _ _ upd_same)) (q.swap (List.mem_of_getElem? (s.get hl))) (o.unlock lock_none hS' (s.get hl) hc1 (s.fz _ _ _ upd_same))⟩
      · cases hx
    · cases hx
  · cases hx
theorem xe_lock {x : XE} (h : PE X e (tOf X.K x)) : PE X e (tOf X.K (xLockE i x)) := PE.imp (pe_lock h) fun σ H Q hx => by
  obtain ⟨m, G, ρ, S, rr, S', hE, hS, hx, k⟩ := hx
  unfold xLockE at hx
  split at hx
  · rename_i l hi
    split at hx
    · rename_i t kvs hc
      simp only [Option.bind_eq_some_iff] at hx
      obtain ⟨⟨f1, S1⟩, h1, hx⟩ := hx
      split at hx
      · rename_i hc1
        cases hx
        obtain ⟨v, hv, a, rfl, hl⟩ := hE.slot i _ hi
        have ha : a ∈ m := List.mem_of_getElem? hl
        obtain ⟨ws, u, hu, hd, r⟩ := hS.cell l a _ hl hc
        have hz := dictU_nofrz hd
        refine ⟨a, u, hu, dictU_mut hd, fun od => ?_⟩
        refine ⟨m, G, ρ, S.set l (.dct true t kvs), f1, S1, hE.swap ha, hS.swap hl (c := .dct true t kvs) ⟨od, u, rfl, hd⟩ r, h1, fun v m' H' s hS' q o => ?_⟩
        exact ⟨s.fz _ _ _ upd_same, k v m' _ (s.unlock ha hu hz) (unlock_cell hS' (s.get hl) hc1 (s.fz _ _ _ upd_same)) (q.swap (List.mem_of_getElem? (s.get hl))) (o.unlock lock_none hS' (s.get hl) hc1 (s.fz _ _ _ upd_same))⟩
      · cases hx
    · cases hx
  · cases hx
theorem xi_keys {tg : Expr} {x : Str} {p : Pos} (h : PE X (.Name x p) (tVar i)) : PI X tg (.Name x p) (iOf X.K (xItL i)) := PI.imp (pi_keys h) fun σ H R hx => by
  obtain ⟨m, G, ρ, S, ds, lc, S', hE, hS, hx, k⟩ := hx
  unfold xItL at hx
  split at hx
  · rename_i l hi
    split at hx
    · rename_i kvs hc
      cases hx
      obtain ⟨v, hv, a, rfl, hl⟩ := hE.slot i _ hi
      obtain ⟨ws, o, hu, ⟨ob, u, rfl, ks, hk, rfl⟩, r⟩ := hS.cell l a _ hl hc
      have hlen : ks.length = ws.length := by
        have a1 := congrArg List.length hk
        have a2 := r.length
        simp only [List.length_map, Cell.vals] at a1 a2
        omega
      exact ⟨.ref a, hv, a, ob, rfl, .inl ⟨_, hu, k m H _ Step.refl hS (itok_dict hl hu hk hlen)⟩⟩
    · cases hx
  · cases hx
end
end XL
end
section
set_option Elab.async false
set_option linter.all false
set_option maxRecDepth 100000
set_option maxHeartbeats 1000000
namespace XL
open PySem L2 PyProof.Rows PySem.W
section
variable {X : Cx} {o : Expr} {xo : XE} {p pos : Pos}
theorem xe_lenD (hg : Gl X "len") (hm : X.mg "len" = none) (ho : PE X o (tOf X.K xo)) (hs : starEach [o] X.env = (false, eval o X.env) :: starEach [] X.env := by rfl) (hpl : (backTo pos (starEach [] X.env)).any (·.1) = false := by rfl) :
    PE X (.Call (.Name "len" p) [o] [] pos) (tOf X.K (xLenD xo)) :=
  PE.imp (pe_callB call_lenD hg hm boot_len (pa_cons ho pa_nil hs) (he := hs) (hpl := hpl)) fun σ H Q h => by
    obtain ⟨m, G, ρ, S, r, S', hE, hS, hx, k⟩ := h
    simp only [xLenD, Option.bind_eq_some_iff] at hx
    obtain ⟨⟨r1, S1⟩, h1, hx⟩ := hx
    split at hx
    · rename_i l e1
      simp only at e1
      subst e1
      split at hx
      · rename_i kvs hc
        cases hx
        refine ⟨m, G, ρ, S, _, _, hE, hS, h1, fun v m' H' s1 hS1 q1 _ => ?_⟩
        obtain ⟨a, rfl, hl⟩ := q1
        obtain ⟨ws, o, hu, ⟨ks, hk, rfl⟩, r⟩ := hS1.cell l a _ hl hc
        have hlen : (ks.zip ws).length = kvs.length := by
          have a1 := congrArg List.length hk
          have a2 := r.length
          simp only [List.length_map, Cell.vals] at a1 a2
          rw [List.length_zip]; omega
        exact ⟨a, _, rfl, hu, by rw [hlen]; exact k _ m' H' s1 hS1 (by simp [RepR, RepP]) trivial⟩
      · cases hx
    · cases hx
/-- the keys of a dict, sorted: texts alone, or ints alone -/
theorem sortedKeys {pins : List (Addr × Obj)} {s : Shared} {σ : L2.St} {H : Hp} {a : Addr} {kvs : List (Key × V)} {Q : VK} (hcalm : X.calm = true) (hu : X.A.units + 64 < cLine) (I : Inv X pins σ H s) (hd : Rd H a (.dK kvs)) (hb : kvs.length ≤ 4000)
    (al : ∀ x ∈ kvs.map (·.1), ∀ y ∈ kvs.map (·.1), PySem.W.alike (pdK x) (pdK y) = true) (q : ∀ p, H p = none → Q (.ref p) (upd H p (.lst ((sortG ltK (kvs.map (·.1))).map vK)))) :
    wpAny (model X.prog X.w) X.A (call (.builtin "sorted") [.ref a]) (EP X pins σ Q) X.xe s := by
  obtain ⟨z, lo, vs, rel, dd⟩ := dk_rd I.hok hd
  obtain ⟨ep, hat⟩ := dd.dictAt
  have hkeys : vs.map (·.1) = kvs.map (·.1) := rel.keys.symm
  have hl : vs.length = kvs.length := by
    have e := congrArg List.length hkeys
    rw [List.length_map, List.length_map] at e
    exact e
  have h16 : vs.length ≤ sizeLine := by rw [hl, sizeLine_eq]; omega
  refine Calls.call_function_entry PyProof.Rows.kind_sorted PyProof.Rows.plain_sorted PyProof.Rows.entry_sorted (PyProof.Rows.args_sorted1 _) ?_
  unfold Builtin.«sorted»
  refine wpAny_bind (m := checkCount "sorted" 1 1 _) (wpAny_pure ?_)
  refine wpAny_bind (PySem.W.kdu_collect (A := X.A.in1) (PySem.W.kdl_dict (knd := mixKind X.prog X.w) (kvs := vs) (ep := ep) lo) (I.ok.hd hcalm) hat h16 fun h' tk acc hk hacc => ?_)
  have hal : acc.toList.length = kvs.length := by rw [Array.length_toList, hacc.1, hl]
  have ee : EachIs (fun u k => keyV u = some k) acc.toList (kvs.map (·.1)) := by
    have gen : ∀ (us : List Value) (ks : List Key), us.length = ks.length → (∀ (j : Nat) (v : Value), us[j]? = some v → ∃ k, ks[j]? = some k ∧ keyV v = some k) → EachIs (fun u k => keyV u = some k) us ks := by
      intro us
      induction us with
      | nil => intro ks h _; cases ks with
        | nil => exact .nil
        | cons _ _ => simp at h
      | cons u us ih =>
        intro ks h f
        cases ks with
        | nil => simp at h
        | cons k ks =>
          obtain ⟨k', e1, e2⟩ := f 0 u rfl
          cases e1
          exact .cons e2 (ih ks (by simpa using h) fun j v e => f (j + 1) v e)
    refine gen _ _ (by rw [List.length_map]; exact hal) fun j v e => ?_
    obtain ⟨k, x, e1, e2⟩ := hacc.2 j v (by rw [← Array.getElem?_toList]; exact e)
    refine ⟨k, ?_, keyV_is.mpr e2⟩
    rw [← hkeys, List.getElem?_map, e1]; rfl
  have I1 : Inv X pins σ H { s with heap := h', toks := tk } := I.kept hk
  refine wpAny_bind (wpAny_newList ?_ (by rw [hal, sizeLine_eq]; omega))
  have hoL : (h'.push (seqObj "list" acc.toList.toArray 0)).get? h'.objs.size = some (seqObj "list" acc.toList.toArray 0) := Heap.get?_push_size _ rfl
  show wpAny _ _ _ _ _ { s with heap := h'.push (seqObj "list" acc.toList.toArray 0), toks := tk }
  refine wpAny_bind (wpAny_holding (list_sort_data (s := { s with heap := h'.push (seqObj "list" acc.toList.toArray 0), toks := tk }) (enc := pdK) hoL ee (ee.mono fun u k h => ⟨[], reads_key h, by simp⟩) ?_ ?_ ?_ ?_ fun out ho eo => ?_))
  · intro d hd' d2 hd2
    obtain ⟨x, hx, rfl⟩ := List.mem_map.mp hd'
    obtain ⟨y, hy, rfl⟩ := List.mem_map.mp hd2
    exact al x hx y hy
  · refine .inr fun d hd' => ?_
    obtain ⟨x, hx, rfl⟩ := List.mem_map.mp hd'
    cases x <;> simp [pdK, pOfKey, toPD]
  · rw [List.length_map, sizeLine_eq]; omega
  · intro k _
    have : (pdK k).depth = 0 := by cases k <;> rfl
    rw [this]
    have : X.A.in1.units = X.A.units + 1 := rfl
    omega
  · obtain ⟨c, hc⟩ := PyProof.Rows.sortedHeap_at (vs := acc.toList) (out := out.toArray) hoL
    rw [sortG_data] at eo
    change EachIs _ out (sortG ltK (kvs.map (·.1))) at eo
    have hlen : ((sortG ltK (kvs.map (·.1))).map vK).length ≤ sizeLine := by
      rw [List.length_map, ← EachIs.length eo, ho, List.length_map, sizeLine_eq]; omega
    refine wpAny_pure ⟨_, rfl, .ref h'.objs.size, _, I1.laid (t' := tk) (fun b u e => ?_) (Nat.le_refl _)
      (show ObjOk X.prog X.w _ _ _ (.lst ((sortG ltK (kvs.map (·.1))).map vK)) from ⟨hlen, out, c, vals_keys eo, hc⟩), rfl, q _ (I1.hok.fresh (Nat.le_refl _))⟩
    have hb : b < h'.objs.size := Heap.lt_size e
    show (sortedHeap (h'.push (seqObj "list" acc.toList.toArray 0)) h'.objs.size acc.toList out.toArray).get? b = some u
    rw [PyProof.Rows.sortedHeap_old (Nat.ne_of_lt hb) (by rw [size_push']; exact Nat.lt_succ_of_lt hb)]
    exact Heap.get?_push_of_some _ e
theorem xe_sortedD (hcalm : X.calm = true) (hu : X.A.units + 64 < cLine) (hg : Gl X "sorted") (hm : X.mg "sorted" = none) (ho : PE X o (tOf X.K xo)) (hs : starEach [o] X.env = (false, eval o X.env) :: starEach [] X.env := by rfl) (hpl : (backTo pos (starEach [] X.env)).any (·.1) = false := by rfl) :
    PE X (.Call (.Name "sorted" p) [o] [] pos) (tOf X.K (xSortedD xo)) := by
  have hc : CallR X (.builtin "sorted") (fun xs H Q => ∃ (a : Addr) (kvs : List (Key × V)), xs = [.ref a] ∧ Rd H a (.dK kvs) ∧ kvs.length ≤ 4000 ∧ (∀ x ∈ kvs.map (·.1), ∀ y ∈ kvs.map (·.1), PySem.W.alike (pdK x) (pdK y) = true) ∧ ∀ p, H p = none → Q (.ref p) (upd H p (.lst ((sortG ltK (kvs.map (·.1))).map vK)))) := by
    intro pins s σ H xs us Q I r h
    obtain ⟨a, kvs, rfl, h1, h2, h3, h4⟩ := h
    obtain ⟨u, rfl, rx⟩ := vals1 r
    cases rx
    exact sortedKeys hcalm hu I h1 h2 h3 h4
  refine PE.imp (pe_callB hc hg hm boot_sorted (pa_cons ho pa_nil hs) (he := hs) (hpl := hpl)) fun σ H Q h => ?_
  obtain ⟨m, G, ρ, S, r, S', hE, hS, hx, k⟩ := h
  simp only [xSortedD, Option.bind_eq_some_iff] at hx
  obtain ⟨⟨r1, S1⟩, h1, hx⟩ := hx
  split at hx
  · rename_i l e1
    simp only at e1
    subst e1
    split at hx
    · rename_i kvs hc
      split at hx
      · rename_i hcc
        simp only [Bool.and_eq_true, decide_eq_true_eq] at hcc
        cases hx
        refine ⟨m, G, ρ, S, _, _, hE, hS, h1, fun v m' H' s1 hS1 q1 _ => ?_⟩
        obtain ⟨a, rfl, hl⟩ := q1
        obtain ⟨ws, o, hu2, ⟨ks, hk, rfl⟩, r⟩ := hS1.cell l a _ hl hc
        have a1 := congrArg List.length hk
        have a2 := r.length
        simp only [List.length_map, Cell.vals] at a1 a2
        have hz : (ks.zip ws).map (·.1) = ks := List.map_fst_zip (by omega)
        have al : ∀ x ∈ ks, ∀ y ∈ ks, PySem.W.alike (pdK x) (pdK y) = true := by
          obtain ⟨kz, e, al⟩ := keys_of (ds := kvs.map (·.1)) (by rw [hcc.1]; simp)
          have : ks = kz := by
            have h2 := hk.symm.trans e
            exact List.map_inj_right (fun _ _ h => Option.some.inj h) |>.mp h2
          subst this
          exact al
        have er : (sortG ltK ks).map pOfKey = sortP (kvs.map (·.1)) := by
          have e0 : kvs.map (·.1) = ks.map pOfKey := by
            have : ∀ (ds : List P) (ks : List Key), ds.map keyP = ks.map some → ds = ks.map pOfKey := by
              intro ds
              induction ds with
              | nil => intro ks h; cases ks with
                | nil => rfl
                | cons _ _ => simp at h
              | cons d ds ih =>
                intro ks h
                cases ks with
                | nil => simp at h
                | cons k ks =>
                  simp only [List.map_cons, List.cons.injEq] at h
                  rw [List.map_cons, pOfKey_keyP h.1, ← ih ks h.2]
            exact this _ _ hk
          rw [e0, sortP_G, sortG_map (lt := ltK) (lt' := fun a b => dataLt (toPD a) (toPD b)) pOfKey (fun a b => rfl)]
          refine sortG_congr fun x hx y hy => ?_
          obtain ⟨a, ha, rfl⟩ := List.mem_map.mp hx
          obtain ⟨b, hb, rfl⟩ := List.mem_map.mp hy
          refine lt_pd _ _ ?_
          rw [← alike_pd]
          exact al a ha b hb
        refine ⟨a, ks.zip ws, rfl, .inl hu2, by rw [List.length_zip]; omega, by rw [hz]; exact al, fun p' hp' => ?_⟩
        rw [hz]
        have rr : RepPs X.K (m' ++ G) H' (sortP (kvs.map (·.1))) ((sortG ltK ks).map vK) := by rw [← er]; exact repPs_keys _
        have ex := Ext.new (o := .lst ((sortG ltK ks).map vK)) hp'
        exact k _ m' _ (s1.trans (Step.of_ext ex)) (hS1.ext ex) ⟨_, _, rfl, hS1.fresh hp', upd_same, RepPs.step (Step.of_ext ex) _ _ rr⟩ ((own_new hS1 hp' rr).back s1.dom)
      · cases hx
    · cases hx
  · cases hx
end
end XL
end
section
set_option Elab.async false
set_option linter.all false
set_option maxRecDepth 100000
set_option maxHeartbeats 1000000
namespace XL
open PySem L2 PyProof.Rows
section
variable {Pg : Program} {w : World} {A : Around} {E : Value → Shared → Prop} {s : Shared}
/-- list(text) -/
theorem list_str_call {x : Str} {t : Tok} {Q : Value → Shared → Prop} (hh : A.handled = none) (hn : x.cps.size ≤ sizeLine)
    (hQ : ∀ (s' : Shared) (acc : Array Value) (c' : Nat), (∀ b o, s.heap.get? b = some o → s'.heap.get? b = some o) → s'.gens = s.gens → s'.os = s.os → s'.heap.get? s.heap.objs.size = some { cls := .type "list", dict := none, data := .seq acc c', slots := #[] } → ItemsOf (SignAt x) acc x.cps.size → Q (.ref s.heap.objs.size) s') :
    wpAny (model Pg w) A (call (.type "list") [.str x t]) Q E s := by
  refine callType_codes (Q₁ := fun obj s₁ => obj = .ref s.heap.objs.size ∧ s₁ = { s with heap := s.heap.push { cls := .type "list", data := .seq #[] } }) F.called_list (F.typeCall_list_1 _) F.entry_list_init
    (code_list_new _ ⟨rfl, rfl⟩) fun obj s₁ h₁ => ?_
  obtain ⟨rfl, rfl⟩ := h₁
  have hS : (s.heap.push { cls := .type "list", data := .seq #[] }).get? s.heap.objs.size = some { cls := .type "list", data := .seq #[] } := Heap.get?_push_size _ rfl
  refine ⟨⟨_, hS, rfl⟩, F.args_list_init_2 _ _, ?_⟩
  show wpAny _ _ (do let old ← Builtin.List.listItems (.ref s.heap.objs.size); Builtin.List.listUpdate (.ref s.heap.objs.size) (fun _ => #[]); letGo old.toList.reverse; Builtin.List.listExtendWith (.ref s.heap.objs.size) (.str x t) .none) _ _ _
  refine wpAny_bind ?_
  unfold Builtin.List.listItems
  refine wpAny_bind (wpAny_seqItems hS rfl (wpAny_pure ?_))
  show wpAny _ _ (updateSeq s.heap.objs.size (fun _ => #[]) >>= fun _ => letGo (#[] : Array Value).toList.reverse >>= fun _ => Builtin.List.listExtendWith (.ref s.heap.objs.size) (.str x t) .none) _ _ _
  refine wpAny_bind (wpAny_updateSeq hS rfl ?_)
  have hS₂ := Heap.get?_update_self (Obj.mapSeq (fun _ => (#[] : Array Value))) hS rfl
  refine wpAny_bind (wpAny_letGo ?_)
  unfold Builtin.List.listExtendWith
  refine wpAny_bind (wpAny_typeOf (T := "str") (v := .str x t) rfl ?_)
  have h1 : Builtin.List.listSameRef (.ref s.heap.objs.size) (.str x t) = false := rfl
  have h2 : (Value.type "str" == Value.type "list") = false := by decide
  have h3 : (Value.type "str" == Value.type "tuple") = false := by decide
  simp only [h1, h2, h3, Bool.or_false, Bool.false_eq_true, if_false]
  refine wpAny_bind (wpAny_pyIter_str fun o St W hst => ?_)
  refine wpAny_bind (wpAny_holding ?_)
  unfold Builtin.List.listLengthHint
  refine wpAny_bind (wpAny_specialOf (T := "str") (v := .str x t) rfl F.str_len ?_)
  wp_delta
  refine wpAny_bind (wpAny_isInstance (T := "str") (v := .str x t) (b := true) rfl (by rw [isSubtype_type]; kernel_rfl) ?_)
  show wpAny _ _ (typeOf (Value.str x t) >>= _) _ _ _
  refine wpAny_bind (wpAny_typeOf (T := "str") (v := .str x t) rfl ?_)
  refine wpAny_pure ?_
  rw [if_neg (by decide)]
  have size2 : ((s.heap.push { cls := .type "list", data := .seq #[] }).update s.heap.objs.size (Obj.mapSeq (fun _ => (#[] : Array Value)))).objs.size = s.heap.objs.size + 1 := by rw [Heap.size_update, Heap.size_push]
  have oth : ∀ b o, s.heap.get? b = some o → ((s.heap.push { cls := .type "list", data := .seq #[] }).update s.heap.objs.size (Obj.mapSeq (fun _ => (#[] : Array Value)))).get? b = some o :=
    fun b o e => (Heap.get?_update_other _ _ (Nat.ne_of_gt (Heap.lt_size e))).trans (Heap.get?_push_of_some _ e)
  generalize hH : (s.heap.push { cls := .type "list", data := .seq #[] }).update s.heap.objs.size (Obj.mapSeq (fun _ => (#[] : Array Value))) = H at W hst hS₂ size2 oth ⊢
  have hSf : s.heap.objs.size ∉ [H.objs.size] := fun hm => by
    rw [List.mem_singleton.mp hm] at size2
    exact absurd size2 (Nat.ne_of_lt (Nat.lt_succ_self _))
  obtain ⟨c₁, hS3⟩ : ∃ c₁, (H.push o).get? s.heap.objs.size = some { cls := .type "list", data := .seq #[] c₁ } := ⟨_, Heap.get?_push_of_some o hS₂⟩
  refine wpAny_pure ⟨plainId_quiet F.plain_extend_loop _, codeAny_extend_loopS (W A.in1.in1 hh).toS hn _ hSf _ x.cps.size 0 _ _ _ rfl (Nat.zero_le _) hst hS3 (ItemsOf.nil _) fun s' acc' c' hm hS' hacc => ?_⟩
  refine ⟨rfl, hQ s' acc' c' (fun b ob e => hm.heap b ob (fun hb => ?_) (Heap.get?_push_of_some _ (oth b ob e))) hm.gens hm.os hS' hacc⟩
  have hlt := Heap.lt_size e
  rcases List.mem_cons.mp hb with h | h
  · exact absurd hlt (h ▸ Nat.lt_irrefl _)
  · rw [List.mem_singleton.mp h, size2] at hlt; exact absurd hlt (Nat.not_lt.mpr (Nat.le_succ _))
end
theorem vals_signs {x : Str} {acc : Array Value} (h : ItemsOf (SignAt x) acc x.cps.size) : Vals (x.cps.toList.map fun c => V.str ⟨#[c]⟩) acc.toList := by
  have key : ∀ (cs : List Nat) (us : List Value), cs.length = us.length → (∀ (i : Nat) (v : Value), us[i]? = some v → ∃ c u, cs[i]? = some c ∧ v = .str ⟨#[c]⟩ u) → Vals (cs.map fun c => V.str ⟨#[c]⟩) us := by
    intro cs
    induction cs with
    | nil => intro us hl _; cases us with
      | nil => exact .nil
      | cons _ _ => simp at hl
    | cons c cs ih =>
      intro us hl f
      cases us with
      | nil => simp at hl
      | cons u us =>
        obtain ⟨c', t, e, rfl⟩ := f 0 u rfl
        cases e
        exact .cons ⟨t, rfl⟩ (ih us (by simpa using hl) fun i v e => f (i + 1) v e)
  refine key _ _ (by rw [Array.length_toList, Array.length_toList, h.1]) fun i v e => ?_
  obtain ⟨c, u, h1, h2⟩ := h.2 i v (by rw [← Array.getElem?_toList]; exact e)
  exact ⟨c, u, by rw [Array.getElem?_toList]; exact h1, h2⟩
theorem reps_signs {K : PySem.W.Frag} {m : List Addr} {H : Hp} : ∀ s : List Nat, RepPs K m H (s.map fun c => P.str [c]) (s.map fun c => V.str ⟨#[c]⟩)
  | [] => RepPs.nil
  | c :: s => RepPs.cons (by simp [RepP]) (reps_signs s)
section
variable {X : Cx}
theorem cr_listA (hc : X.calm = true) : CallR X (.type "list") (cOf X.K cListA) := fun pins s σ H vs us Q I r h => by
  obtain ⟨m, G, S, ps, r', hS, hp, hf, k⟩ := h
  unfold cListA at hf
  split at hf
  · cases hf
    exact cr_list pins s σ H vs us Q I r ⟨m, G, S, _, _, hS, hp, rfl, k⟩
  · cases hf
    exact cr_list pins s σ H vs us Q I r ⟨m, G, S, _, _, hS, hp, rfl, k⟩
  · rename_i s0
    split at hf
    · rename_i hz
      cases hf
      obtain ⟨v, rfl, q⟩ := one_arg hp
      simp only [RdT, RepP] at q
      subst q
      obtain ⟨u, rfl, t, rfl⟩ := vals1 r
      refine list_str_call (I.ok.hd hc) (by show s0.toArray.size ≤ _; rw [List.size_toArray]; exact big_size hz) fun s' acc c' kk g o hg hi => ?_
      have hv := vals_signs hi
      simp only at hv
      have hn : H s.heap.objs.size = none := I.hok.fresh (Nat.le_refl _)
      have hlen : (s0.map fun c => V.str ⟨#[c]⟩).length ≤ sizeLine := by rw [List.length_map]; exact big_size hz
      have J : Inv X pins σ (upd H s.heap.objs.size (.lst (s0.map fun c => V.str ⟨#[c]⟩))) { s with heap := s'.heap, gens := s'.gens, drawn := s'.drawn, toks := s'.toks } :=
        I.call (ch := []) (Un.laid kk (Nat.le_refl _) hn) (I.hok.laid kk (Nat.le_refl _) ⟨hlen, acc.toList, c', hv, by rw [Array.toArray_toList]; exact hg⟩) (by rw [g]; exact I.bare) (fun _ z => nomatch z)
      have es : s' = { s with heap := s'.heap, gens := s'.gens, drawn := s'.drawn, toks := s'.toks } := by
        cases s'
        cases s
        cases o
        rfl
      rw [es]
      have rr : RepPs X.K (m ++ G) H (s0.map fun c => P.str [c]) (s0.map fun c => V.str ⟨#[c]⟩) := reps_signs s0
      have ex := Ext.new (o := .lst (s0.map fun c => V.str ⟨#[c]⟩)) hn
      exact ⟨.ref _, _, J, rfl, k _ _ ex ⟨_, _, rfl, hS.fresh hn, upd_same, RepPs.step (Step.of_ext ex) _ _ rr⟩ (own_new hS hn rr)⟩
    · cases hf
  · cases hf
/-! ### split -/
theorem spl_splitC (c : Nat) : ∀ (s acc : List Nat), TL.spl [c] 0 acc s = splitC c acc s
  | [], acc => rfl
  | x :: xs, acc => by
    unfold splitC
    by_cases h : x = c
    · subst h
      rw [TL.spl_hit (by simp [TL.pre]), if_pos rfl]
      show acc :: TL.spl [x] 0 [] xs = _
      rw [spl_splitC x xs []]
    · rw [TL.spl_miss (by simp [TL.pre]; omega), if_neg h, spl_splitC c xs]
theorem split_is {s : List Nat} {c : Nat} (hc : c < 128) : Txt.split ⟨s.toArray⟩ ⟨#[c]⟩ = (splitC c [] s).map fun l => (⟨l.toArray⟩ : Str) := by
  have h := TL.split_spl ⟨s.toArray⟩ ⟨#[c]⟩ (by simp [TL.tl]) (by
    have : Builtin.Str.strKind ⟨#[c]⟩ = 1 := by
      unfold Builtin.Str.strKind
      rw [if_pos (by simp; omega)]
    rw [this]
    unfold Builtin.Str.strKind
    split <;> (try split) <;> omega)
  have e1 : TL.tl (⟨#[c]⟩ : Str) = [c] := rfl
  have e2 : TL.tl (⟨s.toArray⟩ : Str) = s := rfl
  rw [e1, e2, spl_splitC] at h
  rw [← h, List.map_map]
  have : (fun l : List Nat => (⟨l.toArray⟩ : Str)) ∘ TL.tl = id := by
    funext x
    cases x
    simp [TL.tl]
  rw [this, List.map_id]
theorem mt_splitX : MtR X "str.split" (mOf X.K mSplit) := mtr_imp mt_split fun v vs H Q h => by
  obtain ⟨m, G, S, p, ps, r, hS, hp, hps, hf, k⟩ := h
  unfold mSplit at hf
  split at hf
  · rename_i s c
    split at hf
    · rename_i hz
      cases hf
      obtain ⟨y, rfl, hy⟩ := one_arg hps
      simp only [RdT, RepP] at hp hy
      subst hp hy
      have hz1 : s.length ≤ 1000000 := hz.1
      refine ⟨_, _, rfl, rfl, rfl, by simp only [Str.length, List.size_toArray]; rw [sizeLine_eq]; omega, fun p' hp' => ?_⟩
      rw [split_is hz.2]
      have rr : RepPs X.K (m ++ G) H ((splitC c [] s).map P.str) (((splitC c [] s).map fun l => (⟨l.toArray⟩ : Str)).map V.str) := by
        generalize splitC c [] s = ls
        induction ls with
        | nil => exact RepPs.nil
        | cons l ls ih => exact RepPs.cons (by simp [RepP]) ih
      have ex := Ext.new (o := .lst (((splitC c [] s).map fun l => (⟨l.toArray⟩ : Str)).map V.str)) hp'
      exact k _ _ ex ⟨_, _, rfl, hS.fresh hp', upd_same, RepPs.step (Step.of_ext ex) _ _ rr⟩ (own_new hS hp' rr)
    · cases hf
  · cases hf
end
end XL
end
section
set_option Elab.async false
set_option linter.all false
set_option maxRecDepth 100000
set_option maxHeartbeats 1000000
namespace XL
open PySem L2 PyProof.Rows
/-! ### a, b, .. = a list -/
section
variable {Pg : Program} {w : World} {A : Around} {E : Value → Shared → Prop} {s : Shared}
theorem draw_list {it l : Addr} {items : Array Value} (hne : l ≠ it) : ∀ (n i : Nat) (s : Shared) (Q : List Value → Shared → Prop), s.heap.IsListIter it l i → s.heap.IsList l items → i + n ≤ items.size →
    (∀ h', h'.IsListIter it l (i + n) → Heap.SameBut it s.heap h' → Q ((items.toList.drop i).take n) { s with heap := h' }) → wpAny (model Pg w) A (draw (.ref it) n) Q E s
  | 0, i, s, Q, hit, _, _, hQ => by
    show wpAny _ _ (pure []) Q E s
    exact wpAny_pure (by simpa using hQ s.heap hit (Heap.SameBut.refl ..))
  | n + 1, i, s, Q, hit, ht, hle, hQ => by
    have hlt : i < items.size := by omega
    show wpAny _ _ (pyNext (.ref it) >>= _) Q E s
    refine wpAny_bind (wpAny_pyNext_list_item hit ht (x := items[i]) (by simp [hlt]) fun h₁ hit₁ hs₁ => ?_)
    have ht₁ : h₁.IsList l items := ht.at fun o e => hs₁.extBut l o hne e
    refine wpAny_bind (wpAny_holding (draw_list hne n (i + 1) _ _ hit₁ ht₁ (by omega) fun h₂ hit₂ hs₂ => wpAny_pure ?_))
    have hd : items.toList.drop i = items[i] :: items.toList.drop (i + 1) := by simp [List.drop_eq_getElem_cons, hlt]
    have := hQ h₂ (by rw [show i + (n + 1) = i + 1 + n by omega]; exact hit₂) (hs₁.trans hs₂)
    rw [hd, List.take_succ_cons] at this
    exact this
theorem unpackItems_list {l : Addr} {items : Array Value} {Q : List Value → Shared → Prop} (hh : A.handled = none) (ht : s.heap.IsList l items)
    (hQ : ∀ h', Heap.ExtBut s.heap.objs.size s.heap h' → Q items.toList { s with heap := h' }) : wpAny (model Pg w) A (unpackItems (.ref l) items.size none) Q E s := by
  have hlt : l ≠ s.heap.objs.size := by obtain ⟨o, ho, _⟩ := ht; exact Nat.ne_of_lt (Heap.lt_size ho)
  unfold unpackItems
  refine wpAny_bind ?_
  unfold notIterableAtAll
  refine wpAny_bind (wpAny_specialOf ht.typeIs PySem.F.slot_list_iter.lookup ?_)
  refine wpAny_pure ?_
  simp only [Bool.false_eq_true, if_false]
  refine wpAny_bind (wpAny_holding (wpAny_pyIter_list ht ?_))
  have ht0 : (s.heap.push { cls := .type "list_iterator", data := .fields #[.ref l, .int 0 0] }).IsList l items := ht.push _
  refine wpAny_bind (wpAny_holding (draw_list hlt items.size 0 _ _ ⟨_, Heap.get?_push_size _ rfl, rfl, rfl⟩ ht0 (by omega) fun h₁ hit₁ hs₁ => ?_))
  have hall : List.take items.size (List.drop 0 items.toList) = items.toList := by
    rw [List.drop_zero]; exact List.take_of_length_le (by simp)
  rw [hall]
  rw [if_neg (by simp)]
  have ht₁ : h₁.IsList l items := ht0.at fun o e => hs₁.extBut l o hlt e
  refine wpAny_bind (wpAny_holding (wpAny_pyNext_list_end hh hit₁ ht₁ (by simp) fun h₂ he₂ => ?_))
  simp only [Option.isSome_none, Bool.false_eq_true, if_false]
  refine wpAny_pure (hQ h₂ fun b o hb e => he₂ b o hb (hs₁.extBut b o hb (Heap.get?_push_of_some _ e)))
theorem assign_Tuple_list {env : PySem.Env} {elts : List Expr} {x1} {pos : Pos} {l : Addr} {items : Array Value} {Q : Unit → Shared → Prop} (hh : A.handled = none) (ht : s.heap.IsList l items)
    (hn : (assignEach elts env).length = items.size) (hstar : (assignEach elts env).findIdx? (·.1) = none)
    (h : ∀ h', Heap.ExtBut s.heap.objs.size s.heap h' → wpAny (model Pg w) A (assignInOrder ((assignEach elts env).map (·.2)) items.toList) Q E { s with heap := h' }) :
    wpAny (model Pg w) A (assign (.Tuple elts x1 pos) env (.ref l)) Q E s := by
  rw [assign_Tuple]
  refine wpAny_bind (wpAny_standAt ?_)
  unfold unpack
  rw [hn, hstar]
  exact wpAny_bind (wpAny_holding (unpackItems_list hh ht h))
end
section
variable {X : Cx} {es : List Expr} {pos tpos : Pos}
theorem xs_unpL {k : Nat} {is : List Nat} {e : Expr} {xa : XE} (hc : X.calm = true) (he : PE X e (tOf X.K xa)) (hg : PGs X es (gsOf X.K is)) (hs : swapsWithSole [.Tuple es k tpos] e pos.line X.env = pure false := by rfl) (hw : swappedStores [.Tuple es k tpos] e X.env = pure none := by rfl)
    (h1 : (assignEach [.Tuple es k tpos] X.env).map (·.2) = [assign (.Tuple es k tpos) X.env] := by rfl) (hn : (assignEach es X.env).length = is.length := by rfl) (hst : (assignEach es X.env).findIdx? (·.1) = none := by rfl) : PS X (.Assign [.Tuple es k tpos] e pos) (tOfS X.K (xUnpL is xa)) := by
  have hG : PG X (.Tuple es k tpos) (fun v σ H Q => ∃ a vs, v = .ref a ∧ Rd H a (.lst vs) ∧ vs.length = is.length ∧ gsOf X.K is vs σ H Q) := by
    refine ⟨fun pins s σ H v u Q I r hw => ?_⟩
    obtain ⟨a, xs, e1, hq, hl, hw⟩ := hw
    subst e1
    cases r
    obtain ⟨z, its, n, rv, eo⟩ := hq.ok I.hok
    refine assign_Tuple_list (I.ok.hd hc) (items := its.toArray) ⟨_, eo, rfl, n, rfl⟩ (by simp [hn, ← hl, rv.length]) hst fun h' hx => ?_
    have I1 : Inv X pins σ H { s with heap := h' } := I.kept (t' := s.toks) fun b o e => hx b o (Nat.ne_of_lt (Heap.lt_size e)) e
    exact hg.run pins _ σ H xs _ Q I1 (by simpa using rv) hw
  refine PS.imp (ps_asg he hG hs hw h1) fun D σ H h => ?_
  obtain ⟨m, G, ρ, S, fl, S', hE, hS, hx, kk⟩ := h
  simp only [xUnpL, Option.bind_eq_some_iff] at hx
  obtain ⟨⟨r1, S1⟩, h1, d, hd, hx⟩ := hx
  split at hx
  · rename_i ds
    simp only [Option.map_eq_some_iff] at hx
    obtain ⟨ρ', hp, e⟩ := hx
    cases e
    refine ⟨m, G, ρ, S, r1, _, hE, hS, h1, fun v m1 H1 s1 hS1 q1 o1 => ?_⟩
    obtain ⟨a, vs, rfl, f, q⟩ := q1.rd hS1 hd
    exact ⟨a, vs, rfl, f, by rw [← q.length]; exact setAll_length hp, m1, G, ρ, ds, ρ', hE.step s1, q, hp, fun σ' hE' _ => kk σ' m1 H1 s1 hS1 hE'⟩
  · cases hx
end
end XL
end
section
set_option Elab.async false
set_option linter.all false
set_option maxRecDepth 100000
set_option maxHeartbeats 1000000
namespace XL
open PySem L2 PyProof.Rows
section
variable {X : Cx} {i o : Expr} {xi xo : XE} {pos : Pos}
theorem xe_inD (hu : X.A.units + 64 < cLine) (hi : PE X i (tOf X.K xi)) (ho : PE X o (tOf X.K xo)) (hm : behindInMarks .In o = false) : PE X (.Compare i [.In] [o] pos) (tOf X.K (xInD false xi xo)) := pe_cmp (pc_inD hu hi ho) hm
theorem xe_notInD (hu : X.A.units + 64 < cLine) (hi : PE X i (tOf X.K xi)) (ho : PE X o (tOf X.K xo)) (hm : behindInMarks .NotIn o = false) : PE X (.Compare i [.NotIn] [o] pos) (tOf X.K (xInD true xi xo)) := pe_cmp (pc_notInD hu hi ho) hm
theorem xt_inD (hu : X.A.units + 64 < cLine) (hi : PE X i (tOf X.K xi)) (ho : PE X o (tOf X.K xo)) (hm : behindInMarks .In o = false) : PT X (.Compare i [.In] [o] pos) (tOfT X.K (xB (xInD false xi xo))) := PT.imp (pt_cmp (pc_inD hu hi ho) hm) fun σ H Q h => xB_rd h
theorem xt_notInD (hu : X.A.units + 64 < cLine) (hi : PE X i (tOf X.K xi)) (ho : PE X o (tOf X.K xo)) (hm : behindInMarks .NotIn o = false) : PT X (.Compare i [.NotIn] [o] pos) (tOfT X.K (xB (xInD true xi xo))) := PT.imp (pt_cmp (pc_notInD hu hi ho) hm) fun σ H Q h => xB_rd h
theorem occ_letters : ∀ c ∈ lettersC, Builtin.Str.occurrences ⟨lettersC.toArray⟩ ⟨#[c]⟩ 0 (Str.length ⟨lettersC.toArray⟩) 1 = [lettersC.idxOf c] := by decide +kernel
theorem mt_indexL : MtR X "str.index" (mOf X.K mIndexL) := mtr_imp mt_sindex fun v vs H Q h => by
  obtain ⟨m, G, S, p, ps, r, hS, hp, hps, hf, k⟩ := h
  unfold mIndexL at hf
  split at hf
  · rename_i s c
    split at hf
    · rename_i hc
      cases hf
      obtain ⟨y, rfl, hy⟩ := one_arg hps
      simp only [RdT, RepP] at hp hy
      subst hp hy
      obtain ⟨rfl, hc⟩ := hc
      refine ⟨_, _, lettersC.idxOf c, [], rfl, rfl, occ_letters c hc, ?_⟩
      refine k _ H (Ext.refl _) ?_ trivial
      show _ = _
      rfl
    · cases hf
  · cases hf
end
end XL
end
section
set_option Elab.async false
set_option linter.all false
set_option autoImplicit false
set_option maxRecDepth 100000
set_option maxHeartbeats 1000000
namespace XL
/-! ### what a def does to its own cells it does among others as well -/
/-- n cells of a small store, put among m cells of a greater one -/
structure Fm where
  n : Nat
  m : Nat
  io : Nat → Nat
  S0 : Sto
  lt : ∀ l, l < n → io l < m
  inj : ∀ l l', l < n → l' < n → io l = io l' → l = l'
def Fm.rn (F : Fm) (l : Nat) : Nat := if l < F.n then F.io l else l - F.n + F.m
def D.rn (F : Fm) : D → D
  | .p d => .p d
  | .ref l => .ref (F.rn l)
def R.rn (F : Fm) : R → R
  | .p d => .p d
  | .ref l => .ref (F.rn l)
  | .frl ds => .frl ds
  | .frd t k => .frd t k
def Env.rn (F : Fm) (ρ : Env) : Env := ρ.map (Option.map (D.rn F))
def Fl.rn (F : Fm) : Fl → Fl
  | .nx ρ => .nx (Env.rn F ρ)
  | .rt r => .rt (r.rn F)
  | .bk ρ => .bk (Env.rn F ρ)
  | .ct ρ => .ct (Env.rn F ρ)
structure SimS (F : Fm) (S T : Sto) : Prop where
  le : F.n ≤ S.length
  len : T.length = F.m + (S.length - F.n)
  cell : ∀ l, l < S.length → T[F.rn l]? = S[l]?
  out : ∀ j, j < F.m → (∀ l, l < F.n → F.io l ≠ j) → T[j]? = F.S0[j]?
def WfD (k : Nat) : D → Prop
  | .p _ => True
  | .ref l => l < k
def WfR (k : Nat) : R → Prop
  | .ref l => l < k
  | _ => True
def WfE (k : Nat) (ρ : Env) : Prop := ∀ d, some d ∈ ρ → WfD k d
def WfF (k : Nat) : Fl → Prop
  | .nx ρ => WfE k ρ
  | .rt r => WfR k r
  | .bk ρ => WfE k ρ
  | .ct ρ => WfE k ρ
theorem WfD.mono {k k' : Nat} (h : k ≤ k') : ∀ {d : D}, WfD k d → WfD k' d
  | .p _, _ => trivial
  | .ref l, w => Nat.lt_of_lt_of_le w h
theorem WfR.mono {k k' : Nat} (h : k ≤ k') : ∀ {r : R}, WfR k r → WfR k' r
  | .p _, _ => trivial
  | .frl _, _ => trivial
  | .frd _ _, _ => trivial
  | .ref l, w => Nat.lt_of_lt_of_le w h
theorem WfE.mono {k k' : Nat} (h : k ≤ k') {ρ : Env} (w : WfE k ρ) : WfE k' ρ := fun d hd => (w d hd).mono h
theorem Fm.rn_inj (F : Fm) {l l' : Nat} (h : F.rn l = F.rn l') : l = l' := by
  unfold Fm.rn at h
  split at h <;> split at h
  · rename_i a b; exact F.inj _ _ a b h
  · rename_i a b; have := F.lt l a; omega
  · rename_i a b; have := F.lt l' b; omega
  · omega
theorem Fm.rn_ge (F : Fm) {l : Nat} (h : F.n ≤ l) : F.rn l = F.m + (l - F.n) := by
  unfold Fm.rn; rw [if_neg (by omega)]; omega
theorem SimS.rn_lt {F : Fm} {S T : Sto} (s : SimS F S T) {l : Nat} (h : l < S.length) : F.rn l < T.length := by
  rw [s.len]; unfold Fm.rn
  split
  · rename_i a; have := F.lt l a; omega
  · have := s.le; omega
theorem rn_le {F : Fm} {n0 l : Nat} (h : F.n ≤ n0) : n0 ≤ l ↔ F.m + (n0 - F.n) ≤ F.rn l := by
  unfold Fm.rn
  split
  · rename_i a; have := F.lt l a; omega
  · omega
theorem SimS.app {F : Fm} {S T : Sto} (s : SimS F S T) (X : Sto) : SimS F (S ++ X) (T ++ X) := by
  refine ⟨by rw [List.length_append]; have := s.le; omega, by rw [List.length_append, List.length_append, s.len]; have := s.le; omega, fun l h => ?_, fun j hj ho => ?_⟩
  · by_cases c : l < S.length
    · rw [List.getElem?_append_left c, List.getElem?_append_left (s.rn_lt c), s.cell l c]
    · have e := F.rn_ge (l := l) (by have := s.le; omega)
      have hl := s.len
      have hle := s.le
      rw [List.getElem?_append_right (by omega), List.getElem?_append_right (by omega), e, hl]
      congr 1; omega
  · rw [List.getElem?_append_left (by rw [s.len]; omega), s.out j hj ho]
theorem SimS.put {F : Fm} {S T : Sto} (s : SimS F S T) {l : Nat} (h : l < S.length) (c : Cell) : SimS F (S.set l c) (T.set (F.rn l) c) := by
  refine ⟨by rw [List.length_set]; exact s.le, by rw [List.length_set, List.length_set]; exact s.len, fun k hk => ?_, fun j hj ho => ?_⟩
  · rw [List.length_set] at hk
    by_cases e : k = l
    · subst e
      rw [List.getElem?_set_self h, List.getElem?_set_self (s.rn_lt h)]
    · rw [List.getElem?_set_ne (fun q => e q.symm), List.getElem?_set_ne (fun q => e (F.rn_inj q).symm), s.cell k hk]
  · rw [List.getElem?_set_ne ?_, s.out j hj ho]
    intro q
    unfold Fm.rn at q
    split at q
    · rename_i a; exact ho l a q
    · omega
theorem SimS.cut {F : Fm} {S T : Sto} (s : SimS F S T) {b : Nat} (h : F.n ≤ b) (hb : b ≤ S.length) : SimS F (S.take b) (T.take (F.m + (b - F.n))) := by
  have hl := s.len
  have hle := s.le
  have e1 : (S.take b).length = b := by rw [List.length_take]; omega
  refine ⟨by rw [e1]; exact h, by rw [e1, List.length_take]; omega, fun k hk => ?_, fun j hj ho => ?_⟩
  · rw [e1] at hk
    have hr : F.rn k < F.m + (b - F.n) := by
      have := (rn_le (F := F) (n0 := b) (l := k) h); omega
    rw [List.getElem?_take_of_lt hr, List.getElem?_take_of_lt hk, s.cell k (by omega)]
  · rw [List.getElem?_take_of_lt (by omega), s.out j hj ho]
theorem SimS.rd {F : Fm} {S T : Sto} (s : SimS F S T) : ∀ {r : R} {p : P}, r.rd S = some p → (r.rn F).rd T = some p
  | .p d, p, h => h
  | .frl ds, p, h => h
  | .frd _ _, p, h => by cases h
  | .ref l, p, h => by
    simp only [R.rd] at h
    split at h
    · rename_i ds e
      have hl := (List.getElem?_eq_some_iff.mp e).1
      cases h
      show R.rd T (.ref (F.rn l)) = _
      unfold R.rd
      simp only [s.cell l hl, e]
    · cases h
theorem rn_fz {F : Fm} {r : R} : (r.rn F).fz = r.fz := by cases r <;> rfl
theorem SimS.rds {F : Fm} {S T : Sto} (s : SimS F S T) : ∀ {rs : List R} {ps : List P}, XL.rds S rs = some ps → XL.rds T (rs.map (R.rn F)) = some ps
  | [], ps, h => h
  | r :: rs, ps, h => by
    simp only [XL.rds, Option.bind_eq_some_iff, Option.map_eq_some_iff] at h
    obtain ⟨d, h1, ds, h2, rfl⟩ := h
    simp [XL.rds, s.rd h1, s.rds h2]
theorem rn_fzs {F : Fm} : ∀ {rs : List R}, fzs (rs.map (R.rn F)) = fzs rs
  | [] => rfl
  | r :: rs => by simp only [List.map_cons, fzs, rn_fz, rn_fzs (rs := rs)]
theorem SimS.box {F : Fm} {S T : Sto} (s : SimS F S T) {r : R} (w : WfR S.length r) : (r.rn F).box T = ((r.box S).1.rn F, ((r.rn F).box T).2) ∧ SimS F (r.box S).2 ((r.rn F).box T).2 ∧ WfD (r.box S).2.length (r.box S).1 ∧ S.length ≤ (r.box S).2.length := by
  have hT : T.length = F.rn S.length := by rw [F.rn_ge s.le]; exact s.len
  cases r with
  | p d => exact ⟨rfl, s, trivial, Nat.le_refl _⟩
  | ref l => exact ⟨rfl, s, w, Nat.le_refl _⟩
  | frl ds =>
    refine ⟨?_, s.app _, ?_, ?_⟩
    · exact Prod.ext (congrArg D.ref hT) rfl
    · show S.length < (S ++ _).length; simp
    · show S.length ≤ (S ++ _).length; simp
  | frd t kv =>
    refine ⟨?_, s.app _, ?_, ?_⟩
    · exact Prod.ext (congrArg D.ref hT) rfl
    · show S.length < (S ++ _).length; simp
    · show S.length ≤ (S ++ _).length; simp
theorem SimS.arg {F : Fm} {S T : Sto} (s : SimS F S T) {r : R} (w : WfR S.length r) : (r.rn F).arg T = ((r.arg S).1.rn F, ((r.rn F).arg T).2) ∧ SimS F (r.arg S).2 ((r.rn F).arg T).2 ∧ WfD (r.arg S).2.length (r.arg S).1 ∧ S.length ≤ (r.arg S).2.length := by
  cases r with
  | p d => exact s.box w
  | ref l => exact s.box w
  | frl ds => exact ⟨rfl, s, trivial, Nat.le_refl _⟩
  | frd t kv => exact s.box w
theorem rn_get {F : Fm} {ρ : Env} {i : Nat} : (Env.rn F ρ)[i]? = ρ[i]?.map (Option.map (D.rn F)) := by simp [Env.rn]
theorem rn_set {F : Fm} {ρ : Env} {i : Nat} {d : Option D} : Env.rn F (ρ.set i d) = (Env.rn F ρ).set i (d.map (D.rn F)) := by simp [Env.rn, List.map_set]
theorem WfE.put {k : Nat} {ρ : Env} {i : Nat} {d : Option D} (w : WfE k ρ) (h : ∀ x, d = some x → WfD k x) : WfE k (ρ.set i d) := fun x hx => by
  rcases List.mem_or_eq_of_mem_set hx with a | a
  · exact w x a
  · exact h x a.symm
/-! the classes -/
class LocE (x : XE) : Prop where
  loc : ∀ {F : Fm} {S T : Sto} {ρ : Env} {r : R} {S' : Sto}, SimS F S T → WfE S.length ρ → x ρ S = some (r, S') → ∃ T', x (Env.rn F ρ) T = some (r.rn F, T') ∧ SimS F S' T' ∧ WfR S'.length r ∧ S.length ≤ S'.length
class LocT (x : XT) : Prop where
  loc : ∀ {F : Fm} {S T : Sto} {ρ : Env} {r : Bool} {S' : Sto}, SimS F S T → WfE S.length ρ → x ρ S = some (r, S') → ∃ T', x (Env.rn F ρ) T = some (r, T') ∧ SimS F S' T' ∧ S.length ≤ S'.length
class LocA (x : XA) : Prop where
  loc : ∀ {F : Fm} {S T : Sto} {ρ : Env} {r : List R} {S' : Sto}, SimS F S T → WfE S.length ρ → x ρ S = some (r, S') → ∃ T', x (Env.rn F ρ) T = some (r.map (R.rn F), T') ∧ SimS F S' T' ∧ (∀ q ∈ r, WfR S'.length q) ∧ S.length ≤ S'.length
class LocD (x : XD) : Prop where
  loc : ∀ {F : Fm} {S T : Sto} {ρ : Env} {r : List D} {S' : Sto}, SimS F S T → WfE S.length ρ → x ρ S = some (r, S') → ∃ T', x (Env.rn F ρ) T = some (r.map (D.rn F), T') ∧ SimS F S' T' ∧ (∀ q ∈ r, WfD S'.length q) ∧ S.length ≤ S'.length
class LocI (x : XI) : Prop where
  loc : ∀ {F : Fm} {S T : Sto} {ρ : Env} {r : List P} {l : Option Nat} {S' : Sto}, SimS F S T → WfE S.length ρ → x ρ S = some (r, l, S') → ∃ T', x (Env.rn F ρ) T = some (r, l.map F.rn, T') ∧ SimS F S' T' ∧ (∀ k, l = some k → k < S'.length) ∧ S.length ≤ S'.length
class LocS (x : XS) : Prop where
  loc : ∀ {F : Fm} {S T : Sto} {ρ : Env} {r : Fl} {S' : Sto}, SimS F S T → WfE S.length ρ → x ρ S = some (r, S') → ∃ T', x (Env.rn F ρ) T = some (r.rn F, T') ∧ SimS F S' T' ∧ WfF S'.length r ∧ S.length ≤ S'.length
class LocF (f : XF) : Prop where
  loc : ∀ {F : Fm} {S T : Sto} {as : List D} {r : R} {S' : Sto}, SimS F S T → (∀ d ∈ as, WfD S.length d) → f as S = some (r, S') → ∃ T', f (as.map (D.rn F)) T = some (r.rn F, T') ∧ SimS F S' T' ∧ WfR S'.length r ∧ S.length = S'.length
/-! expressions -/
instance {i : Nat} : LocE (xVar i) := ⟨fun {F S T ρ r S'} s w h => by
  unfold xVar at h
  split at h
  · rename_i d e; cases h
    exact ⟨T, by simp [xVar, rn_get, e, D.rn, R.rn], s, trivial, Nat.le_refl _⟩
  · rename_i l e; cases h
    exact ⟨T, by simp [xVar, rn_get, e, D.rn, R.rn], s, w _ (List.mem_of_getElem? e), Nat.le_refl _⟩
  · cases h⟩
instance {d : P} : LocE (xC d) := ⟨fun {F S T ρ r S'} s w h => by cases h; exact ⟨T, rfl, s, trivial, Nat.le_refl _⟩⟩
/-- what a plain operator gives is new or data -/
def Plain1 (f : P → Option R) : Prop := ∀ p r, f p = some r → ∀ l, r ≠ .ref l
theorem rn_new {F : Fm} {k : Nat} {r : R} (h : ∀ l, r ≠ .ref l) : r.rn F = r ∧ WfR k r := by
  cases r with
  | ref l => exact absurd rfl (h l)
  | _ => exact ⟨rfl, trivial⟩
class NewB (f : P → P → Option R) : Prop where
  new : ∀ p q r, f p q = some r → ∀ l, r ≠ .ref l
class NewU (f : P → Option R) : Prop where
  new : ∀ p r, f p = some r → ∀ l, r ≠ .ref l
class NewC (f : List P → Option R) : Prop where
  new : ∀ p r, f p = some r → ∀ l, r ≠ .ref l
class NewM (f : P → List P → Option R) : Prop where
  new : ∀ p q r, f p q = some r → ∀ l, r ≠ .ref l
instance {f : P → P → Option R} {a b : XE} [N : NewB f] [A : LocE a] [B : LocE b] : LocE (xBin f a b) := ⟨fun {F S T ρ r S'} s w h => by
  simp only [xBin, Option.bind_eq_some_iff, Option.map_eq_some_iff, Prod.mk.injEq] at h
  obtain ⟨⟨x, S1⟩, h1, ⟨y, S2⟩, h2, p, hp, q, hq, r', hf, rfl, rfl⟩ := h
  obtain ⟨T1, a1, s1, w1, l1⟩ := A.loc s w h1
  obtain ⟨T2, a2, s2, w2, l2⟩ := B.loc s1 (w.mono l1) h2
  obtain ⟨e, we⟩ := rn_new (F := F) (k := S2.length) (N.new _ _ _ hf)
  refine ⟨T2, ?_, s2, we, Nat.le_trans l1 l2⟩
  simp [xBin, a1, a2, s2.rd hp, s2.rd hq, hf, e]⟩
instance {f : P → Option R} {a : XE} [N : NewU f] [A : LocE a] : LocE (xUn f a) := ⟨fun {F S T ρ r S'} s w h => by
  simp only [xUn, Option.bind_eq_some_iff, Option.map_eq_some_iff, Prod.mk.injEq] at h
  obtain ⟨⟨x, S1⟩, h1, p, hp, r', hf, rfl, rfl⟩ := h
  obtain ⟨T1, a1, s1, w1, l1⟩ := A.loc s w h1
  obtain ⟨e, we⟩ := rn_new (F := F) (k := S1.length) (N.new _ _ hf)
  refine ⟨T1, ?_, s1, we, l1⟩
  simp [xUn, a1, s1.rd hp, hf, e]⟩
instance {f g : P → P → Option R} {a b c : XE} [N : NewB g] [A : LocE a] [B : LocE b] [C : LocE c] : LocE (xChain f g a b c) := ⟨fun {F S T ρ r S'} s w h => by
  simp only [xChain, Option.bind_eq_some_iff] at h
  obtain ⟨⟨x, S1⟩, h1, ⟨y, S2⟩, h2, p, hp, q, hq, r', hf, h⟩ := h
  obtain ⟨T1, a1, s1, w1, l1⟩ := A.loc s w h1
  obtain ⟨T2, a2, s2, w2, l2⟩ := B.loc s1 (w.mono l1) h2
  split at h
  · simp only [Option.bind_eq_some_iff, Option.map_eq_some_iff, Prod.mk.injEq] at h
    obtain ⟨⟨z, S3⟩, h3, q', hq', v, hv, r2, hg, rfl, rfl⟩ := h
    obtain ⟨T3, a3, s3, w3, l3⟩ := C.loc s2 (w.mono (Nat.le_trans l1 l2)) h3
    obtain ⟨e, we⟩ := rn_new (F := F) (k := S3.length) (N.new _ _ _ hg)
    refine ⟨T3, ?_, s3, we, by simp only at *; omega⟩
    simp [xChain, a1, a2, s2.rd hp, s2.rd hq, hf, a3, s3.rd hq', s3.rd hv, hg, e]
  · cases h
    refine ⟨T2, ?_, s2, trivial, by simp only at *; omega⟩
    have q1 := s2.rd hp
    have q2 := s2.rd hq
    simp only [xChain, a1, a2, Option.bind_some, q1, q2, hf]
    rfl
  · cases h⟩
instance {a b : XE} [A : LocE a] [B : LocE b] : LocE (xAnd a b) := ⟨fun {F S T ρ r S'} s w h => by
  simp only [xAnd, Option.bind_eq_some_iff] at h
  obtain ⟨⟨x, S1⟩, h1, h⟩ := h
  obtain ⟨T1, a1, s1, w1, l1⟩ := A.loc s w h1
  simp only at h
  split at h
  · obtain ⟨T2, a2, s2, w2, l2⟩ := B.loc s1 (w.mono l1) h
    exact ⟨T2, by simp [xAnd, a1, R.rn, a2], s2, w2, by omega⟩
  · cases h
    exact ⟨T1, by simp [xAnd, a1, R.rn], s1, trivial, l1⟩
  · cases h⟩
instance {a b : XE} [A : LocE a] [B : LocE b] : LocE (xOr a b) := ⟨fun {F S T ρ r S'} s w h => by
  simp only [xOr, Option.bind_eq_some_iff] at h
  obtain ⟨⟨x, S1⟩, h1, h⟩ := h
  obtain ⟨T1, a1, s1, w1, l1⟩ := A.loc s w h1
  simp only at h
  split at h
  · cases h
    exact ⟨T1, by simp [xOr, a1, R.rn], s1, trivial, l1⟩
  · obtain ⟨T2, a2, s2, w2, l2⟩ := B.loc s1 (w.mono l1) h
    exact ⟨T2, by simp [xOr, a1, R.rn, a2], s2, w2, by omega⟩
  · cases h⟩
instance {a : XE} [A : LocE a] : LocE (xNot a) := ⟨fun {F S T ρ r S'} s w h => by
  simp only [xNot, Option.bind_eq_some_iff] at h
  obtain ⟨⟨x, S1⟩, h1, h⟩ := h
  obtain ⟨T1, a1, s1, w1, l1⟩ := A.loc s w h1
  simp only at h
  split at h
  · cases h
    exact ⟨T1, by simp [xNot, a1, R.rn], s1, trivial, l1⟩
  · cases h⟩
instance {t : XT} {a b : XE} [C : LocT t] [A : LocE a] [B : LocE b] : LocE (xIf t a b) := ⟨fun {F S T ρ r S'} s w h => by
  simp only [xIf, Option.bind_eq_some_iff] at h
  obtain ⟨⟨x, S1⟩, h1, h⟩ := h
  obtain ⟨T1, a1, s1, l1⟩ := C.loc s w h1
  cases x with
  | true =>
    obtain ⟨T2, a2, s2, w2, l2⟩ := A.loc s1 (w.mono l1) h
    exact ⟨T2, by simp [xIf, a1, a2], s2, w2, by omega⟩
  | false =>
    obtain ⟨T2, a2, s2, w2, l2⟩ := B.loc s1 (w.mono l1) h
    exact ⟨T2, by simp [xIf, a1, a2], s2, w2, by omega⟩⟩
instance {a : XE} [A : LocE a] : LocT (xB a) := ⟨fun {F S T ρ r S'} s w h => by
  simp only [xB, Option.bind_eq_some_iff] at h
  obtain ⟨⟨x, S1⟩, h1, h⟩ := h
  obtain ⟨T1, a1, s1, w1, l1⟩ := A.loc s w h1
  simp only at h
  split at h
  · cases h
    exact ⟨T1, by simp [xB, a1, R.rn], s1, l1⟩
  · cases h⟩
instance {a b : XT} [A : LocT a] [B : LocT b] : LocT (xTand a b) := ⟨fun {F S T ρ r S'} s w h => by
  simp only [xTand, Option.bind_eq_some_iff] at h
  obtain ⟨⟨x, S1⟩, h1, h⟩ := h
  obtain ⟨T1, a1, s1, l1⟩ := A.loc s w h1
  cases x with
  | true =>
    obtain ⟨T2, a2, s2, l2⟩ := B.loc s1 (w.mono l1) h
    exact ⟨T2, by simp [xTand, a1, a2], s2, by omega⟩
  | false => cases h; exact ⟨T1, by simp [xTand, a1], s1, l1⟩⟩
instance {a b : XT} [A : LocT a] [B : LocT b] : LocT (xTor a b) := ⟨fun {F S T ρ r S'} s w h => by
  simp only [xTor, Option.bind_eq_some_iff] at h
  obtain ⟨⟨x, S1⟩, h1, h⟩ := h
  obtain ⟨T1, a1, s1, l1⟩ := A.loc s w h1
  cases x with
  | false =>
    obtain ⟨T2, a2, s2, l2⟩ := B.loc s1 (w.mono l1) h
    exact ⟨T2, by simp [xTor, a1, a2], s2, by omega⟩
  | true => cases h; exact ⟨T1, by simp [xTor, a1], s1, l1⟩⟩
instance {a : XT} [A : LocT a] : LocT (xTnot a) := ⟨fun {F S T ρ r S'} s w h => by
  simp only [xTnot, Option.map_eq_some_iff] at h
  obtain ⟨⟨x, S1⟩, h1, h⟩ := h
  obtain ⟨T1, a1, s1, l1⟩ := A.loc s w h1
  cases h
  exact ⟨T1, by simp [xTnot, a1], s1, l1⟩⟩
instance : LocT xTyes := ⟨fun {F S T ρ r S'} s w h => by cases h; exact ⟨T, rfl, s, Nat.le_refl _⟩⟩
instance : LocA xNil := ⟨fun {F S T ρ r S'} s w h => by cases h; exact ⟨T, rfl, s, by simp, Nat.le_refl _⟩⟩
instance {a : XE} {b : XA} [A : LocE a] [B : LocA b] : LocA (xCons a b) := ⟨fun {F S T ρ r S'} s w h => by
  simp only [xCons, Option.bind_eq_some_iff, Option.map_eq_some_iff, Prod.mk.injEq] at h
  obtain ⟨⟨x, S1⟩, h1, ⟨y, S2⟩, h2, rfl, rfl⟩ := h
  obtain ⟨T1, a1, s1, w1, l1⟩ := A.loc s w h1
  obtain ⟨T2, a2, s2, w2, l2⟩ := B.loc s1 (w.mono l1) h2
  refine ⟨T2, by simp [xCons, a1, a2], s2, fun q hq => ?_, by simp only at *; omega⟩
  rcases List.mem_cons.mp hq with e | e
  · subst e; exact w1.mono l2
  · exact w2 q e⟩
instance {a : XA} [A : LocA a] : LocE (xTup a) := ⟨fun {F S T ρ r S'} s w h => by
  simp only [xTup, Option.bind_eq_some_iff] at h
  obtain ⟨⟨x, S1⟩, h1, ds, h2, h⟩ := h
  obtain ⟨T1, a1, s1, w1, l1⟩ := A.loc s w h1
  split at h
  · rename_i hb; cases h
    exact ⟨T1, by simp only [xTup, a1, Option.bind_some, rn_fzs, h2, hb, if_true, R.rn], s1, trivial, l1⟩
  · cases h⟩
instance {a : XA} [A : LocA a] : LocE (xLst a) := ⟨fun {F S T ρ r S'} s w h => by
  simp only [xLst, Option.bind_eq_some_iff] at h
  obtain ⟨⟨x, S1⟩, h1, ds, h2, h⟩ := h
  obtain ⟨T1, a1, s1, w1, l1⟩ := A.loc s w h1
  split at h
  · rename_i hb; cases h
    exact ⟨T1, by simp only [xLst, a1, Option.bind_some, rn_fzs, h2, hb, if_true, R.rn], s1, trivial, l1⟩
  · cases h⟩
instance {f : List P → Option R} {a : XA} [N : NewC f] [A : LocA a] : LocE (xCall f a) := ⟨fun {F S T ρ r S'} s w h => by
  simp only [xCall, Option.bind_eq_some_iff, Option.map_eq_some_iff, Prod.mk.injEq] at h
  obtain ⟨⟨x, S1⟩, h1, ds, h2, r', hf, rfl, rfl⟩ := h
  obtain ⟨T1, a1, s1, w1, l1⟩ := A.loc s w h1
  obtain ⟨e, we⟩ := rn_new (F := F) (k := S1.length) (N.new _ _ hf)
  exact ⟨T1, by simp only [xCall, a1, Option.bind_some, s1.rds h2, hf, Option.map_some, e], s1, we, l1⟩⟩
instance : LocD xNilD := ⟨fun {F S T ρ r S'} s w h => by cases h; exact ⟨T, rfl, s, by simp, Nat.le_refl _⟩⟩
instance {a : XE} {b : XD} [A : LocE a] [B : LocD b] : LocD (xConsB a b) := ⟨fun {F S T ρ r S'} s w h => by
  simp only [xConsB, Option.bind_eq_some_iff, Option.map_eq_some_iff, Prod.mk.injEq] at h
  obtain ⟨⟨x, S1⟩, h1, ⟨y, S2⟩, h2, rfl, rfl⟩ := h
  obtain ⟨T1, a1, s1, w1, l1⟩ := A.loc s w h1
  obtain ⟨e, s1', w1', l1'⟩ := s1.box w1
  obtain ⟨T2, a2, s2, w2, l2⟩ := B.loc s1' (w.mono (Nat.le_trans l1 l1')) h2
  refine ⟨T2, ?_, s2, fun q hq => ?_, by simp only at *; omega⟩
  · have e1 : ((x.rn F).box T1).1 = (x.box S1).1.rn F := by rw [e]
    simp only [xConsB, a1, Option.bind_some, a2, Option.map_some, List.map_cons, e1]
  · rcases List.mem_cons.mp hq with e | e
    · subst e; exact w1'.mono l2
    · exact w2 q e⟩
instance {a : XE} {b : XD} [A : LocE a] [B : LocD b] : LocD (xConsD a b) := ⟨fun {F S T ρ r S'} s w h => by
  simp only [xConsD, Option.bind_eq_some_iff, Option.map_eq_some_iff, Prod.mk.injEq] at h
  obtain ⟨⟨x, S1⟩, h1, ⟨y, S2⟩, h2, rfl, rfl⟩ := h
  obtain ⟨T1, a1, s1, w1, l1⟩ := A.loc s w h1
  obtain ⟨e, s1', w1', l1'⟩ := s1.arg w1
  obtain ⟨T2, a2, s2, w2, l2⟩ := B.loc s1' (w.mono (Nat.le_trans l1 l1')) h2
  refine ⟨T2, ?_, s2, fun q hq => ?_, by simp only at *; omega⟩
  · have e1 : ((x.rn F).arg T1).1 = (x.arg S1).1.rn F := by rw [e]
    simp only [xConsD, a1, Option.bind_some, a2, Option.map_some, List.map_cons, e1]
  · rcases List.mem_cons.mp hq with e | e
    · subst e; exact w1'.mono l2
    · exact w2 q e⟩
instance {f : XF} {a : XD} [N : LocF f] [A : LocD a] : LocE (xDef f a) := ⟨fun {F S T ρ r S'} s w h => by
  simp only [xDef, Option.bind_eq_some_iff] at h
  obtain ⟨⟨x, S1⟩, h1, h⟩ := h
  obtain ⟨T1, a1, s1, w1, l1⟩ := A.loc s w h1
  obtain ⟨T2, a2, s2, w2, l2⟩ := N.loc s1 w1 h
  exact ⟨T2, by simp only [xDef, a1, Option.bind_some, a2], s2, w2, by simp only at *; omega⟩⟩
/-! statements -/
instance {i : Nat} {a : XE} [A : LocE a] : LocS (xSet i a) := ⟨fun {F S T ρ r S'} s w h => by
  simp only [xSet, Option.map_eq_some_iff, Prod.mk.injEq] at h
  obtain ⟨⟨x, S1⟩, h1, rfl, rfl⟩ := h
  obtain ⟨T1, a1, s1, w1, l1⟩ := A.loc s w h1
  obtain ⟨e, s1', w1', l1'⟩ := s1.box w1
  refine ⟨_, ?_, s1', (w.mono (Nat.le_trans l1 l1')).put (fun x hx => by cases hx; exact w1'), by simp only at *; omega⟩
  have e1 : ((x.rn F).box T1).1 = (x.box S1).1.rn F := by rw [e]
  simp only [xSet, a1, Option.map_some, Fl.rn, rn_set, e1]⟩
theorem setAll_rn {F : Fm} {k : Nat} : ∀ {is : List Nat} {ds : List P} {ρ ρ' : Env}, WfE k ρ → setAll is ds ρ = some ρ' → setAll is ds (Env.rn F ρ) = some (Env.rn F ρ') ∧ WfE k ρ'
  | [], [], ρ, ρ', w, h => by cases h; exact ⟨rfl, w⟩
  | [], _ :: _, ρ, ρ', w, h => by cases h
  | _ :: _, [], ρ, ρ', w, h => by cases h
  | i :: is, d :: ds, ρ, ρ', w, h => by
    have := setAll_rn (F := F) (w.put (i := i) (d := some (.p d)) (fun x hx => by cases hx; trivial)) h
    rw [rn_set] at this
    exact this
theorem put_rn {F : Fm} {k : Nat} {t : Tg} {d : P} {ρ ρ' : Env} (w : WfE k ρ) (h : t.put d ρ = some ρ') : t.put d (Env.rn F ρ) = some (Env.rn F ρ') ∧ WfE k ρ' := by
  cases t with
  | nm i => cases h; exact ⟨by simp [Tg.put, rn_set, D.rn], w.put (fun x hx => by cases hx; trivial)⟩
  | tp is =>
    cases d with
    | tup ds => exact setAll_rn w h
    | _ => cases h
instance {is : List Nat} {a : XE} [A : LocE a] : LocS (xUnp is a) := ⟨fun {F S T ρ r S'} s w h => by
  simp only [xUnp, Option.bind_eq_some_iff, Option.map_eq_some_iff, Prod.mk.injEq] at h
  obtain ⟨⟨x, S1⟩, h1, d, hd, ρ', hp, rfl, rfl⟩ := h
  obtain ⟨T1, a1, s1, w1, l1⟩ := A.loc s w h1
  obtain ⟨e, we⟩ := put_rn (F := F) (w.mono l1) hp
  exact ⟨T1, by simp only [xUnp, a1, Option.bind_some, s1.rd hd, e, Option.map_some, Fl.rn], s1, we, l1⟩⟩
instance {is : List Nat} {a : XE} [A : LocE a] : LocS (xUnpL is a) := ⟨fun {F S T ρ r S'} s w h => by
  simp only [xUnpL, Option.bind_eq_some_iff] at h
  obtain ⟨⟨x, S1⟩, h1, d, hd, h⟩ := h
  obtain ⟨T1, a1, s1, w1, l1⟩ := A.loc s w h1
  split at h
  · simp only [Option.map_eq_some_iff, Prod.mk.injEq] at h
    obtain ⟨ρ', hp, rfl, rfl⟩ := h
    obtain ⟨e, we⟩ := setAll_rn (F := F) (w.mono l1) hp
    exact ⟨T1, by simp only [xUnpL, a1, Option.bind_some, s1.rd hd, e, Option.map_some, Fl.rn], s1, we, l1⟩
  · cases h⟩
theorem setAllD_rn {F : Fm} {k : Nat} : ∀ {is : List Nat} {ds : List D} {ρ ρ' : Env}, WfE k ρ → (∀ d ∈ ds, WfD k d) → setAllD is ds ρ = some ρ' → setAllD is (ds.map (D.rn F)) (Env.rn F ρ) = some (Env.rn F ρ') ∧ WfE k ρ'
  | [], [], ρ, ρ', w, _, h => by cases h; exact ⟨rfl, w⟩
  | [], _ :: _, ρ, ρ', w, _, h => by cases h
  | _ :: _, [], ρ, ρ', w, _, h => by cases h
  | i :: is, d :: ds, ρ, ρ', w, hd, h => by
    have := setAllD_rn (F := F) (w.put (i := i) (d := some d) (fun x hx => by cases hx; exact hd _ List.mem_cons_self)) (fun x hx => hd x (List.mem_cons_of_mem _ hx)) h
    rw [rn_set] at this
    exact this
instance {is : List Nat} {a : XD} [A : LocD a] : LocS (xPar is a) := ⟨fun {F S T ρ r S'} s w h => by
  simp only [xPar, Option.bind_eq_some_iff, Option.map_eq_some_iff, Prod.mk.injEq] at h
  obtain ⟨⟨x, S1⟩, h1, ρ', hp, rfl, rfl⟩ := h
  obtain ⟨T1, a1, s1, w1, l1⟩ := A.loc s w h1
  obtain ⟨e, we⟩ := setAllD_rn (F := F) (w.mono l1) w1 hp
  exact ⟨T1, by simp only [xPar, a1, Option.bind_some, e, Option.map_some, Fl.rn], s1, we, l1⟩⟩
instance {a : XE} [A : LocE a] : LocS (xDrop a) := ⟨fun {F S T ρ r S'} s w h => by
  simp only [xDrop, Option.map_eq_some_iff, Prod.mk.injEq] at h
  obtain ⟨⟨x, S1⟩, h1, rfl, rfl⟩ := h
  obtain ⟨T1, a1, s1, w1, l1⟩ := A.loc s w h1
  exact ⟨T1, by simp only [xDrop, a1, Option.map_some, Fl.rn], s1, w.mono l1, l1⟩⟩
instance {a : XE} [A : LocE a] : LocS (xRet a) := ⟨fun {F S T ρ r S'} s w h => by
  simp only [xRet, Option.map_eq_some_iff, Prod.mk.injEq] at h
  obtain ⟨⟨x, S1⟩, h1, rfl, rfl⟩ := h
  obtain ⟨T1, a1, s1, w1, l1⟩ := A.loc s w h1
  exact ⟨T1, by simp only [xRet, a1, Option.map_some, Fl.rn], s1, w1, l1⟩⟩
instance : LocS xRetN := ⟨fun {F S T ρ r S'} s w h => by cases h; exact ⟨T, rfl, s, trivial, Nat.le_refl _⟩⟩
instance : LocS xPass := ⟨fun {F S T ρ r S'} s w h => by cases h; exact ⟨T, rfl, s, w, Nat.le_refl _⟩⟩
instance : LocS xNever := ⟨fun {F S T ρ r S'} s w h => by cases h⟩
instance {a b : XS} [A : LocS a] [B : LocS b] : LocS (xSeq a b) := ⟨fun {F S T ρ r S'} s w h => by
  simp only [xSeq, Option.bind_eq_some_iff] at h
  obtain ⟨⟨x, S1⟩, h1, h⟩ := h
  obtain ⟨T1, a1, s1, w1, l1⟩ := A.loc s w h1
  cases x with
  | nx ρ' =>
    obtain ⟨T2, a2, s2, w2, l2⟩ := B.loc s1 w1 h
    exact ⟨T2, by simp only [xSeq, a1, Option.bind_some, Fl.rn, a2], s2, w2, by simp only at *; omega⟩
  | rt r' => cases h; exact ⟨T1, by simp only [xSeq, a1, Option.bind_some, Fl.rn], s1, w1, l1⟩
  | bk r' => cases h; exact ⟨T1, by simp only [xSeq, a1, Option.bind_some, Fl.rn], s1, w1, l1⟩
  | ct r' => cases h; exact ⟨T1, by simp only [xSeq, a1, Option.bind_some, Fl.rn], s1, w1, l1⟩⟩
instance {t : XT} {a b : XS} [C : LocT t] [A : LocS a] [B : LocS b] : LocS (xIfS t a b) := ⟨fun {F S T ρ r S'} s w h => by
  simp only [xIfS, Option.bind_eq_some_iff] at h
  obtain ⟨⟨x, S1⟩, h1, h⟩ := h
  obtain ⟨T1, a1, s1, l1⟩ := C.loc s w h1
  cases x with
  | true =>
    obtain ⟨T2, a2, s2, w2, l2⟩ := A.loc s1 (w.mono l1) h
    exact ⟨T2, by simp [xIfS, a1, a2], s2, w2, by omega⟩
  | false =>
    obtain ⟨T2, a2, s2, w2, l2⟩ := B.loc s1 (w.mono l1) h
    exact ⟨T2, by simp [xIfS, a1, a2], s2, w2, by omega⟩⟩
end XL
end
section
set_option Elab.async false
set_option linter.all false
set_option autoImplicit false
set_option maxRecDepth 100000
set_option maxHeartbeats 1000000
namespace XL
/-! the drop behind a turn -/
theorem slots_ge {n0 : Nat} : ∀ {ρ : Env} {l : Nat}, l ∈ slotRefs n0 ρ → n0 ≤ l ∧ some (D.ref l) ∈ ρ
  | [], l, h => by simp [slotRefs] at h
  | none :: ρ, l, h => by
    have := slots_ge (ρ := ρ) (l := l) h
    exact ⟨this.1, List.mem_cons_of_mem _ this.2⟩
  | some (.p d) :: ρ, l, h => by
    have := slots_ge (ρ := ρ) (l := l) h
    exact ⟨this.1, List.mem_cons_of_mem _ this.2⟩
  | some (.ref k) :: ρ, l, h => by
    unfold slotRefs at h
    split at h
    · rename_i c
      rcases List.mem_cons.mp h with e | e
      · subst e; exact ⟨c.1, List.mem_cons_self⟩
      · have := slots_ge (ρ := ρ) (l := l) e
        exact ⟨this.1, List.mem_cons_of_mem _ this.2⟩
    · have := slots_ge (ρ := ρ) (l := l) h
      exact ⟨this.1, List.mem_cons_of_mem _ this.2⟩
theorem slots_mem {n0 : Nat} : ∀ {ρ : Env} {l : Nat}, n0 ≤ l → some (D.ref l) ∈ ρ → l ∈ slotRefs n0 ρ
  | [], l, _, h => by cases h
  | none :: ρ, l, h0, h => by
    rcases List.mem_cons.mp h with e | e
    · cases e
    · exact slots_mem (ρ := ρ) h0 e
  | some (.p d) :: ρ, l, h0, h => by
    rcases List.mem_cons.mp h with e | e
    · cases e
    · exact slots_mem (ρ := ρ) h0 e
  | some (.ref k) :: ρ, l, h0, h => by
    unfold slotRefs
    split
    · rcases List.mem_cons.mp h with e | e
      · cases e; exact List.mem_cons_self
      · exact List.mem_cons_of_mem _ (slots_mem (ρ := ρ) h0 e)
    · rename_i c
      rcases List.mem_cons.mp h with e | e
      · cases e
        exact Classical.byContradiction fun q => c ⟨h0, q⟩
      · exact slots_mem (ρ := ρ) h0 e
theorem mem_map_rn {F : Fm} {l : Nat} {ks : List Nat} : F.rn l ∈ ks.map F.rn ↔ l ∈ ks := by
  constructor
  · intro h
    obtain ⟨k, hk, e⟩ := List.mem_map.mp h
    rw [← F.rn_inj e]; exact hk
  · exact fun h => List.mem_map_of_mem h
theorem slots_rn {F : Fm} {n0 : Nat} (hn : F.n ≤ n0) : ∀ (ρ : Env), slotRefs (F.m + (n0 - F.n)) (Env.rn F ρ) = (slotRefs n0 ρ).map F.rn
  | [] => rfl
  | none :: ρ => slots_rn hn ρ
  | some (.p d) :: ρ => slots_rn hn ρ
  | some (.ref k) :: ρ => by
    show slotRefs _ (some (D.ref (F.rn k)) :: Env.rn F ρ) = _
    unfold slotRefs
    rw [slots_rn hn ρ]
    by_cases c : n0 ≤ k ∧ k ∉ slotRefs n0 ρ
    · rw [if_pos c, if_pos ⟨(rn_le hn).mp c.1, fun q => c.2 (mem_map_rn.mp q)⟩]; rfl
    · rw [if_neg c, if_neg (fun q => c ⟨(rn_le hn).mpr q.1, fun z => q.2 (mem_map_rn.mpr z)⟩)]
theorem idx_rn {F : Fm} {l : Nat} : ∀ (ks : List Nat), (ks.map F.rn).idxOf (F.rn l) = ks.idxOf l
  | [] => rfl
  | k :: ks => by
    rw [List.map_cons, List.idxOf_cons, List.idxOf_cons, idx_rn ks]
    by_cases c : k = l
    · subst c; simp
    · have : (F.rn k == F.rn l) = false := by simpa using fun q => c (F.rn_inj q)
      have h2 : (k == l) = false := by simpa using c
      rw [this, h2]
theorem gc_rn {F : Fm} {n0 : Nat} (hn : F.n ≤ n0) {ρ : Env} {S T : Sto} (s : SimS F S T) (w : WfE S.length ρ) (hS : n0 ≤ S.length) :
    gc (F.m + (n0 - F.n)) (Env.rn F ρ) T = (Env.rn F (gc n0 ρ S).1, (gc (F.m + (n0 - F.n)) (Env.rn F ρ) T).2) ∧ SimS F (gc n0 ρ S).2 (gc (F.m + (n0 - F.n)) (Env.rn F ρ) T).2 ∧ WfE (gc n0 ρ S).2.length (gc n0 ρ S).1 ∧ n0 ≤ (gc n0 ρ S).2.length := by
  have hl := s.len
  have hle := s.le
  by_cases c : S.length ≤ n0
  · have c' : T.length ≤ F.m + (n0 - F.n) := by omega
    unfold gc
    rw [if_pos c, if_pos c']
    exact ⟨rfl, s, w, hS⟩
  · have c' : ¬ T.length ≤ F.m + (n0 - F.n) := by omega
    unfold gc
    rw [if_neg c, if_neg c']
    simp only [slots_rn hn]
    have hk : keptCells T ((slotRefs n0 ρ).map F.rn) = keptCells S (slotRefs n0 ρ) := by
      unfold keptCells
      rw [List.map_map]
      refine List.map_congr_left fun k hk => ?_
      have := w _ (slots_ge hk).2
      show T.getD (F.rn k) _ = S.getD k _
      rw [List.getD_eq_getElem?_getD, List.getD_eq_getElem?_getD, s.cell k this]
    rw [hk]
    refine ⟨?_, (s.cut hn hS).app _, fun d hd => ?_, ?_⟩
    · refine Prod.ext ?_ rfl
      show (Env.rn F ρ).map _ = Env.rn F (ρ.map _)
      unfold Env.rn
      rw [List.map_map, List.map_map]
      refine List.map_congr_left fun d hd => ?_
      cases d with
      | none => rfl
      | some d =>
        cases d with
        | p d => rfl
        | ref l =>
          show some (D.ref (renRef _ _ (F.rn l))) = some (D.ref (F.rn (renRef n0 _ l)))
          congr 2
          unfold renRef
          have := rn_le (F := F) (l := l) hn
          by_cases q : l < n0
          · rw [if_pos q, if_pos (by omega)]
          · rw [if_neg q, if_neg (by omega), idx_rn, F.rn_ge (by omega)]; omega
    · obtain ⟨x, hx, e⟩ := List.mem_map.mp hd
      have hlen : (S.take n0 ++ keptCells S (slotRefs n0 ρ)).length = n0 + (slotRefs n0 ρ).length := by
        rw [List.length_append, List.length_take, keptCells, List.length_map]; omega
      cases x with
      | none => cases e
      | some x =>
        cases x with
        | p y => cases e; trivial
        | ref l =>
          cases e
          show renRef n0 _ l < _
          rw [hlen]
          unfold renRef
          split
          · omega
          · have := List.idxOf_lt_length_of_mem (slots_mem (n0 := n0) (ρ := ρ) (l := l) (by omega) hx)
            omega
    · rw [List.length_append, List.length_take]; omega
theorem cellOk_rn {F : Fm} {S T S0 T0 : Sto} {l : Option Nat} (s : SimS F S T) (s0 : SimS F S0 T0) (h : ∀ k, l = some k → k < S0.length) (hl : S0.length ≤ S.length) : cellOk (l.map F.rn) T0 T = cellOk l S0 S := by
  cases l with
  | none => rfl
  | some k =>
    have hk := h k rfl
    show decide (T[F.rn k]? = T0[F.rn k]?) = decide (S[k]? = S0[k]?)
    rw [s.cell k (by omega), s0.cell k hk]
theorem forGo_rn {F : Fm} {n0 : Nat} {l : Option Nat} {S0 T0 : Sto} {t : Tg} {b : XS} [B : LocS b] (s0 : SimS F S0 T0) (hn0 : n0 = S0.length) (hl : ∀ k, l = some k → k < S0.length) : ∀ {ds : List P} {ρ : Env} {S T : Sto} {r : Fl} {S' : Sto}, SimS F S T → WfE S.length ρ → n0 ≤ S.length → forGo n0 l S0 t b ds ρ S = some (r, S') →
    ∃ T', forGo (F.m + (n0 - F.n)) (l.map F.rn) T0 t b ds (Env.rn F ρ) T = some (r.rn F, T') ∧ SimS F S' T' ∧ WfF S'.length r ∧ n0 ≤ S'.length
  | [], ρ, S, T, r, S', s, w, hS, h => by cases h; exact ⟨T, rfl, s, w, hS⟩
  | d :: ds, ρ, S, T, r, S', s, w, hS, h => by
    have hn : F.n ≤ n0 := by rw [hn0]; exact s0.le
    simp only [forGo, Option.bind_eq_some_iff] at h
    obtain ⟨ρ1, h1, ⟨x, S1⟩, h2, h⟩ := h
    obtain ⟨e1, w1⟩ := put_rn (F := F) w h1
    obtain ⟨T1, a1, s1, w2, l1⟩ := B.loc s w1 h2
    have hS1 : n0 ≤ S1.length := Nat.le_trans hS l1
    cases x with
    | nx ρ2 =>
      obtain ⟨g1, g2, g3, g4⟩ := gc_rn hn s1 w2 hS1
      simp only at h
      split at h
      · rename_i c
        obtain ⟨T2, a2, s2, w3, l2⟩ := forGo_rn s0 hn0 hl (ds := ds) g2 g3 g4 h
        refine ⟨T2, ?_, s2, w3, l2⟩
        have ce := cellOk_rn g2 s0 hl (by rw [← hn0]; exact g4)
        simp only [forGo, e1, Option.bind_some]
        rw [a1]
        show (if cellOk _ _ (gc _ (Env.rn F ρ2) T1).2 = true then forGo _ _ _ _ _ _ (gc _ (Env.rn F ρ2) T1).1 (gc _ (Env.rn F ρ2) T1).2 else none) = _
        rw [ce, if_pos c, g1]
        exact a2
      · cases h
    | ct ρ2 =>
      obtain ⟨g1, g2, g3, g4⟩ := gc_rn hn s1 w2 hS1
      simp only at h
      split at h
      · rename_i c
        obtain ⟨T2, a2, s2, w3, l2⟩ := forGo_rn s0 hn0 hl (ds := ds) g2 g3 g4 h
        refine ⟨T2, ?_, s2, w3, l2⟩
        have ce := cellOk_rn g2 s0 hl (by rw [← hn0]; exact g4)
        simp only [forGo, e1, Option.bind_some]
        rw [a1]
        show (if cellOk _ _ (gc _ (Env.rn F ρ2) T1).2 = true then forGo _ _ _ _ _ _ (gc _ (Env.rn F ρ2) T1).1 (gc _ (Env.rn F ρ2) T1).2 else none) = _
        rw [ce, if_pos c, g1]
        exact a2
      · cases h
    | bk ρ2 => cases h; exact ⟨T1, by simp only [forGo, e1, Option.bind_some, a1, Fl.rn], s1, w2, hS1⟩
    | rt r => cases h; exact ⟨T1, by simp only [forGo, e1, Option.bind_some, a1, Fl.rn], s1, w2, hS1⟩
instance {it : XI} {t : Tg} {b : XS} [I : LocI it] [B : LocS b] : LocS (xFor it t b) := ⟨fun {F S T ρ r S'} s w h => by
  simp only [xFor, Option.bind_eq_some_iff] at h
  obtain ⟨⟨ds, l, S1⟩, h1, h⟩ := h
  obtain ⟨T1, a1, s1, w1, l1⟩ := I.loc s w h1
  simp only at h
  obtain ⟨T2, a2, s2, w2, l2⟩ := forGo_rn (B := B) s1 rfl w1 s1 (w.mono l1) (Nat.le_refl _) h
  refine ⟨T2, ?_, s2, w2, Nat.le_trans l1 l2⟩
  simp only [xFor, a1, Option.bind_some]
  rw [s1.len]; exact a2⟩
theorem whGo_rn {F : Fm} {n0 : Nat} {t : XT} {b : XS} [C : LocT t] [B : LocS b] (hn : F.n ≤ n0) : ∀ {k : Nat} {ρ : Env} {S T : Sto} {r : Fl} {S' : Sto}, SimS F S T → WfE S.length ρ → n0 ≤ S.length → whGo n0 t b k ρ S = some (r, S') →
    ∃ T', whGo (F.m + (n0 - F.n)) t b k (Env.rn F ρ) T = some (r.rn F, T') ∧ SimS F S' T' ∧ WfF S'.length r ∧ n0 ≤ S'.length
  | 0, ρ, S, T, r, S', s, w, hS, h => by cases h
  | k + 1, ρ, S, T, r, S', s, w, hS, h => by
    simp only [whGo, Option.bind_eq_some_iff] at h
    obtain ⟨⟨c, S0⟩, h0, h⟩ := h
    obtain ⟨T0, a0, s0, l0⟩ := C.loc s w h0
    cases c with
    | false => cases h; exact ⟨T0, by simp [whGo, a0, Fl.rn], s0, w.mono l0, Nat.le_trans hS l0⟩
    | true =>
      simp only [if_true, Option.bind_eq_some_iff] at h
      obtain ⟨⟨x, S1⟩, h2, h⟩ := h
      obtain ⟨T1, a1, s1, w2, l1⟩ := B.loc s0 (w.mono l0) h2
      have hS1 : n0 ≤ S1.length := Nat.le_trans hS (Nat.le_trans l0 l1)
      cases x with
      | nx ρ2 =>
        obtain ⟨g1, g2, g3, g4⟩ := gc_rn hn s1 w2 hS1
        obtain ⟨T2, a2, s2, w3, l2⟩ := whGo_rn hn (k := k) g2 g3 g4 h
        refine ⟨T2, ?_, s2, w3, l2⟩
        simp only [whGo, a0, Option.bind_some, a1, Fl.rn, if_true]
        rw [g1]
        exact a2
      | ct ρ2 =>
        obtain ⟨g1, g2, g3, g4⟩ := gc_rn hn s1 w2 hS1
        obtain ⟨T2, a2, s2, w3, l2⟩ := whGo_rn hn (k := k) g2 g3 g4 h
        refine ⟨T2, ?_, s2, w3, l2⟩
        simp only [whGo, a0, Option.bind_some, a1, Fl.rn, if_true]
        rw [g1]
        exact a2
      | bk ρ2 => cases h; exact ⟨T1, by simp only [whGo, a0, Option.bind_some, a1, Fl.rn, if_true], s1, w2, hS1⟩
      | rt r => cases h; exact ⟨T1, by simp only [whGo, a0, Option.bind_some, a1, Fl.rn, if_true], s1, w2, hS1⟩
instance {n : Nat} {t : XT} {b : XS} [C : LocT t] [B : LocS b] : LocS (xWhile n t b) := ⟨fun {F S T ρ r S'} s w h => by
  obtain ⟨T2, a2, s2, w2, l2⟩ := whGo_rn (C := C) (B := B) s.le s w (Nat.le_refl _) h
  refine ⟨T2, ?_, s2, w2, l2⟩
  unfold xWhile
  rw [s.len]; exact a2⟩
/-! what is walked -/
instance {a : XE} [A : LocE a] : LocI (xIt a) := ⟨fun {F S T ρ r l S'} s w h => by
  simp only [xIt, Option.bind_eq_some_iff] at h
  obtain ⟨⟨x, S1⟩, h1, h⟩ := h
  obtain ⟨T1, a1, s1, w1, l1⟩ := A.loc s w h1
  simp only at h
  split at h
  · cases h; exact ⟨T1, by simp [xIt, a1, R.rn], s1, (fun _ z => nomatch z), l1⟩
  · cases h; exact ⟨T1, by simp [xIt, a1, R.rn], s1, (fun _ z => nomatch z), l1⟩
  · cases h; exact ⟨T1, by simp [xIt, a1, R.rn], s1, (fun _ z => nomatch z), l1⟩
  · rename_i k
    split at h
    · rename_i ds e
      cases h
      have hk := (List.getElem?_eq_some_iff.mp e).1
      exact ⟨T1, by simp [xIt, a1, R.rn, s1.cell k hk, e], s1, fun _ z => by cases z; exact hk, l1⟩
    · cases h
  · cases h⟩
instance {a : XE} [A : LocE a] : LocI (xItS a) := ⟨fun {F S T ρ r l S'} s w h => by
  simp only [xItS, Option.bind_eq_some_iff] at h
  obtain ⟨⟨x, S1⟩, h1, h⟩ := h
  obtain ⟨T1, a1, s1, w1, l1⟩ := A.loc s w h1
  simp only at h
  split at h
  · cases h; exact ⟨T1, by simp [xItS, a1, R.rn], s1, (fun _ z => nomatch z), l1⟩
  · cases h⟩
instance {a : XE} [A : LocE a] : LocI (xItA a) := ⟨fun {F S T ρ r l S'} s w h => by
  unfold xItA at h
  split at h
  · rename_i st S1 e
    obtain ⟨T1, a1, s1, w1, l1⟩ := LocI.loc (x := xItS a) s w h
    obtain ⟨T2, a2, _⟩ := A.loc s w e
    exact ⟨T1, by simp only [xItA, a2, R.rn, a1], s1, w1, l1⟩
  · rename_i ne
    have h0 := h
    simp only [xIt, Option.bind_eq_some_iff] at h0
    obtain ⟨⟨x, S1⟩, h1, _⟩ := h0
    obtain ⟨T1, a1, s1, w1, l1⟩ := LocI.loc (x := xIt a) s w h
    obtain ⟨T2, a2, _⟩ := A.loc s w h1
    refine ⟨T1, ?_, s1, w1, l1⟩
    unfold xItA
    split
    · rename_i st S2 e
      rw [a2] at e
      cases x with
      | p d => cases e; exact absurd h1 (ne _ _)
      | ref _ => cases e
      | frl _ => cases e
      | frd _ _ => cases e
    · exact a1⟩
instance {a : XE} [A : LocE a] : LocI (xRng1 a) := ⟨fun {F S T ρ r l S'} s w h => by
  simp only [xRng1, Option.bind_eq_some_iff] at h
  obtain ⟨⟨x, S1⟩, h1, h⟩ := h
  obtain ⟨T1, a1, s1, w1, l1⟩ := A.loc s w h1
  simp only at h
  split at h
  · split at h
    · rename_i c; cases h; exact ⟨T1, by simp [xRng1, a1, R.rn, c], s1, (fun _ z => nomatch z), l1⟩
    · cases h
  · cases h⟩
instance {a b : XE} [A : LocE a] [B : LocE b] : LocI (xRng2 a b) := ⟨fun {F S T ρ r l S'} s w h => by
  simp only [xRng2, Option.bind_eq_some_iff] at h
  obtain ⟨⟨x, S1⟩, h1, ⟨y, S2⟩, h2, h⟩ := h
  obtain ⟨T1, a1, s1, w1, l1⟩ := A.loc s w h1
  obtain ⟨T2, a2, s2, w2, l2⟩ := B.loc s1 (w.mono l1) h2
  simp only at h
  split at h
  · split at h
    · rename_i c; cases h
      exact ⟨T2, by simp only [xRng2, a1, a2, Option.bind_some, R.rn]; rw [if_pos c]; rfl, s2, (fun _ z => nomatch z), by (try simp only at *); omega⟩
    · cases h
  · cases h⟩
instance {i : Nat} : LocI (xItL i) := ⟨fun {F S T ρ r l S'} s w h => by
  unfold xItL at h
  split at h
  · rename_i k e
    split at h
    · rename_i kvs c
      cases h
      have hk := (List.getElem?_eq_some_iff.mp c).1
      exact ⟨T, by simp [xItL, rn_get, e, D.rn, s.cell k hk, c], s, fun _ z => by cases z; exact hk, Nat.le_refl _⟩
    · cases h
  · cases h⟩
/-! comprehensions -/
theorem wipe_rn {F : Fm} {ρ : Env} : ∀ {vs : List Nat}, wipeE (Env.rn F ρ) vs = Env.rn F (wipeE ρ vs)
  | [] => rfl
  | v :: vs => by show (wipeE _ vs).set v none = Env.rn F ((wipeE ρ vs).set v none); rw [wipe_rn (vs := vs), rn_set]; rfl
theorem WfE.wipe {k : Nat} {ρ : Env} (w : WfE k ρ) : ∀ {vs : List Nat}, WfE k (wipeE ρ vs)
  | [] => w
  | v :: vs => (w.wipe (vs := vs)).put (fun x hx => by cases hx)
theorem lcGo_rn {F : Fm} {l : Option Nat} {S0 T0 : Sto} {t : Tg} {c : XT} {e : XE} [C : LocT c] [E : LocE e] (s0 : SimS F S0 T0) (hl : ∀ k, l = some k → k < S0.length) : ∀ {ds acc : List P} {ρ : Env} {S T : Sto} {r : List P} {S' : Sto}, SimS F S T → WfE S.length ρ → S0.length ≤ S.length → lcGo l S0 t c e ρ ds acc S = some (r, S') →
    ∃ T', lcGo (l.map F.rn) T0 t c e (Env.rn F ρ) ds acc T = some (r, T') ∧ SimS F S' T' ∧ S.length ≤ S'.length
  | [], acc, ρ, S, T, r, S', s, w, hS, h => by cases h; exact ⟨T, rfl, s, Nat.le_refl _⟩
  | d :: ds, acc, ρ, S, T, r, S', s, w, hS, h => by
    simp only [lcGo, Option.bind_eq_some_iff] at h
    obtain ⟨ρ1, h1, ⟨x, S1⟩, h2, h⟩ := h
    obtain ⟨e1, w1⟩ := put_rn (F := F) w h1
    obtain ⟨T1, a1, s1, l1⟩ := C.loc s w1 h2
    cases x with
    | true =>
      simp only [if_true, Option.bind_eq_some_iff] at h
      obtain ⟨⟨y, S2⟩, h3, v, hv, h⟩ := h
      obtain ⟨T2, a2, s2, w2, l2⟩ := E.loc s1 (w1.mono l1) h3
      split at h
      · rename_i q
        have ce := cellOk_rn s2 s0 hl (by (try simp only at *); omega)
        obtain ⟨T3, a3, s3, l3⟩ := lcGo_rn s0 hl (ds := ds) s2 (w.mono (Nat.le_trans l1 l2)) (by (try simp only at *); omega) h
        refine ⟨T3, ?_, s3, by (try simp only at *); omega⟩
        have hv' : (y.rn F).fz = some v := by rw [rn_fz]; exact hv
        simp only [lcGo, e1, Option.bind_some, a1, if_true, a2, hv', ce]
        rw [if_pos q]; exact a3
      · cases h
    | false =>
      simp only [Bool.false_eq_true, if_false] at h
      split at h
      · rename_i q
        have ce := cellOk_rn s1 s0 hl (by omega)
        obtain ⟨T3, a3, s3, l3⟩ := lcGo_rn s0 hl (ds := ds) s1 (w.mono l1) (by omega) h
        refine ⟨T3, ?_, s3, by omega⟩
        simp only [lcGo, e1, Option.bind_some, a1, Bool.false_eq_true, if_false, ce]
        rw [if_pos q]; exact a3
      · cases h
instance {it : XI} {t : Tg} {c : XT} {e : XE} {vs : List Nat} [I : LocI it] [C : LocT c] [E : LocE e] : LocE (xLc it t c e vs) := ⟨fun {F S T ρ r S'} s w h => by
  simp only [xLc, Option.bind_eq_some_iff, Option.map_eq_some_iff, Prod.mk.injEq] at h
  obtain ⟨⟨ds, l, S1⟩, h1, ⟨y, S2⟩, h2, rfl, rfl⟩ := h
  obtain ⟨T1, a1, s1, w1, l1⟩ := I.loc s w h1
  obtain ⟨T2, a2, s2, l2⟩ := lcGo_rn (C := C) (E := E) s1 w1 s1 ((w.wipe (vs := vs)).mono l1) (Nat.le_refl _) h2
  refine ⟨T2, ?_, s2, trivial, Nat.le_trans l1 l2⟩
  rw [← wipe_rn] at a2
  simp only [xLc, a1, Option.bind_some, a2, Option.map_some, R.rn]⟩
theorem lc2Go_rn {F : Fm} {l : Option Nat} {S0 T0 : Sto} {t t1 : Tg} {c c1 : XT} {it1 : XI} {e : XE} {vs1 : List Nat} [C : LocT c] [I1 : LocI it1] [C1 : LocT c1] [E : LocE e] (s0 : SimS F S0 T0) (hl : ∀ k, l = some k → k < S0.length) : ∀ {ds acc : List P} {ρ : Env} {S T : Sto} {r : List P} {S' : Sto}, SimS F S T → WfE S.length ρ → S0.length ≤ S.length → lc2Go l S0 t c it1 t1 c1 e ρ vs1 ds acc S = some (r, S') →
    ∃ T', lc2Go (l.map F.rn) T0 t c it1 t1 c1 e (Env.rn F ρ) vs1 ds acc T = some (r, T') ∧ SimS F S' T' ∧ S.length ≤ S'.length
  | [], acc, ρ, S, T, r, S', s, w, hS, h => by cases h; exact ⟨T, rfl, s, Nat.le_refl _⟩
  | d :: ds, acc, ρ, S, T, r, S', s, w, hS, h => by
    simp only [lc2Go, Option.bind_eq_some_iff] at h
    obtain ⟨ρ1, h1, ⟨x, S1⟩, h2, h⟩ := h
    obtain ⟨e1, w1⟩ := put_rn (F := F) w h1
    obtain ⟨T1, a1, s1, l1⟩ := C.loc s w1 h2
    cases x with
    | true =>
      simp only [if_true, Option.bind_eq_some_iff] at h
      obtain ⟨⟨zs, zl, S2⟩, h3, ⟨y, S3⟩, h4, h⟩ := h
      obtain ⟨T2, a2, s2, w2, l2⟩ := I1.loc s1 (w1.mono l1) h3
      obtain ⟨T3, a3, s3, l3⟩ := lcGo_rn (C := C1) (E := E) s2 w2 s2 ((w1.wipe (vs := vs1)).mono (Nat.le_trans l1 l2)) (Nat.le_refl _) h4
      split at h
      · rename_i q
        have ce := cellOk_rn s3 s0 hl (by (try simp only at *); omega)
        obtain ⟨T4, a4, s4, l4⟩ := lc2Go_rn s0 hl (ds := ds) s3 (w.mono (by (try simp only at *); omega)) (by (try simp only at *); omega) h
        refine ⟨T4, ?_, s4, by (try simp only at *); omega⟩
        rw [← wipe_rn] at a3
        simp only [lc2Go, e1, Option.bind_some, a1, if_true, a2, a3, ce]
        rw [if_pos q]; exact a4
      · cases h
    | false =>
      simp only [Bool.false_eq_true, if_false] at h
      split at h
      · rename_i q
        have ce := cellOk_rn s1 s0 hl (by omega)
        obtain ⟨T3, a3, s3, l3⟩ := lc2Go_rn s0 hl (ds := ds) s1 (w.mono l1) (by omega) h
        refine ⟨T3, ?_, s3, by omega⟩
        simp only [lc2Go, e1, Option.bind_some, a1, Bool.false_eq_true, if_false, ce]
        rw [if_pos q]; exact a3
      · cases h
instance {it it1 : XI} {t t1 : Tg} {c c1 : XT} {e : XE} {vs vs1 : List Nat} [I : LocI it] [C : LocT c] [I1 : LocI it1] [C1 : LocT c1] [E : LocE e] : LocE (xLc2 it t c it1 t1 c1 e vs vs1) := ⟨fun {F S T ρ r S'} s w h => by
  simp only [xLc2, Option.bind_eq_some_iff, Option.map_eq_some_iff, Prod.mk.injEq] at h
  obtain ⟨⟨ds, l, S1⟩, h1, ⟨y, S2⟩, h2, rfl, rfl⟩ := h
  obtain ⟨T1, a1, s1, w1, l1⟩ := I.loc s w h1
  obtain ⟨T2, a2, s2, l2⟩ := lc2Go_rn (C := C) (C1 := C1) (I1 := I1) (E := E) s1 w1 s1 ((w.wipe (vs := vs)).mono l1) (Nat.le_refl _) h2
  refine ⟨T2, ?_, s2, trivial, Nat.le_trans l1 l2⟩
  rw [← wipe_rn] at a2
  simp only [xLc2, a1, Option.bind_some, a2, Option.map_some, R.rn]⟩
/-! methods, stores -/
instance {ty : Ty} {f : P → List P → Option R} {o : XE} {a : XA} [N : NewM f] [O : LocE o] [A : LocA a] : LocE (xMeth ty f o a) := ⟨fun {F S T ρ r S'} s w h => by
  simp only [xMeth, Option.bind_eq_some_iff] at h
  obtain ⟨⟨x, S1⟩, h1, p0, h2, h⟩ := h
  obtain ⟨T1, a1, s1, w1, l1⟩ := O.loc s w h1
  split at h
  · rename_i c
    simp only [Option.bind_eq_some_iff, Option.map_eq_some_iff, Prod.mk.injEq] at h
    obtain ⟨⟨y, S2⟩, h3, p, hp, ps, hps, r', hf, rfl, rfl⟩ := h
    obtain ⟨T2, a2, s2, w2, l2⟩ := A.loc s1 (w.mono l1) h3
    obtain ⟨e, we⟩ := rn_new (F := F) (k := S2.length) (N.new _ _ _ hf)
    refine ⟨T2, ?_, s2, we, by (try simp only at *); omega⟩
    have q1 := s1.rd h2
    have q2 := s2.rd hp
    have q3 := s2.rds hps
    simp only [xMeth, a1, Option.bind_some, q1, c, if_true, a2, q2, q3, hf, Option.map_some, e]
  · cases h⟩
instance {o a : XE} [O : LocE o] [A : LocE a] : LocE (xApp o a) := ⟨fun {F S T ρ r S'} s w h => by
  simp only [xApp, Option.bind_eq_some_iff] at h
  obtain ⟨⟨x, S1⟩, h1, h⟩ := h
  obtain ⟨T1, a1, s1, w1, l1⟩ := O.loc s w h1
  cases x with
  | ref l =>
    simp only at h
    split at h
    · rename_i ds0 e0
      have hl : l < S1.length := w1
      simp only [Option.bind_eq_some_iff] at h
      obtain ⟨⟨y, S2⟩, h2, h⟩ := h
      obtain ⟨T2, a2, s2, w2, l2⟩ := A.loc s1 (w.mono l1) h2
      simp only at h
      split at h
      · rename_i ds e
        have hl2 : l < S2.length := Nat.lt_of_lt_of_le hl l2
        simp only [Option.bind_eq_some_iff] at h
        obtain ⟨d, hd, h⟩ := h
        split at h
        · rename_i c
          cases h
          refine ⟨_, ?_, s2.put hl2 _, trivial, by rw [List.length_set]; (try simp only at *); omega⟩
          have hd' : (y.rn F).fz = some d := by rw [rn_fz]; exact hd
          have q1 : T1[F.rn l]? = some (.lst ds0) := by rw [s1.cell l hl]; exact e0
          have q2 : T2[F.rn l]? = some (.lst ds) := by rw [s2.cell l hl2]; exact e
          have a1' : o (Env.rn F ρ) T = some (.ref (F.rn l), T1) := a1
          simp only [xApp, a1', Option.bind_some, q1, a2, q2, hd']
          rw [if_pos c]; rfl
        · cases h
      · cases h
    · cases h
  | p _ => cases h
  | frl _ => cases h
  | frd _ _ => cases h⟩
instance {o a : XE} [O : LocE o] [A : LocE a] : LocE (xExt o a) := ⟨fun {F S T ρ r S'} s w h => by
  simp only [xExt, Option.bind_eq_some_iff] at h
  obtain ⟨⟨x, S1⟩, h1, h⟩ := h
  obtain ⟨T1, a1, s1, w1, l1⟩ := O.loc s w h1
  cases x with
  | ref l =>
    simp only at h
    split at h
    · rename_i ds0 e0
      have hl : l < S1.length := w1
      simp only [Option.bind_eq_some_iff] at h
      obtain ⟨⟨y, S2⟩, h2, h⟩ := h
      obtain ⟨T2, a2, s2, w2, l2⟩ := A.loc s1 (w.mono l1) h2
      simp only at h
      split at h
      · rename_i ds e
        have hl2 : l < S2.length := Nat.lt_of_lt_of_le hl l2
        cases y with
        | frl es =>
          simp only at h
          split at h
          · rename_i c
            cases h
            refine ⟨_, ?_, s2.put hl2 _, trivial, by rw [List.length_set]; (try simp only at *); omega⟩
            have q1 : T1[F.rn l]? = some (.lst ds0) := by rw [s1.cell l hl]; exact e0
            have q2 : T2[F.rn l]? = some (.lst ds) := by rw [s2.cell l hl2]; exact e
            have a1' : o (Env.rn F ρ) T = some (.ref (F.rn l), T1) := a1
            have a2' : a (Env.rn F ρ) T1 = some (.frl es, T2) := a2
            simp only [xExt, a1', Option.bind_some, q1, a2', q2]
            rw [if_pos c]; rfl
          · cases h
        | p _ => cases h
        | ref _ => cases h
        | frd _ _ => cases h
      · cases h
    · cases h
  | p _ => cases h
  | frl _ => cases h
  | frd _ _ => cases h⟩
instance {o : XE} [O : LocE o] : LocE (xPop o) := ⟨fun {F S T ρ r S'} s w h => by
  simp only [xPop, Option.bind_eq_some_iff] at h
  obtain ⟨⟨x, S1⟩, h1, h⟩ := h
  obtain ⟨T1, a1, s1, w1, l1⟩ := O.loc s w h1
  cases x with
  | ref l =>
    simp only at h
    split at h
    · rename_i ds e
      have hl : l < S1.length := w1
      split at h
      · rename_i d hd
        cases h
        refine ⟨_, ?_, s1.put hl _, trivial, by rw [List.length_set]; exact l1⟩
        have q1 : T1[F.rn l]? = some (.lst ds) := by rw [s1.cell l hl]; exact e
        have a1' : o (Env.rn F ρ) T = some (.ref (F.rn l), T1) := a1
        simp only [xPop, a1', Option.bind_some, q1, hd]; rfl
      · cases h
    · cases h
  | p _ => cases h
  | frl _ => cases h
  | frd _ _ => cases h⟩
instance {e o i : XE} [E : LocE e] [O : LocE o] [I : LocE i] : LocS (xPutL e o i) := ⟨fun {F S T ρ r S'} s w h => by
  simp only [xPutL, Option.bind_eq_some_iff] at h
  obtain ⟨⟨v, S1⟩, h1, ⟨x, S2⟩, h2, ⟨y, S3⟩, h3, h⟩ := h
  obtain ⟨T1, a1, s1, w1, l1⟩ := E.loc s w h1
  obtain ⟨T2, a2, s2, w2, l2⟩ := O.loc s1 (w.mono l1) h2
  obtain ⟨T3, a3, s3, w3, l3⟩ := I.loc s2 (w.mono (Nat.le_trans l1 l2)) h3
  simp only at h
  split at h
  · rename_i l j
    split at h
    · rename_i ds c
      simp only [Option.bind_eq_some_iff, Option.map_eq_some_iff, Prod.mk.injEq] at h
      obtain ⟨d, hd, k, hk, rfl, rfl⟩ := h
      have hl : l < S3.length := Nat.lt_of_lt_of_le w2 l3
      refine ⟨_, ?_, s3.put hl _, ?_, by rw [List.length_set]; (try simp only at *); omega⟩
      · have hd' : (v.rn F).fz = some d := by rw [rn_fz]; exact hd
        have q1 : T3[F.rn l]? = some (.lst ds) := by rw [s3.cell l hl]; exact c
        have a2' : o (Env.rn F ρ) T1 = some (.ref (F.rn l), T2) := a2
        have a3' : i (Env.rn F ρ) T2 = some (.p (.int j), T3) := a3
        simp only [xPutL, a1, a2', a3', Option.bind_some, q1, hd', hk, Option.map_some]; rfl
      · show WfE _ ρ
        rw [List.length_set]; exact w.mono (by (try simp only at *); omega)
    · cases h
  · cases h⟩
/-! dicts -/
theorem SimS.dict {F : Fm} {S T : Sto} (s : SimS F S T) {r : R} {d : Bool × List (P × P)} (h : r.dict S = some d) : (r.rn F).dict T = some d := by
  cases r with
  | ref l =>
    simp only [R.dict] at h
    split at h
    · rename_i e
      have hl := (List.getElem?_eq_some_iff.mp e).1
      simp only [R.rn, R.dict, s.cell l hl, e]; exact h
    · cases h
  | p _ => cases h
  | frl _ => cases h
  | frd _ _ => cases h
instance {t : Bool} : LocE (xNewD t) := ⟨fun {F S T ρ r S'} s w h => by cases h; exact ⟨T, rfl, s, trivial, Nat.le_refl _⟩⟩
instance {o i : XE} [O : LocE o] [I : LocE i] : LocE (xGetD o i) := ⟨fun {F S T ρ r S'} s w h => by
  simp only [xGetD, Option.bind_eq_some_iff] at h
  obtain ⟨⟨x, S1⟩, h1, ⟨y, S2⟩, h2, d, hd, k, hk, h⟩ := h
  obtain ⟨T1, a1, s1, w1, l1⟩ := O.loc s w h1
  obtain ⟨T2, a2, s2, w2, l2⟩ := I.loc s1 (w.mono l1) h2
  split at h
  · rename_i c
    simp only [Option.map_eq_some_iff, Prod.mk.injEq] at h
    obtain ⟨v, hv, rfl, rfl⟩ := h
    have q1 := s2.dict hd
    have q2 := s2.rd hk
    refine ⟨T2, ?_, s2, trivial, by (try simp only at *); omega⟩
    simp only [xGetD, a1, Option.bind_some, a2, q1, q2, c, if_true, hv, Option.map_some]; rfl
  · cases h⟩
instance {n : Bool} {o i : XE} [O : LocE o] [I : LocE i] : LocE (xInD n i o) := ⟨fun {F S T ρ r S'} s w h => by
  simp only [xInD, Option.bind_eq_some_iff] at h
  obtain ⟨⟨x, S1⟩, h1, ⟨y, S2⟩, h2, d, hd, k, hk, h⟩ := h
  obtain ⟨T1, a1, s1, w1, l1⟩ := I.loc s w h1
  obtain ⟨T2, a2, s2, w2, l2⟩ := O.loc s1 (w.mono l1) h2
  split at h
  · rename_i c
    cases h
    have q1 := s2.dict hd
    have q2 := s2.rd hk
    refine ⟨T2, ?_, s2, trivial, by (try simp only at *); omega⟩
    simp only [xInD, a1, Option.bind_some, a2, q1, q2, c, if_true]; rfl
  · cases h⟩
instance {e o i : XE} [E : LocE e] [O : LocE o] [I : LocE i] : LocS (xPutD e o i) := ⟨fun {F S T ρ r S'} s w h => by
  simp only [xPutD, Option.bind_eq_some_iff] at h
  obtain ⟨⟨v, S1⟩, h1, ⟨x, S2⟩, h2, ⟨y, S3⟩, h3, h⟩ := h
  obtain ⟨T1, a1, s1, w1, l1⟩ := E.loc s w h1
  obtain ⟨T2, a2, s2, w2, l2⟩ := O.loc s1 (w.mono l1) h2
  obtain ⟨T3, a3, s3, w3, l3⟩ := I.loc s2 (w.mono (Nat.le_trans l1 l2)) h3
  cases x with
  | ref l =>
    simp only at h
    split at h
    · rename_i kvs c
      simp only [Option.bind_eq_some_iff] at h
      obtain ⟨d, hd, k, hk, h⟩ := h
      split at h
      · rename_i q
        cases h
        have hl : l < S3.length := Nat.lt_of_lt_of_le w2 l3
        refine ⟨_, ?_, s3.put hl _, ?_, by rw [List.length_set]; (try simp only at *); omega⟩
        · have hd' : (v.rn F).fz = some d := by rw [rn_fz]; exact hd
          have q1 : T3[F.rn l]? = some (.dct false false kvs) := by rw [s3.cell l hl]; exact c
          have q2 := s3.rd hk
          have a2' : o (Env.rn F ρ) T1 = some (.ref (F.rn l), T2) := a2
          simp only [xPutD, a1, a2', a3, Option.bind_some, q1, hd', q2]
          rw [if_pos q]; rfl
        · show WfE _ ρ
          rw [List.length_set]; exact w.mono (by (try simp only at *); omega)
      · cases h
    · cases h
  | p _ => cases h
  | frl _ => cases h
  | frd _ _ => cases h⟩
instance {o : XE} [O : LocE o] : LocE (xLenD o) := ⟨fun {F S T ρ r S'} s w h => by
  simp only [xLenD, Option.bind_eq_some_iff] at h
  obtain ⟨⟨x, S1⟩, h1, h⟩ := h
  obtain ⟨T1, a1, s1, w1, l1⟩ := O.loc s w h1
  cases x with
  | ref l =>
    simp only at h
    split at h
    · rename_i kvs c
      cases h
      have q1 : T1[F.rn l]? = some (.dct false false kvs) := by rw [s1.cell l w1]; exact c
      exact ⟨T1, by simp only [xLenD, a1, Option.bind_some, R.rn, q1], s1, trivial, l1⟩
    · cases h
  | p _ => cases h
  | frl _ => cases h
  | frd _ _ => cases h⟩
instance {o : XE} [O : LocE o] : LocE (xSortedD o) := ⟨fun {F S T ρ r S'} s w h => by
  simp only [xSortedD, Option.bind_eq_some_iff] at h
  obtain ⟨⟨x, S1⟩, h1, h⟩ := h
  obtain ⟨T1, a1, s1, w1, l1⟩ := O.loc s w h1
  cases x with
  | ref l =>
    simp only at h
    split at h
    · rename_i kvs c
      split at h
      · rename_i q
        cases h
        have q1 : T1[F.rn l]? = some (.dct false false kvs) := by rw [s1.cell l w1]; exact c
        exact ⟨T1, by simp only [xSortedD, a1, Option.bind_some, R.rn, q1]; rw [if_pos q], s1, trivial, l1⟩
      · cases h
    · cases h
  | p _ => cases h
  | frl _ => cases h
  | frd _ _ => cases h⟩
instance {i : Nat} {x : XS} [X : LocS x] : LocS (xLockS i x) := ⟨fun {F S T ρ r S'} s w h => by
  unfold xLockS at h
  split at h
  · rename_i l e
    split at h
    · rename_i t kvs c
      have hl := (List.getElem?_eq_some_iff.mp c).1
      simp only [Option.bind_eq_some_iff] at h
      obtain ⟨⟨fl, S1⟩, h1, h⟩ := h
      obtain ⟨T1, a1, s1, w1, l1⟩ := X.loc (s.put hl (.dct true t kvs)) (by rw [List.length_set]; exact w) h1
      rw [List.length_set] at l1
      split at h
      · rename_i q
        cases h
        have hl1 : l < S1.length := Nat.lt_of_lt_of_le hl l1
        refine ⟨_, ?_, s1.put hl1 _, by rw [List.length_set]; exact w1, by rw [List.length_set]; exact l1⟩
        have q1 : T[F.rn l]? = some (.dct false t kvs) := by rw [s.cell l hl]; exact c
        have q2 : T1[F.rn l]? = some (.dct true t kvs) := by rw [s1.cell l hl1]; exact q
        simp only [xLockS, rn_get, e, Option.map_some, D.rn, q1, a1, Option.bind_some, q2, if_true]
      · cases h
    · cases h
  · cases h⟩
instance {i : Nat} {x : XE} [X : LocE x] : LocE (xLockE i x) := ⟨fun {F S T ρ r S'} s w h => by
  unfold xLockE at h
  split at h
  · rename_i l e
    split at h
    · rename_i t kvs c
      have hl := (List.getElem?_eq_some_iff.mp c).1
      simp only [Option.bind_eq_some_iff] at h
      obtain ⟨⟨fl, S1⟩, h1, h⟩ := h
      obtain ⟨T1, a1, s1, w1, l1⟩ := X.loc (s.put hl (.dct true t kvs)) (by rw [List.length_set]; exact w) h1
      rw [List.length_set] at l1
      split at h
      · rename_i q
        cases h
        have hl1 : l < S1.length := Nat.lt_of_lt_of_le hl l1
        refine ⟨_, ?_, s1.put hl1 _, by rw [List.length_set]; exact w1, by rw [List.length_set]; exact l1⟩
        have q1 : T[F.rn l]? = some (.dct false t kvs) := by rw [s.cell l hl]; exact c
        have q2 : T1[F.rn l]? = some (.dct true t kvs) := by rw [s1.cell l hl1]; exact q
        simp only [xLockE, rn_get, e, Option.map_some, D.rn, q1, a1, Option.bind_some, q2, if_true]
      · cases h
    · cases h
  · cases h⟩
end XL
end
section
set_option Elab.async false
set_option linter.all false
set_option autoImplicit false
set_option maxRecDepth 100000
set_option maxHeartbeats 1000000
namespace XL
instance : NewB pAdd := ⟨by intro p q r h l e; subst e; unfold pAdd at h; repeat' split at h; all_goals first | cases h | simp at h⟩
instance : NewB pSub := ⟨by intro p q r h l e; subst e; unfold pSub at h; repeat' split at h; all_goals first | cases h | simp at h⟩
instance : NewB pMul := ⟨by intro p q r h l e; subst e; unfold pMul at h; repeat' split at h; all_goals first | cases h | simp at h⟩
instance : NewB pDiv := ⟨by intro p q r h l e; subst e; unfold pDiv at h; repeat' split at h; all_goals first | cases h | simp at h⟩
instance : NewB pMod := ⟨by intro p q r h l e; subst e; unfold pMod at h; repeat' split at h; all_goals first | cases h | simp at h⟩
instance : NewB pPow := ⟨by intro p q r h l e; subst e; unfold pPow at h; repeat' split at h; all_goals first | cases h | simp at h⟩
instance : NewB pLt := ⟨by intro p q r h l e; subst e; unfold pLt at h; repeat' split at h; all_goals first | cases h | simp at h⟩
instance : NewB pLe := ⟨by intro p q r h l e; subst e; unfold pLe at h; repeat' split at h; all_goals first | cases h | simp at h⟩
instance : NewB pGt := ⟨by intro p q r h l e; subst e; unfold pGt at h; repeat' split at h; all_goals first | cases h | simp at h⟩
instance : NewB pGe := ⟨by intro p q r h l e; subst e; unfold pGe at h; repeat' split at h; all_goals first | cases h | simp at h⟩
instance : NewB pEq := ⟨by intro p q r h l e; subst e; unfold pEq at h; repeat' split at h; all_goals first | cases h | simp at h⟩
instance : NewB pNe := ⟨by intro p q r h l e; subst e; unfold pNe at h; repeat' split at h; all_goals first | cases h | simp at h⟩
instance : NewB pIs := ⟨by intro p q r h l e; subst e; unfold pIs at h; repeat' split at h; all_goals first | cases h | simp at h⟩
instance : NewB pIsNot := ⟨by intro p q r h l e; subst e; unfold pIsNot at h; repeat' split at h; all_goals first | cases h | simp at h⟩
instance : NewB pIn := ⟨by intro p q r h l e; subst e; unfold pIn at h; repeat' split at h; all_goals first | cases h | simp at h⟩
instance : NewB pNotIn := ⟨by intro p q r h l e; subst e; unfold pNotIn at h; repeat' split at h; all_goals first | cases h | simp at h⟩
instance : NewB pIx := ⟨by intro p q r h l e; subst e; unfold pIx at h; repeat' split at h; all_goals first | cases h | simp [Option.bind_eq_some_iff] at h⟩
instance : NewU pNeg := ⟨by intro p r h l e; subst e; unfold pNeg at h; repeat' split at h; all_goals first | cases h | simp at h⟩
instance {f : P → Bool} : NewU (pIsi f) := ⟨by intro p r h l e; subst e; cases h⟩
instance : NewU uSortedSet := ⟨by intro p r h l e; subst e; unfold uSortedSet at h; repeat' split at h; all_goals first | cases h | simp at h⟩
instance : NewU uLenSet := ⟨by intro p r h l e; subst e; unfold uLenSet at h; repeat' split at h; all_goals first | cases h | simp at h⟩
instance : NewU uListRng := ⟨by intro p r h l e; subst e; unfold uListRng at h; repeat' split at h; all_goals first | cases h | simp at h⟩
instance {t : Tab} : NewU (tabIn t) := ⟨by intro p r h l e; subst e; unfold tabIn at h; repeat' split at h; all_goals first | cases h | simp at h⟩
instance {t : Tab} : NewU (tabGet t) := ⟨by intro p r h l e; subst e; unfold tabGet at h; repeat' split at h; all_goals first | cases h | simp at h⟩
instance : NewC cLen := ⟨by intro p r h l e; subst e; unfold cLen at h; repeat' split at h; all_goals first | cases h | simp at h⟩
instance : NewC cInt := ⟨by intro p r h l e; subst e; unfold cInt at h; repeat' split at h; all_goals first | cases h | simp at h⟩
instance : NewC cTuple := ⟨by intro p r h l e; subst e; unfold cTuple at h; repeat' split at h; all_goals first | cases h | simp at h⟩
instance : NewC cList := ⟨by intro p r h l e; subst e; unfold cList at h; repeat' split at h; all_goals first | cases h | simp at h⟩
instance : NewC cListA := ⟨by intro p r h l e; subst e; unfold cListA at h; repeat' split at h; all_goals first | cases h | simp at h⟩
instance : NewC cAll := ⟨by intro p r h l e; subst e; unfold cAll at h; repeat' split at h; all_goals first | cases h | simp at h⟩
instance : NewC cAny := ⟨by intro p r h l e; subst e; unfold cAny at h; repeat' split at h; all_goals first | cases h | simp at h⟩
instance : NewC cSum := ⟨by intro p r h l e; subst e; unfold cSum at h; repeat' split at h; all_goals first | cases h | simp at h⟩
instance : NewC cMax := ⟨by intro p r h l e; subst e; unfold cMax at h; repeat' split at h; all_goals first | cases h | simp [Option.bind_eq_some_iff] at h⟩
instance : NewC cMin := ⟨by intro p r h l e; subst e; unfold cMin at h; repeat' split at h; all_goals first | cases h | simp [Option.bind_eq_some_iff] at h⟩
instance : NewC cSorted := ⟨by intro p r h l e; subst e; unfold cSorted at h; repeat' split at h; all_goals first | cases h | simp at h⟩
instance : NewM mIndex := ⟨by intro p q r h l e; subst e; unfold mIndex at h; repeat' split at h; all_goals first | cases h | simp at h⟩
instance : NewM mIndexL := ⟨by intro p q r h l e; subst e; unfold mIndexL at h; repeat' split at h; all_goals first | cases h | simp at h⟩
instance : NewM mLower := ⟨by intro p q r h l e; subst e; unfold mLower at h; repeat' split at h; all_goals first | cases h | simp at h⟩
instance : NewM mJoin := ⟨by intro p q r h l e; subst e; unfold mJoin at h; repeat' split at h; all_goals first | cases h | simp [Option.bind_eq_some_iff] at h⟩
instance : NewM mSplit := ⟨by intro p q r h l e; subst e; unfold mSplit at h; repeat' split at h; all_goals first | cases h | simp at h⟩
/-! defs -/
theorem fin_rn {F : Fm} {b : Nat} (hn : F.n ≤ b) {S T : Sto} (s : SimS F S T) (hb : b ≤ S.length) {r r' : R} {S' : Sto} (w : WfR S.length r) (h : finish b r S = some (r', S')) :
    ∃ T', finish (F.m + (b - F.n)) (r.rn F) T = some (r'.rn F, T') ∧ SimS F S' T' ∧ WfR S'.length r' ∧ b = S'.length := by
  have hc := s.cut hn hb
  have hl : (S.take b).length = b := by rw [List.length_take]; omega
  cases r with
  | p d => cases h; exact ⟨_, rfl, hc, trivial, hl.symm⟩
  | frl d => cases h; exact ⟨_, rfl, hc, trivial, hl.symm⟩
  | frd t d => cases h; exact ⟨_, rfl, hc, trivial, hl.symm⟩
  | ref l =>
    have hle := rn_le (F := F) (l := l) hn
    simp only [finish] at h
    split at h
    · rename_i c
      cases h
      refine ⟨_, ?_, hc, by rw [hl]; exact c, hl.symm⟩
      show finish _ (.ref (F.rn l)) T = _
      unfold finish
      simp only
      rw [if_pos (by omega)]; rfl
    · rename_i c
      have hw : l < S.length := w
      split at h
      · rename_i ds e
        cases h
        refine ⟨_, ?_, hc, trivial, hl.symm⟩
        show finish _ (.ref (F.rn l)) T = _
        unfold finish
        simp only
        rw [if_neg (by omega), s.cell l hw, e]; rfl
      · rename_i t ds e
        cases h
        refine ⟨_, ?_, hc, trivial, hl.symm⟩
        show finish _ (.ref (F.rn l)) T = _
        unfold finish
        simp only
        rw [if_neg (by omega), s.cell l hw, e]; rfl
      · cases h
theorem start_rn {F : Fm} {n : Nat} {as : List D} : startE n (as.map (D.rn F)) = Env.rn F (startE n as) := by
  simp [startE, Env.rn]
instance {k n : Nat} {b : XS} [B : LocS b] : LocF (mkF k n b) := ⟨fun {F S T as r S'} s w h => by
  unfold mkF at h
  split at h
  · rename_i hk
    simp only [Option.bind_eq_some_iff] at h
    obtain ⟨⟨fl, S1⟩, h1, h⟩ := h
    have we : WfE S.length (startE n as) := fun d hd => by
      unfold startE at hd
      rcases List.mem_append.mp hd with e | e
      · obtain ⟨x, hx, q⟩ := List.mem_map.mp e
        cases q; exact w _ hx
      · exact nomatch (List.mem_replicate.mp e).2
    obtain ⟨T1, a1, s1, w1, l1⟩ := B.loc s we h1
    rw [← start_rn] at a1
    unfold mkF
    rw [if_pos (by rw [List.length_map]; exact hk), a1]
    simp only [Option.bind_some]
    rw [s.len]
    cases fl with
    | nx ρ => exact fin_rn (r := .p .non) s.le s1 l1 trivial h
    | rt r => exact fin_rn s.le s1 l1 w1 h
    | bk ρ => cases h
    | ct ρ => cases h
  · cases h⟩
/-! what follows for a def -/
/-- no cells -/
theorem frame0 {f : XF} [L : LocF f] {ps : List P} {r : R} (h : f (ps.map D.p) [] = some (r, [])) (S : Sto) : f (ps.map D.p) S = some (r, S) := by
  let F : Fm := ⟨0, S.length, id, S, fun l h => absurd h (Nat.not_lt_zero l), fun l l' h => absurd h (Nat.not_lt_zero l)⟩
  have s : SimS F [] S := ⟨Nat.le_refl _, by simp [F], fun l h => absurd h (Nat.not_lt_zero l), fun j _ _ => rfl⟩
  obtain ⟨T', a, s', w, _⟩ := L.loc s (fun d hd => by obtain ⟨p, _, rfl⟩ := List.mem_map.mp hd; trivial) h
  have e : (ps.map D.p).map (D.rn F) = ps.map D.p := by rw [List.map_map]; rfl
  have er : r.rn F = r := by
    cases r with
    | ref l => exact absurd w (Nat.not_lt_zero l)
    | _ => rfl
  have eT : T' = S := by
    apply List.ext_getElem?
    intro j
    by_cases c : j < S.length
    · exact s'.out j c fun l h => absurd h (Nat.not_lt_zero l)
    · have h1 := s'.len
      simp [F] at h1
      rw [List.getElem?_eq_none (by omega), List.getElem?_eq_none (by omega)]
  rw [e, er, eT] at a
  exact a
/-- one cell at the head -/
theorem frame1 {f : XF} [L : LocF f] {as : List D} {r : R} {C C' : Cell} (h : f as [C] = some (r, [C'])) (hw : ∀ d ∈ as, WfD 1 d) (S : Sto) : f as (C :: S) = some (r, C' :: S) := by
  let F : Fm := ⟨1, S.length + 1, id, C :: S, fun l h => by simp only [id]; omega, fun l l' _ _ e => e⟩
  have rn0 : ∀ l, l < 1 → F.rn l = l := fun l h => by show (if l < 1 then l else _) = l; rw [if_pos h]
  have s : SimS F [C] (C :: S) := ⟨Nat.le_refl _, by simp [F], fun l h => by
    have : l < 1 := h
    rw [rn0 l this]
    have : l = 0 := by omega
    subst this; rfl, fun j _ _ => rfl⟩
  obtain ⟨T', a, s', w, _⟩ := L.loc s hw h
  have e : as.map (D.rn F) = as := by
    have : ∀ d ∈ as, D.rn F d = d := fun d hd => by
      have q := hw d hd
      cases d with
      | p _ => rfl
      | ref l => show D.ref (F.rn l) = _; rw [rn0 l q]
    exact (List.map_congr_left this).trans (List.map_id' _)
  have er : r.rn F = r := by
    cases r with
    | ref l => show R.ref (F.rn l) = _; rw [rn0 l w]
    | _ => rfl
  have eT : T' = C' :: S := by
    apply List.ext_getElem?
    intro j
    have h1 := s'.len
    simp [F] at h1
    by_cases c : j < S.length + 1
    · cases j with
      | zero =>
        have := s'.cell 0 (by simp)
        rw [rn0 0 (by omega)] at this
        exact this
      | succ j => exact s'.out (j + 1) c fun l h => by show id l ≠ _; simp only [id]; have : l < 1 := h; omega
    · rw [List.getElem?_eq_none (by omega), List.getElem?_eq_none (by simp; omega)]
  rw [e, er, eT] at a
  exact a
end XL
end
section
set_option Elab.async false
set_option linter.all false
set_option maxRecDepth 100000
set_option maxHeartbeats 4000000
set_option synthInstance.maxSize 100000
set_option synthInstance.maxHeartbeats 4000000
namespace XL
def c_LETTERS : List Nat := [66, 68, 70, 77, 79, 83, 98, 100, 101, 102, 109, 111, 115]
def t_CONVERSES : Tab := [([98], (.str [66])), ([109], (.str [77])), ([111], (.str [79])), ([115], (.str [83])), ([100], (.str [68])), ([102], (.str [70])), ([101], (.str [101]))]
/-- _law_town(script); slots: script -/
def b_law_town : XS :=
  (xRet (xBin pAdd (xLst (xCons (xC (.int 0)) xNil)) (xCall cListA (xCons (xVar 0) xNil))))
abbrev f_law_town : XF := mkF 1 1 b_law_town
instance : LocS b_law_town := by unfold b_law_town; infer_instance
/-- _law_draw(script, town, limit); slots: script town limit at left number -/
def b_law_draw : XS :=
  (xSeq (xPutL (xBin pAdd (xBin pIx (xVar 1) (xC (.int 0))) (xC (.int 1))) (xVar 1) (xC (.int 0)))
    (xSeq (xIfS (xB (xBin pEq (xVar 0) (xLst xNil)))
    (xRet (xBin pMod (xBin pDiv (xBin pMul (xBin pMul (xBin pIx (xVar 1) (xC (.int 0))) (xBin pIx (xVar 1) (xC (.int 0)))) (xC (.int 7))) (xC (.int 3))) (xVar 2)))
    xPass)
    (xSeq (xSet 3 (xBin pMod (xBin pIx (xVar 1) (xC (.int 0))) (xCall cLen (xCons (xVar 0) xNil))))
    (xSeq (xSet 4 (xBin pIx (xVar 1) (xBin pAdd (xC (.int 1)) (xVar 3))))
    (xSeq (xIfS (xTand (xB (xBin pGe (xBin pIx (xVar 0) (xVar 3)) (xBin pPow (xC (.int 10)) (xC (.int 18))))) (xB (xBin pGt (xVar 4) (xC (.int 0)))))
    (xSeq (xPutL (xBin pDiv (xVar 4) (xVar 2)) (xVar 1) (xBin pAdd (xC (.int 1)) (xVar 3)))
    (xRet (xBin pMod (xVar 4) (xVar 2))))
    xPass)
    (xSeq (xSet 5 (xBin pMod (xBin pAdd (xBin pIx (xVar 0) (xVar 3)) (xBin pMul (xC (.int 104729)) (xBin pIx (xVar 1) (xC (.int 0))))) (xC (.int 4294967291))))
    (xSeq (xSet 5 (xBin pMod (xBin pPow (xVar 5) (xC (.int 5))) (xC (.int 4294967279))))
    (xRet (xBin pMod (xBin pDiv (xBin pMod (xBin pAdd (xBin pMul (xBin pDiv (xVar 5) (xC (.int 64))) (xC (.int 69621))) (xVar 5)) (xC (.int 4294967231))) (xC (.int 8))) (xVar 2))))))))))
abbrev f_law_draw : XF := mkF 3 6 b_law_draw
instance : LocS b_law_draw := by unfold b_law_draw; infer_instance
/-- _law_scene(script, town, spans, far); slots: script town spans far found k begin -/
def b_law_scene : XS :=
  (xSeq (xSet 4 (xLst xNil))
    (xSeq (xFor (xRng1 (xVar 2)) (.nm 5)
    (xSeq (xSet 6 (xDef f_law_draw (xConsD (xVar 0) (xConsD (xVar 1) (xConsD (xVar 3) xNilD)))))
    (xDrop (xApp (xVar 4) (xTup (xCons (xVar 6) (xCons (xBin pAdd (xBin pAdd (xVar 6) (xC (.int 1))) (xDef f_law_draw (xConsD (xVar 0) (xConsD (xVar 1) (xConsD (xVar 3) xNilD))))) xNil)))))))
    (xRet (xCall cTuple (xCons (xVar 4) xNil)))))
abbrev f_law_scene : XF := mkF 4 7 b_law_scene
instance : LocS b_law_scene := by unfold b_law_scene; infer_instance
/-- _law_pick(script, town, choices); slots: script town choices -/
def b_law_pick : XS :=
  (xRet (xBin pIx (xVar 2) (xDef f_law_draw (xConsD (xVar 0) (xConsD (xVar 1) (xConsD (xCall cLen (xCons (xVar 2) xNil)) xNilD))))))
abbrev f_law_pick : XF := mkF 3 3 b_law_pick
instance : LocS b_law_pick := by unfold b_law_pick; infer_instance
/-- is_between(value, low, high); slots: value low high -/
def b_is_between : XS :=
  (xRet (xAnd (xUn (pIsi isiInt) (xVar 0)) (xAnd (xNot (xUn (pIsi isiBool) (xVar 0))) (xChain pLe pLe (xVar 1) (xVar 0) (xVar 2)))))
abbrev f_is_between : XF := mkF 3 3 b_is_between
instance : LocS b_is_between := by unfold b_is_between; infer_instance
/-- is_scene(value); slots: value span -/
def b_is_scene : XS :=
  (xSeq (xIfS (xTor (xTnot (xB (xUn (pIsi isiTuple) (xVar 0)))) (xTnot (xB (xChain pLe pLe (xC (.int 1)) (xCall cLen (xCons (xVar 0) xNil)) (xC (.int 5))))))
    (xRet (xC (.bl false)))
    xPass)
    (xSeq (xFor (xItA (xVar 0)) (.nm 1)
    (xSeq (xIfS (xTor (xTnot (xB (xUn (pIsi isiTuple) (xVar 1)))) (xTor (xB (xBin pNe (xCall cLen (xCons (xVar 1) xNil)) (xC (.int 2)))) (xTnot (xB (xDef f_is_between (xConsD (xBin pIx (xVar 1) (xC (.int 0))) (xConsD (xUn pNeg (xC (.int 1000))) (xConsD (xC (.int 1000)) xNilD))))))))
    (xRet (xC (.bl false)))
    xPass)
    (xIfS (xTnot (xB (xDef f_is_between (xConsD (xBin pIx (xVar 1) (xC (.int 1))) (xConsD (xBin pAdd (xBin pIx (xVar 1) (xC (.int 0))) (xC (.int 1))) (xConsD (xC (.int 1000)) xNilD))))))
    (xRet (xC (.bl false)))
    xPass)))
    (xRet (xC (.bl true)))))
abbrev f_is_scene : XF := mkF 1 2 b_is_scene
instance : LocS b_is_scene := by unfold b_is_scene; infer_instance
/-- check_scene(scene); slots: scene -/
def b_check_scene : XS :=
  (xIfS (xTnot (xB (xDef f_is_scene (xConsD (xVar 0) xNilD))))
    xNever
    xPass)
abbrev f_check_scene : XF := mkF 1 1 b_check_scene
instance : LocS b_check_scene := by unfold b_check_scene; infer_instance
/-- found_form(scene); slots: scene ends span end begin -/
def b_found_form : XS :=
  (xSeq (xSet 1 (xUn uSortedSet (xLc2 (xItA (xVar 0)) (.nm 2) xTyes (xItA (xVar 2)) (.nm 3) xTyes
      (xVar 3) [2, 3] [3])))
    (xRet (xCall cTuple (xCons (xLc (xItA (xVar 0)) (.tp [4, 3]) xTyes
      (xTup (xCons (xMeth .lst mIndex (xVar 1) (xCons (xVar 4) xNil)) (xCons (xMeth .lst mIndex (xVar 1) (xCons (xVar 3) xNil)) xNil))) [4, 3]) xNil))))
abbrev f_found_form : XF := mkF 1 5 b_found_form
instance : LocS b_found_form := by unfold b_found_form; infer_instance
/-- form_of(scene); slots: scene -/
def b_form_of : XS :=
  (xSeq (xDrop (xDef f_check_scene (xConsD (xVar 0) xNilD)))
    (xRet (xDef f_found_form (xConsD (xVar 0) xNilD))))
abbrev f_form_of : XF := mkF 1 1 b_form_of
instance : LocS b_form_of := by unfold b_form_of; infer_instance
/-- _law_normal(scene); slots: scene ends span -/
def b_law_normal : XS :=
  (xSeq (xSet 1 (xUn uSortedSet (xBin pAdd (xLc (xItA (xVar 0)) (.nm 2) xTyes
      (xBin pIx (xVar 2) (xC (.int 0))) [2]) (xLc (xItA (xVar 0)) (.nm 2) xTyes
      (xBin pIx (xVar 2) (xC (.int 1))) [2]))))
    (xRet (xCall cTuple (xCons (xLc (xItA (xVar 0)) (.nm 2) xTyes
      (xTup (xCons (xMeth .lst mIndex (xVar 1) (xCons (xBin pIx (xVar 2) (xC (.int 0))) xNil)) (xCons (xMeth .lst mIndex (xVar 1) (xCons (xBin pIx (xVar 2) (xC (.int 1))) xNil)) xNil))) [2]) xNil))))
abbrev f_law_normal : XF := mkF 1 3 b_law_normal
instance : LocS b_law_normal := by unfold b_law_normal; infer_instance
/-- is_form(value); slots: value -/
def b_is_form : XS :=
  (xRet (xAnd (xDef f_is_scene (xConsD (xVar 0) xNilD)) (xBin pEq (xDef f_found_form (xConsD (xVar 0) xNilD)) (xVar 0))))
abbrev f_is_form : XF := mkF 1 1 b_is_form
instance : LocS b_is_form := by unfold b_is_form; infer_instance
/-- letter_of(one, other); slots: one other -/
def b_letter_of : XS :=
  (xSeq (xIfS (xB (xBin pLe (xBin pIx (xVar 0) (xC (.int 1))) (xBin pIx (xVar 1) (xC (.int 0)))))
    (xRet (xIf (xB (xBin pEq (xBin pIx (xVar 0) (xC (.int 1))) (xBin pIx (xVar 1) (xC (.int 0))))) (xC (.str [109])) (xC (.str [98]))))
    xPass)
    (xSeq (xIfS (xB (xBin pLe (xBin pIx (xVar 1) (xC (.int 1))) (xBin pIx (xVar 0) (xC (.int 0)))))
    (xRet (xIf (xB (xBin pEq (xBin pIx (xVar 1) (xC (.int 1))) (xBin pIx (xVar 0) (xC (.int 0))))) (xC (.str [77])) (xC (.str [66]))))
    xPass)
    (xSeq (xIfS (xB (xBin pEq (xBin pIx (xVar 0) (xC (.int 0))) (xBin pIx (xVar 1) (xC (.int 0)))))
    (xRet (xIf (xB (xBin pEq (xBin pIx (xVar 0) (xC (.int 1))) (xBin pIx (xVar 1) (xC (.int 1))))) (xC (.str [101])) (xIf (xB (xBin pLt (xBin pIx (xVar 0) (xC (.int 1))) (xBin pIx (xVar 1) (xC (.int 1))))) (xC (.str [115])) (xC (.str [83])))))
    xPass)
    (xSeq (xIfS (xB (xBin pEq (xBin pIx (xVar 0) (xC (.int 1))) (xBin pIx (xVar 1) (xC (.int 1)))))
    (xRet (xIf (xB (xBin pGt (xBin pIx (xVar 0) (xC (.int 0))) (xBin pIx (xVar 1) (xC (.int 0))))) (xC (.str [102])) (xC (.str [70]))))
    xPass)
    (xSeq (xIfS (xB (xBin pLt (xBin pIx (xVar 0) (xC (.int 0))) (xBin pIx (xVar 1) (xC (.int 0)))))
    (xRet (xIf (xB (xBin pLt (xBin pIx (xVar 0) (xC (.int 1))) (xBin pIx (xVar 1) (xC (.int 1))))) (xC (.str [111])) (xC (.str [68]))))
    xPass)
    (xRet (xIf (xB (xBin pLt (xBin pIx (xVar 0) (xC (.int 1))) (xBin pIx (xVar 1) (xC (.int 1))))) (xC (.str [100])) (xC (.str [79])))))))))
abbrev f_letter_of : XF := mkF 2 2 b_letter_of
instance : LocS b_letter_of := by unfold b_letter_of; infer_instance
/-- way_of(scene, i, j); slots: scene i j -/
def b_way_of : XS :=
  (xSeq (xDrop (xDef f_check_scene (xConsD (xVar 0) xNilD)))
    (xSeq (xIfS (xTor (xTnot (xB (xDef f_is_between (xConsD (xVar 1) (xConsD (xC (.int 0)) (xConsD (xBin pSub (xCall cLen (xCons (xVar 0) xNil)) (xC (.int 1))) xNilD)))))) (xTnot (xB (xDef f_is_between (xConsD (xVar 2) (xConsD (xC (.int 0)) (xConsD (xBin pSub (xCall cLen (xCons (xVar 0) xNil)) (xC (.int 1))) xNilD)))))))
    xNever
    xPass)
    (xRet (xDef f_letter_of (xConsD (xBin pIx (xVar 0) (xVar 1)) (xConsD (xBin pIx (xVar 0) (xVar 2)) xNilD))))))
abbrev f_way_of : XF := mkF 3 3 b_way_of
instance : LocS b_way_of := by unfold b_way_of; infer_instance
/-- _law_letter(one, other); slots: one other first last -/
def b_law_letter : XS :=
  (xSeq (xIfS (xTor (xB (xBin pLt (xBin pIx (xVar 0) (xC (.int 1))) (xBin pIx (xVar 1) (xC (.int 0))))) (xB (xBin pLt (xBin pIx (xVar 1) (xC (.int 1))) (xBin pIx (xVar 0) (xC (.int 0))))))
    (xRet (xIf (xB (xBin pLt (xBin pIx (xVar 0) (xC (.int 1))) (xBin pIx (xVar 1) (xC (.int 0))))) (xC (.str [98])) (xC (.str [66]))))
    xPass)
    (xSeq (xIfS (xTor (xB (xBin pEq (xBin pIx (xVar 0) (xC (.int 1))) (xBin pIx (xVar 1) (xC (.int 0))))) (xB (xBin pEq (xBin pIx (xVar 1) (xC (.int 1))) (xBin pIx (xVar 0) (xC (.int 0))))))
    (xRet (xIf (xB (xBin pEq (xBin pIx (xVar 0) (xC (.int 1))) (xBin pIx (xVar 1) (xC (.int 0))))) (xC (.str [109])) (xC (.str [77]))))
    xPass)
    (xSeq (xSet 2 (xBin pSub (xBin pAdd (xC (.int 1)) (xCall cInt (xCons (xBin pGt (xBin pIx (xVar 0) (xC (.int 0))) (xBin pIx (xVar 1) (xC (.int 0)))) xNil))) (xCall cInt (xCons (xBin pLt (xBin pIx (xVar 0) (xC (.int 0))) (xBin pIx (xVar 1) (xC (.int 0)))) xNil))))
    (xSeq (xSet 3 (xBin pSub (xBin pAdd (xC (.int 1)) (xCall cInt (xCons (xBin pGt (xBin pIx (xVar 0) (xC (.int 1))) (xBin pIx (xVar 1) (xC (.int 1)))) xNil))) (xCall cInt (xCons (xBin pLt (xBin pIx (xVar 0) (xC (.int 1))) (xBin pIx (xVar 1) (xC (.int 1)))) xNil))))
    (xRet (xBin pIx (xBin pIx (xTup (xCons (xC (.str [111, 70, 68])) (xCons (xC (.str [115, 101, 83])) (xCons (xC (.str [100, 102, 79])) xNil)))) (xVar 2)) (xVar 3)))))))
abbrev f_law_letter : XF := mkF 2 4 b_law_letter
instance : LocS b_law_letter := by unfold b_law_letter; infer_instance
/-- is_ways(value); slots: value letter -/
def b_is_ways : XS :=
  (xSeq (xIfS (xTor (xTnot (xB (xUn (pIsi isiStr) (xVar 0)))) (xB (xBin pEq (xVar 0) (xC (.str [])))))
    (xRet (xC (.bl false)))
    xPass)
    (xRet (xBin pEq (xMeth .str mJoin (xC (.str [])) (xCons (xLc (xItA (xC (.str c_LETTERS))) (.nm 1) (xB (xBin pIn (xVar 1) (xVar 0)))
      (xVar 1) [1]) xNil)) (xVar 0))))
abbrev f_is_ways : XF := mkF 1 2 b_is_ways
instance : LocS b_is_ways := by unfold b_is_ways; infer_instance
/-- check_ways(ways); slots: ways -/
def b_check_ways : XS :=
  (xIfS (xTnot (xB (xDef f_is_ways (xConsD (xVar 0) xNilD))))
    xNever
    xPass)
abbrev f_check_ways : XF := mkF 1 1 b_check_ways
instance : LocS b_check_ways := by unfold b_check_ways; infer_instance
/-- turned(ways); slots: ways some letter -/
def b_turned : XS :=
  (xSeq (xSet 1 (xLc (xItA (xVar 0)) (.nm 2) xTyes
      (xIf (xB (xUn (tabIn t_CONVERSES) (xVar 2))) (xUn (tabGet t_CONVERSES) (xVar 2)) (xMeth .str mLower (xVar 2) xNil)) [2]))
    (xRet (xMeth .str mJoin (xC (.str [])) (xCons (xCall cSorted (xCons (xVar 1) xNil)) xNil))))
abbrev f_turned : XF := mkF 1 3 b_turned
instance : LocS b_turned := by unfold b_turned; infer_instance
/-- converse(ways); slots: ways -/
def b_converse : XS :=
  (xSeq (xDrop (xDef f_check_ways (xConsD (xVar 0) xNilD)))
    (xRet (xDef f_turned (xConsD (xVar 0) xNilD))))
abbrev f_converse : XF := mkF 1 1 b_converse
instance : LocS b_converse := by unfold b_converse; infer_instance
/-- law(script); slots: script town spans scene other later ends i by times all_ways others j letter begin end span -/
def b_law_k02 : XS :=
  (xSeq (xSet 1 (xDef f_law_town (xConsD (xVar 0) xNilD)))
    (xSeq (xSet 2 (xBin pAdd (xC (.int 1)) (xDef f_law_draw (xConsD (xVar 0) (xConsD (xVar 1) (xConsD (xC (.int 5)) xNilD))))))
    (xSeq (xSet 3 (xDef f_law_scene (xConsD (xVar 0) (xConsD (xVar 1) (xConsD (xVar 2) (xConsD (xDef f_law_pick (xConsD (xVar 0) (xConsD (xVar 1) (xConsD (xLst (xCons (xC (.int 2)) (xCons (xC (.int 4)) (xCons (xC (.int 30)) xNil)))) xNilD)))) xNilD))))))
    (xSeq (xSet 4 (xDef f_law_scene (xConsD (xVar 0) (xConsD (xVar 1) (xConsD (xVar 2) (xConsD (xC (.int 2)) xNilD))))))
    (xSeq (xPar [8, 9] (xConsB (xBin pSub (xDef f_law_draw (xConsD (xVar 0) (xConsD (xVar 1) (xConsD (xC (.int 99)) xNilD)))) (xC (.int 50))) (xConsB (xBin pAdd (xC (.int 1)) (xDef f_law_draw (xConsD (xVar 0) (xConsD (xVar 1) (xConsD (xC (.int 9)) xNilD))))) xNilD)))
    (xSeq (xSet 5 (xCall cTuple (xCons (xLc (xItA (xVar 3)) (.tp [14, 15]) xTyes
      (xTup (xCons (xBin pAdd (xBin pMul (xVar 14) (xVar 9)) (xVar 8)) (xCons (xBin pAdd (xBin pMul (xVar 15) (xVar 9)) (xVar 8)) xNil))) [14, 15]) xNil)))
    (xSeq (xIfS (xTor (xB (xBin pNe (xDef f_form_of (xConsD (xVar 3) xNilD)) (xDef f_law_normal (xConsD (xVar 3) xNilD)))) (xTor (xB (xBin pNe (xDef f_form_of (xConsD (xVar 5) xNilD)) (xDef f_form_of (xConsD (xVar 3) xNilD)))) (xB (xBin pIsNot (xDef f_is_form (xConsD (xDef f_form_of (xConsD (xVar 3) xNilD)) xNilD)) (xC (.bl true))))))
    (xRet (xC (.bl false)))
    xPass)
    (xSeq (xSet 6 (xUn uSortedSet (xBin pAdd (xLc (xItA (xDef f_form_of (xConsD (xVar 3) xNilD))) (.nm 16) xTyes
      (xBin pIx (xVar 16) (xC (.int 0))) [16]) (xLc (xItA (xDef f_form_of (xConsD (xVar 3) xNilD))) (.nm 16) xTyes
      (xBin pIx (xVar 16) (xC (.int 1))) [16]))))
    (xSeq (xIfS (xB (xBin pNe (xVar 6) (xUn uListRng (xCall cLen (xCons (xVar 6) xNil)))))
    (xRet (xC (.bl false)))
    xPass)
    (xSeq (xPar [10, 11] (xConsB (xLst xNil) (xConsB (xLst xNil) xNilD)))
    (xSeq (xFor (xRng1 (xVar 2)) (.nm 7)
    (xFor (xRng1 (xVar 2)) (.nm 12)
    (xSeq (xSet 13 (xDef f_way_of (xConsD (xVar 3) (xConsD (xVar 7) (xConsD (xVar 12) xNilD)))))
    (xSeq (xIfS (xTor (xB (xBin pNe (xVar 13) (xDef f_law_letter (xConsD (xBin pIx (xVar 3) (xVar 7)) (xConsD (xBin pIx (xVar 3) (xVar 12)) xNilD))))) (xB (xBin pNe (xVar 13) (xDef f_way_of (xConsD (xVar 5) (xConsD (xVar 7) (xConsD (xVar 12) xNilD)))))))
    (xRet (xC (.bl false)))
    xPass)
    (xSeq (xIfS (xTor (xB (xBin pNe (xDef f_way_of (xConsD (xVar 3) (xConsD (xVar 12) (xConsD (xVar 7) xNilD)))) (xDef f_converse (xConsD (xVar 13) xNilD)))) (xTand (xB (xBin pEq (xVar 7) (xVar 12))) (xB (xBin pNe (xVar 13) (xC (.str [101]))))))
    (xRet (xC (.bl false)))
    xPass)
    (xSeq (xDrop (xApp (xVar 10) (xVar 13)))
    (xDrop (xApp (xVar 11) (xDef f_way_of (xConsD (xVar 4) (xConsD (xVar 7) (xConsD (xVar 12) xNilD))))))))))))
    (xRet (xBin pEq (xBin pEq (xVar 10) (xVar 11)) (xBin pEq (xDef f_form_of (xConsD (xVar 4) xNilD)) (xDef f_form_of (xConsD (xVar 3) xNilD))))))))))))))))
abbrev f_law_k02 : XF := mkF 1 17 b_law_k02
instance : LocS b_law_k02 := by unfold b_law_k02; infer_instance
end XL
end
section
set_option Elab.async false
set_option linter.all false
set_option maxRecDepth 100000
set_option maxHeartbeats 4000000
set_option synthInstance.maxSize 100000
set_option synthInstance.maxHeartbeats 4000000
namespace XL
def t_COMPOSED : Tab := [([66], (.str [66, 32, 66, 32, 66, 32, 66, 32, 66, 32, 66, 32, 66, 68, 70, 77, 79, 83, 98, 100, 101, 102, 109, 111, 115, 32, 66, 77, 79, 100, 102, 32, 66, 32, 66, 32, 66, 77, 79, 100, 102, 32, 66, 77, 79, 100, 102, 32, 66, 77, 79, 100, 102])), ([68], (.str [66, 68, 77, 79, 83, 32, 68, 32, 68, 32, 68, 79, 83, 32, 68, 79, 83, 32, 68, 32, 68, 70, 98, 109, 111, 32, 68, 70, 79, 83, 100, 101, 102, 111, 115, 32, 68, 32, 68, 79, 83, 32, 68, 70, 111, 32, 68, 70, 111, 32, 68, 70, 111])), ([70], (.str [66, 68, 77, 79, 83, 32, 68, 32, 70, 32, 68, 79, 83, 32, 68, 79, 83, 32, 68, 32, 98, 32, 100, 111, 115, 32, 70, 32, 70, 101, 102, 32, 109, 32, 111, 32, 111])), ([77], (.str [66, 32, 66, 32, 77, 32, 66, 32, 66, 32, 66, 32, 68, 70, 98, 109, 111, 32, 79, 100, 102, 32, 77, 32, 77, 32, 83, 101, 115, 32, 79, 100, 102, 32, 79, 100, 102])), ([79], (.str [66, 32, 66, 68, 77, 79, 83, 32, 68, 79, 83, 32, 66, 32, 66, 77, 79, 32, 66, 77, 79, 32, 68, 70, 98, 109, 111, 32, 79, 100, 102, 32, 79, 32, 79, 32, 68, 70, 111, 32, 68, 70, 79, 83, 100, 101, 102, 111, 115, 32, 79, 100, 102])), ([83], (.str [66, 32, 68, 32, 68, 32, 77, 32, 79, 32, 83, 32, 68, 70, 98, 109, 111, 32, 79, 100, 102, 32, 83, 32, 79, 32, 68, 70, 111, 32, 68, 70, 111, 32, 83, 101, 115])), ([98], (.str [66, 68, 70, 77, 79, 83, 98, 100, 101, 102, 109, 111, 115, 32, 98, 32, 98, 32, 98, 100, 109, 111, 115, 32, 98, 100, 109, 111, 115, 32, 98, 32, 98, 32, 98, 100, 109, 111, 115, 32, 98, 32, 98, 100, 109, 111, 115, 32, 98, 32, 98, 32, 98])), ([100], (.str [66, 32, 66, 68, 70, 77, 79, 83, 98, 100, 101, 102, 109, 111, 115, 32, 98, 100, 109, 111, 115, 32, 66, 32, 66, 77, 79, 100, 102, 32, 66, 77, 79, 100, 102, 32, 98, 32, 100, 32, 100, 32, 100, 32, 98, 32, 98, 100, 109, 111, 115, 32, 100])), ([101], (.str [66, 32, 68, 32, 70, 32, 77, 32, 79, 32, 83, 32, 98, 32, 100, 32, 101, 32, 102, 32, 109, 32, 111, 32, 115])), ([102], (.str [66, 32, 66, 68, 77, 79, 83, 32, 70, 101, 102, 32, 66, 32, 66, 77, 79, 32, 66, 77, 79, 32, 98, 32, 100, 32, 102, 32, 102, 32, 109, 32, 100, 111, 115, 32, 100])), ([109], (.str [66, 68, 77, 79, 83, 32, 98, 32, 98, 32, 70, 101, 102, 32, 100, 111, 115, 32, 109, 32, 98, 32, 100, 111, 115, 32, 109, 32, 100, 111, 115, 32, 98, 32, 98, 32, 109])), ([111], (.str [66, 68, 77, 79, 83, 32, 68, 70, 98, 109, 111, 32, 98, 109, 111, 32, 68, 79, 83, 32, 68, 70, 79, 83, 100, 101, 102, 111, 115, 32, 68, 70, 111, 32, 98, 32, 100, 111, 115, 32, 111, 32, 100, 111, 115, 32, 98, 32, 98, 109, 111, 32, 111])), ([115], (.str [66, 32, 68, 70, 98, 109, 111, 32, 98, 109, 111, 32, 77, 32, 79, 100, 102, 32, 83, 101, 115, 32, 98, 32, 100, 32, 115, 32, 100, 32, 98, 32, 98, 109, 111, 32, 115]))]
/-- _law_forms(spans); slots: spans begin k every rows later row end one -/
def b_law_forms : XS :=
  (xSeq (xPar [3, 4] (xConsB (xLst xNil) (xConsB (xLst (xCons (xTup xNil) xNil)) xNilD)))
    (xSeq (xFor (xRng1 (xBin pMul (xC (.int 2)) (xVar 0))) (.nm 1)
    (xSet 3 (xBin pAdd (xVar 3) (xLc (xRng2 (xBin pAdd (xVar 1) (xC (.int 1))) (xBin pMul (xC (.int 2)) (xVar 0))) (.nm 7) xTyes
      (xTup (xCons (xVar 1) (xCons (xVar 7) xNil))) [7]))))
    (xSeq (xFor (xRng1 (xVar 0)) (.nm 2)
    (xSeq (xSet 5 (xLst xNil))
    (xSeq (xFor (xItA (xVar 4)) (.nm 6)
    (xSet 5 (xBin pAdd (xVar 5) (xLc (xItA (xVar 3)) (.nm 8) xTyes
      (xBin pAdd (xVar 6) (xTup (xCons (xVar 8) xNil))) [8]))))
    (xSet 4 (xVar 5)))))
    (xRet (xLc (xItA (xVar 4)) (.nm 6) (xB (xBin pEq (xDef f_law_normal (xConsD (xVar 6) xNilD)) (xVar 6)))
      (xVar 6) [6])))))
abbrev f_law_forms : XF := mkF 1 9 b_law_forms
instance : LocS b_law_forms := by unfold b_law_forms; infer_instance
/-- composition(first, second); slots: first second found one row other letter -/
def b_composition : XS :=
  (xSeq (xSet 2 (xNewD false))
    (xSeq (xFor (xItA (xVar 0)) (.nm 3)
    (xSeq (xSet 4 (xMeth .str mSplit (xUn (tabGet t_COMPOSED) (xVar 3)) (xCons (xC (.str [32])) xNil)))
    (xSeq (xFor (xItA (xVar 1)) (.nm 5)
    (xFor (xItA (xBin pIx (xVar 4) (xMeth .str mIndexL (xC (.str c_LETTERS)) (xCons (xVar 5) xNil)))) (.nm 6)
    (xPutD (xC (.bl true)) (xVar 2) (xVar 6))))
    (xIfS (xB (xBin pEq (xLenD (xVar 2)) (xCall cLen (xCons (xC (.str c_LETTERS)) xNil))))
    (xRet (xC (.str c_LETTERS)))
    xPass))))
    (xRet (xMeth .str mJoin (xC (.str [])) (xCons (xSortedD (xVar 2)) xNil)))))
abbrev f_composition : XF := mkF 2 7 b_composition
instance : LocS b_composition := by unfold b_composition; infer_instance
/-- composed(first, second); slots: first second -/
def b_composed : XS :=
  (xSeq (xDrop (xDef f_check_ways (xConsD (xVar 0) xNilD)))
    (xSeq (xDrop (xDef f_check_ways (xConsD (xVar 1) xNilD)))
    (xRet (xDef f_composition (xConsD (xVar 0) (xConsD (xVar 1) xNilD))))))
abbrev f_composed : XF := mkF 2 2 b_composed
instance : LocS b_composed := by unfold b_composed; infer_instance
/-- _law_some(script, town); slots: script town every way_many k -/
def b_law_some : XS :=
  (xSeq (xPar [2, 3] (xConsB (xCall cListA (xCons (xC (.str [66, 68, 70, 77, 79, 83, 98, 100, 101, 102, 109, 111, 115])) xNil)) (xConsB (xDef f_law_pick (xConsD (xVar 0) (xConsD (xVar 1) (xConsD (xLst (xCons (xC (.int 1)) (xCons (xC (.int 1)) (xCons (xC (.int 2)) (xCons (xC (.int 3)) (xCons (xC (.int 4)) (xCons (xC (.int 6)) (xCons (xC (.int 9)) (xCons (xC (.int 12)) (xCons (xC (.int 13)) xNil)))))))))) xNilD)))) xNilD)))
    (xRet (xMeth .str mJoin (xC (.str [])) (xCons (xUn uSortedSet (xLc (xRng1 (xVar 3)) (.nm 4) xTyes
      (xDef f_law_pick (xConsD (xVar 0) (xConsD (xVar 1) (xConsD (xVar 2) xNilD)))) [4])) xNil))))
abbrev f_law_some : XF := mkF 2 5 b_law_some
instance : LocS b_law_some := by unfold b_law_some; infer_instance
/-- law(script); slots: script town due form found both first second third k -/
def b_law_k03 : XS :=
  (xSeq (xSet 1 (xDef f_law_town (xConsD (xVar 0) xNilD)))
    (xSeq (xUnpL [6, 7, 8] (xLc (xRng1 (xC (.int 3))) (.nm 9) xTyes
      (xDef f_law_some (xConsD (xVar 0) (xConsD (xVar 1) xNilD))) [9]))
    (xSeq (xSet 2 (xNewD false))
    (xSeq (xFor (xItA (xDef f_law_forms (xConsD (xC (.int 3)) xNilD))) (.nm 3)
    (xIfS (xTand (xB (xBin pIn (xDef f_law_letter (xConsD (xBin pIx (xVar 3) (xC (.int 0))) (xConsD (xBin pIx (xVar 3) (xC (.int 1))) xNilD))) (xVar 6))) (xB (xBin pIn (xDef f_law_letter (xConsD (xBin pIx (xVar 3) (xC (.int 1))) (xConsD (xBin pIx (xVar 3) (xC (.int 2))) xNilD))) (xVar 7))))
    (xPutD (xC (.bl true)) (xVar 2) (xDef f_law_letter (xConsD (xBin pIx (xVar 3) (xC (.int 0))) (xConsD (xBin pIx (xVar 3) (xC (.int 2))) xNilD))))
    xPass))
    (xSeq (xSet 4 (xDef f_composed (xConsD (xVar 6) (xConsD (xVar 7) xNilD))))
    (xSeq (xIfS (xTor (xB (xBin pNe (xVar 4) (xMeth .str mJoin (xC (.str [])) (xCons (xSortedD (xVar 2)) xNil)))) (xB (xBin pIsNot (xDef f_is_ways (xConsD (xVar 4) xNilD)) (xC (.bl true)))))
    (xRet (xC (.bl false)))
    xPass)
    (xSeq (xIfS (xTor (xB (xBin pNe (xDef f_composed (xConsD (xVar 6) (xConsD (xC (.str [101])) xNilD))) (xVar 6))) (xB (xBin pNe (xDef f_composed (xConsD (xC (.str [101])) (xConsD (xVar 6) xNilD))) (xVar 6))))
    (xRet (xC (.bl false)))
    xPass)
    (xSeq (xIfS (xTor (xB (xBin pNe (xDef f_converse (xConsD (xVar 4) xNilD)) (xDef f_composed (xConsD (xDef f_converse (xConsD (xVar 7) xNilD)) (xConsD (xDef f_converse (xConsD (xVar 6) xNilD)) xNilD))))) (xB (xBin pNe (xDef f_converse (xConsD (xDef f_converse (xConsD (xVar 6) xNilD)) xNilD)) (xVar 6))))
    (xRet (xC (.bl false)))
    xPass)
    (xSeq (xIfS (xB (xBin pNe (xDef f_composed (xConsD (xDef f_composed (xConsD (xVar 6) (xConsD (xVar 7) xNilD))) (xConsD (xVar 8) xNilD))) (xDef f_composed (xConsD (xVar 6) (xConsD (xDef f_composed (xConsD (xVar 7) (xConsD (xVar 8) xNilD))) xNilD)))))
    (xRet (xC (.bl false)))
    xPass)
    (xSeq (xSet 5 (xMeth .str mJoin (xC (.str [])) (xCons (xUn uSortedSet (xCall cListA (xCons (xBin pAdd (xVar 6) (xVar 8)) xNil))) xNil)))
    (xSeq (xSet 2 (xMeth .str mJoin (xC (.str [])) (xCons (xUn uSortedSet (xCall cListA (xCons (xBin pAdd (xVar 4) (xDef f_composed (xConsD (xVar 8) (xConsD (xVar 7) xNilD)))) xNil))) xNil)))
    (xSeq (xIfS (xTor (xB (xBin pNe (xDef f_composed (xConsD (xVar 5) (xConsD (xVar 7) xNilD))) (xVar 2))) (xB (xBin pNotIn (xC (.str [101])) (xDef f_composed (xConsD (xVar 6) (xConsD (xDef f_converse (xConsD (xVar 6) xNilD)) xNilD))))))
    (xRet (xC (.bl false)))
    xPass)
    (xRet (xAnd (xBin pEq (xDef f_composed (xConsD (xC (.str [98])) (xConsD (xC (.str [66])) xNilD))) (xC (.str [66, 68, 70, 77, 79, 83, 98, 100, 101, 102, 109, 111, 115]))) (xAnd (xBin pEq (xDef f_composed (xConsD (xC (.str [109])) (xConsD (xC (.str [77])) xNilD))) (xC (.str [70, 101, 102]))) (xBin pEq (xDef f_composed (xConsD (xC (.str [100])) (xConsD (xC (.str [100])) xNilD))) (xC (.str [100]))))))))))))))))))
abbrev f_law_k03 : XF := mkF 1 10 b_law_k03
instance : LocS b_law_k03 := by unfold b_law_k03; infer_instance
end XL
end
section
set_option Elab.async false
set_option linter.all false
set_option maxRecDepth 100000
set_option maxHeartbeats 4000000
set_option synthInstance.maxSize 100000
set_option synthInstance.maxHeartbeats 4000000
namespace K03
open PySem L2 PyProof.Rows XL

def topS (i : Nat) : Stmt := PySem.Challenge.pw_spansure_k03_whole_compositions.main.body.getD i (.Pass ⟨0, 0, 0, 0⟩)
abbrev s_law_town : Stmt := topS 14
theorem sc_law_town : FnScope ["script"] ["script"] (defScope s_law_town) := ⟨rfl, rfl, rfl, by decide +kernel, rfl, by decide +kernel, by decide +kernel⟩
abbrev s_law_normal : Stmt := topS 19
theorem sc_law_normal : FnScope ["scene", "ends", "span"] ["scene"] (defScope s_law_normal) := ⟨rfl, rfl, rfl, by decide +kernel, rfl, by decide +kernel, by decide +kernel⟩
abbrev s_law_forms : Stmt := topS 20
theorem sc_law_forms : FnScope ["spans", "begin", "k", "every", "rows", "later", "row", "end", "one"] ["spans"] (defScope s_law_forms) := ⟨rfl, rfl, rfl, by decide +kernel, rfl, by decide +kernel, by decide +kernel⟩
abbrev s_is_ways : Stmt := topS 7
theorem sc_is_ways : FnScope ["value", "letter"] ["value"] (defScope s_is_ways) := ⟨rfl, rfl, rfl, by decide +kernel, rfl, by decide +kernel, by decide +kernel⟩
abbrev s_check_ways : Stmt := topS 8
theorem sc_check_ways : FnScope ["ways"] ["ways"] (defScope s_check_ways) := ⟨rfl, rfl, rfl, by decide +kernel, rfl, by decide +kernel, by decide +kernel⟩
abbrev s_composition : Stmt := topS 11
theorem sc_composition : FnScope ["first", "second", "found", "one", "row", "other", "letter"] ["first", "second"] (defScope s_composition) := ⟨rfl, rfl, rfl, by decide +kernel, rfl, by decide +kernel, by decide +kernel⟩
abbrev s_composed : Stmt := topS 12
theorem sc_composed : FnScope ["first", "second"] ["first", "second"] (defScope s_composed) := ⟨rfl, rfl, rfl, by decide +kernel, rfl, by decide +kernel, by decide +kernel⟩
abbrev s_law_draw : Stmt := topS 15
theorem sc_law_draw : FnScope ["script", "town", "limit", "at", "left", "number"] ["script", "town", "limit"] (defScope s_law_draw) := ⟨rfl, rfl, rfl, by decide +kernel, rfl, by decide +kernel, by decide +kernel⟩
abbrev s_law_pick : Stmt := topS 16
theorem sc_law_pick : FnScope ["script", "town", "choices"] ["script", "town", "choices"] (defScope s_law_pick) := ⟨rfl, rfl, rfl, by decide +kernel, rfl, by decide +kernel, by decide +kernel⟩
abbrev s_law_some : Stmt := topS 18
theorem sc_law_some : FnScope ["script", "town", "every", "way_many", "k"] ["script", "town"] (defScope s_law_some) := ⟨rfl, rfl, rfl, by decide +kernel, rfl, by decide +kernel, by decide +kernel⟩
abbrev s_turned : Stmt := topS 9
theorem sc_turned : FnScope ["ways", "some", "letter"] ["ways"] (defScope s_turned) := ⟨rfl, rfl, rfl, by decide +kernel, rfl, by decide +kernel, by decide +kernel⟩
abbrev s_converse : Stmt := topS 10
theorem sc_converse : FnScope ["ways"] ["ways"] (defScope s_converse) := ⟨rfl, rfl, rfl, by decide +kernel, rfl, by decide +kernel, by decide +kernel⟩
abbrev s_law_letter : Stmt := topS 17
theorem sc_law_letter : FnScope ["one", "other", "first", "last"] ["one", "other"] (defScope s_law_letter) := ⟨rfl, rfl, rfl, by decide +kernel, rfl, by decide +kernel, by decide +kernel⟩
abbrev s_law_k03 : Stmt := topS 21
theorem sc_law_k03 : FnScope ["script", "town", "due", "form", "found", "both", "first", "second", "third", "k"] ["script"] (defScope s_law_k03) := ⟨rfl, rfl, rfl, by decide +kernel, rfl, by decide +kernel, by decide +kernel⟩
structure Txt (w : World) (K : PySem.W.Frag) (mg : Str → Option Value) : Prop where
  z_int : mg "int" = none
  z_isinstance : mg "isinstance" = none
  z_len : mg "len" = none
  z_list : mg "list" = none
  z_range : mg "range" = none
  z_set : mg "set" = none
  z_sorted : mg "sorted" = none
  z_str : mg "str" = none
  z_tuple : mg "tuple" = none
  g_LETTERS : StrG mg "LETTERS" c_LETTERS
  t_CONVERSES : TabG K w mg "CONVERSES" t_CONVERSES
  t_COMPOSED : TabG K w mg "COMPOSED" t_COMPOSED
section
variable {P : Program} {w : World} {K : PySem.W.Frag} {mg : Str → Option Value}
theorem ok_law_town (T : Txt w K mg) (F : FunAt K mg "_law_town" s_law_town ["script"])  : DefOk P w K mg 1 "_law_town" ["script"] 1 1 b_law_town :=
  def_ok (j := 0) F sc_law_town rfl rfl fun base f cdv A outer s H E hr =>
    (xss_one (xs_ret (xe_bin op_addX (xe_lst (xa_cons xe_int xa_nil)) (xe_callTy (cr_listA rfl) (by rfl) T.z_list (by decide +kernel) (xa_cons (xv 0) xa_nil)))))
theorem ok_law_normal (T : Txt w K mg) (F : FunAt K mg "_law_normal" s_law_normal ["scene"])  : DefOk P w K mg 1 "_law_normal" ["scene"] 1 3 b_law_normal :=
  def_ok (j := 0) F sc_law_normal rfl rfl fun base f cdv A outer s H E hr =>
    (xss_cons (xs_set (i := 1) sc_law_normal.nd rfl (by first | exact .inl rfl | exact .inr rfl) (xe_sortedSet (rm64 hr) rfl (by rfl) T.z_sorted (by rfl) T.z_set (xe_bin op_addX (xe_lc rfl sc_law_normal.nd (xi_any (xv 0)) (own := [("span", 2)]) (blkOk_by (by kernel_rfl)) (fun _ _ _ _ _ => (xg_name (i := 2) sc_law_normal.nd rfl (by first | exact .inl rfl | exact .inr rfl))) (fun _ _ _ _ _ => xts_nil) (fun _ _ _ _ _ => (xe_ix (xv 2) xe_int (fun _ _ => rfl)))) (xe_lc rfl sc_law_normal.nd (xi_any (xv 0)) (own := [("span", 2)]) (blkOk_by (by kernel_rfl)) (fun _ _ _ _ _ => (xg_name (i := 2) sc_law_normal.nd rfl (by first | exact .inl rfl | exact .inr rfl))) (fun _ _ _ _ _ => xts_nil) (fun _ _ _ _ _ => (xe_ix (xv 2) xe_int (fun _ _ => rfl)))))))
    (xss_one (xs_ret (xe_callTy cr_tuple (by rfl) T.z_tuple (by decide +kernel) (xa_cons (xe_lc rfl sc_law_normal.nd (xi_any (xv 0)) (own := [("span", 2)]) (blkOk_by (by kernel_rfl)) (fun _ _ _ _ _ => (xg_name (i := 2) sc_law_normal.nd rfl (by first | exact .inl rfl | exact .inr rfl))) (fun _ _ _ _ _ => xts_nil) (fun _ _ _ _ _ => (xe_tup (xa_cons (xe_meth (ty := .lst) PySem.F.plainAttrs_list PySem.F.slot_list_index PySem.F.type_list_index (mt_indexX (rm65 hr)) (xv 1) (xa_cons (xe_ix (xv 2) xe_int (fun _ _ => rfl)) xa_nil)) (xa_cons (xe_meth (ty := .lst) PySem.F.plainAttrs_list PySem.F.slot_list_index PySem.F.type_list_index (mt_indexX (rm65 hr)) (xv 1) (xa_cons (xe_ix (xv 2) xe_int (fun _ _ => rfl)) xa_nil)) xa_nil))))) xa_nil)))))
theorem ok_law_forms (T : Txt w K mg) (F : FunAt K mg "_law_forms" s_law_forms ["spans"]) (D_law_normal : DefOk P w K mg 1 "_law_normal" ["scene"] 1 3 b_law_normal) : DefOk P w K mg 2 "_law_forms" ["spans"] 1 9 b_law_forms :=
  def_ok (j := 1) F sc_law_forms rfl rfl fun base f cdv A outer s H E hr =>
    (xss_cons (by first | exact xs_par (i := 3) (j := 4) rfl sc_law_forms.nd rfl rfl (by decide) rfl rfl (xd_consB (xe_lst xa_nil) (xd_consB (xe_lst (xa_cons (xe_tup xa_nil) xa_nil)) xd_nil)) rfl | exact (xs_parT (is := [3, 4]) (xd_consB (xe_lst xa_nil) (xd_consB (xe_lst (xa_cons (xe_tup xa_nil) xa_nil)) xd_nil)) rfl (pgs_cons (pg_name (i := 3) sc_law_forms.nd rfl (by first | exact .inl rfl | exact .inr rfl)) (pgs_cons (pg_name (i := 4) sc_law_forms.nd rfl (by first | exact .inl rfl | exact .inr rfl)) pgs_nil)) (by decide)))
    (xss_cons (xs_for PassesOwn.never rfl (xi_rng1 (by rfl) T.z_range (xe_bin op_mulX xe_int (xv 0))) (xg_name (i := 1) sc_law_forms.nd rfl (by first | exact .inl rfl | exact .inr rfl))
    (xss_one (xs_set (i := 3) sc_law_forms.nd rfl (by first | exact .inl rfl | exact .inr rfl) (xe_bin op_addX (xv 3) (xe_lc rfl sc_law_forms.nd (xi_rng2 (by rfl) T.z_range (xe_bin op_addX (xv 1) xe_int) (xe_bin op_mulX xe_int (xv 0))) (own := [("end", 7)]) (blkOk_by (by kernel_rfl)) (fun _ _ _ _ _ => (xg_name (i := 7) sc_law_forms.nd rfl (by first | exact .inl rfl | exact .inr rfl))) (fun _ _ _ _ _ => xts_nil) (fun _ _ _ _ _ => (xe_tup (xa_cons (xv 1) (xa_cons (xv 7) xa_nil)))))))))
    (xss_cons (xs_for PassesOwn.never rfl (xi_rng1 (by rfl) T.z_range (xv 0)) (xg_name (i := 2) sc_law_forms.nd rfl (by first | exact .inl rfl | exact .inr rfl))
    (xss_cons (xs_set (i := 5) sc_law_forms.nd rfl (by first | exact .inl rfl | exact .inr rfl) (xe_lst xa_nil))
    (xss_cons (xs_for PassesOwn.never rfl (xi_any (xv 4)) (xg_name (i := 6) sc_law_forms.nd rfl (by first | exact .inl rfl | exact .inr rfl))
    (xss_one (xs_set (i := 5) sc_law_forms.nd rfl (by first | exact .inl rfl | exact .inr rfl) (xe_bin op_addX (xv 5) (xe_lc rfl sc_law_forms.nd (xi_any (xv 3)) (own := [("one", 8)]) (blkOk_by (by kernel_rfl)) (fun _ _ _ _ _ => (xg_name (i := 8) sc_law_forms.nd rfl (by first | exact .inl rfl | exact .inr rfl))) (fun _ _ _ _ _ => xts_nil) (fun _ _ _ _ _ => (xe_bin op_addX (xv 6) (xe_tup (xa_cons (xv 8) xa_nil)))))))))
    (xss_one (xs_set (i := 4) sc_law_forms.nd rfl (by first | exact .inl rfl | exact .inr rfl) (xv 5))))))
    (xss_one (xs_ret (xe_lc rfl sc_law_forms.nd (xi_any (xv 4)) (own := [("row", 6)]) (blkOk_by (by kernel_rfl)) (fun _ _ _ _ _ => (xg_name (i := 6) sc_law_forms.nd rfl (by first | exact .inl rfl | exact .inr rfl))) (fun _ _ _ _ _ => (xts_one (xt_cmp (op_eqX (rm64 hr)) (xe_defD D_law_normal (hr.mono (by decide)) (by rfl) (xd_cons (xv 6) xd_nil)) (xv 6) rfl))) (fun _ _ _ _ _ => (xv 6))))))))
theorem ok_is_ways (T : Txt w K mg) (F : FunAt K mg "is_ways" s_is_ways ["value"])  : DefOk P w K mg 1 "is_ways" ["value"] 1 2 b_is_ways :=
  def_ok (j := 0) F sc_is_ways rfl rfl fun base f cdv A outer s H E hr =>
    (xss_cons (xs_if ((xt_or (xt_not (xt_B (xe_isi (by rfl) T.z_isinstance (by rfl) T.z_str XL.boot_str isi_str (xv 0)))) (xt_or1 (xt_cmp (op_eqX (rm64 hr)) (xv 0) (xe_str (by rfl)) rfl)))).pt (xss_one (xs_ret xe_bl)) xss_nil)
    (xss_one (xs_ret (xe_cmp (op_eqX (rm64 hr)) (xe_meth (ty := .str) PySem.F.plainAttrs_str PySem.F.slot_str_join PySem.F.type_str_join mt_joinX (xe_str (by rfl)) (xa_cons (xe_lc rfl sc_is_ways.nd (xi_any (xe_gS T.g_LETTERS (by rfl))) (own := [("letter", 1)]) (blkOk_by (by kernel_rfl)) (fun _ _ _ _ _ => (xg_name (i := 1) sc_is_ways.nd rfl (by first | exact .inl rfl | exact .inr rfl))) (fun _ _ _ _ _ => (xts_one (xt_cmp (op_inX (rm65 hr)) (xv 1) (xv 0) rfl))) (fun _ _ _ _ _ => (xv 1))) xa_nil)) (xv 0) rfl))))
theorem ok_check_ways (T : Txt w K mg) (F : FunAt K mg "check_ways" s_check_ways ["ways"]) (D_is_ways : DefOk P w K mg 1 "is_ways" ["value"] 1 2 b_is_ways) : DefOk P w K mg 2 "check_ways" ["ways"] 1 1 b_check_ways :=
  def_ok (j := 1) F sc_check_ways rfl rfl fun base f cdv A outer s H E hr =>
    (xss_one (xs_if (xt_not (xt_B (xe_defD D_is_ways (hr.mono (by decide)) (by rfl) (xd_cons (xv 0) xd_nil)))) xss_never xss_nil))
theorem ok_composition (T : Txt w K mg) (F : FunAt K mg "composition" s_composition ["first", "second"])  : DefOk P w K mg 1 "composition" ["first", "second"] 2 7 b_composition :=
  def_ok (j := 0) F sc_composition rfl rfl fun base f cdv A outer s H E hr =>
    (xss_cons (xs_set (i := 2) sc_composition.nd rfl (by first | exact .inl rfl | exact .inr rfl) xe_newD)
    (xss_cons (xs_for PassesOwn.never rfl (xi_any (xv 0)) (xg_name (i := 3) sc_composition.nd rfl (by first | exact .inl rfl | exact .inr rfl))
    (xss_cons (xs_set (i := 4) sc_composition.nd rfl (by first | exact .inl rfl | exact .inr rfl) (xe_meth (ty := .str) PySem.F.plainAttrs_str PySem.F.slot_str_split PySem.F.type_str_split mt_splitX (xe_ixT T.t_COMPOSED (by rfl) (xv 3) (fun _ _ => rfl)) (xa_cons (xe_str (by rfl)) xa_nil)))
    (xss_cons (xs_for PassesOwn.never rfl (xi_any (xv 1)) (xg_name (i := 5) sc_composition.nd rfl (by first | exact .inl rfl | exact .inr rfl))
    (xss_one (xs_for PassesOwn.never rfl (xi_any (xe_ix (xv 4) (xe_meth (ty := .str) PySem.F.plainAttrs_str PySem.F.slot_str_index PySem.F.type_str_index mt_indexL (xe_gS T.g_LETTERS (by rfl)) (xa_cons (xv 5) xa_nil)) (fun _ _ => rfl))) (xg_name (i := 6) sc_composition.nd rfl (by first | exact .inl rfl | exact .inr rfl))
    (xss_one (xs_putD (rm64 hr) xe_bl (xv 2) (xv 6))))))
    (xss_one (xs_if (xt_cmp (op_eqX (rm64 hr)) (xe_lenD (by rfl) T.z_len (xv 2)) (xe_callB cr_len (by rfl) T.z_len (by decide +kernel) (xa_cons (xe_gS T.g_LETTERS (by rfl)) xa_nil)) rfl) (xss_one (xs_ret (xe_gS T.g_LETTERS (by rfl)))) xss_nil)))))
    (xss_one (xs_ret (xe_meth (ty := .str) PySem.F.plainAttrs_str PySem.F.slot_str_join PySem.F.type_str_join mt_joinX (xe_str (by rfl)) (xa_cons (xe_sortedD rfl (rm64 hr) (by rfl) T.z_sorted (xv 2)) xa_nil))))))
theorem ok_composed (T : Txt w K mg) (F : FunAt K mg "composed" s_composed ["first", "second"]) (D_check_ways : DefOk P w K mg 2 "check_ways" ["ways"] 1 1 b_check_ways) (D_composition : DefOk P w K mg 1 "composition" ["first", "second"] 2 7 b_composition) : DefOk P w K mg 3 "composed" ["first", "second"] 2 2 b_composed :=
  def_ok (j := 2) F sc_composed rfl rfl fun base f cdv A outer s H E hr =>
    (xss_cons (xs_drop (xe_defD D_check_ways (hr.mono (by decide)) (by rfl) (xd_cons (xv 0) xd_nil)))
    (xss_cons (xs_drop (xe_defD D_check_ways (hr.mono (by decide)) (by rfl) (xd_cons (xv 1) xd_nil)))
    (xss_one (xs_ret (xe_defD D_composition (hr.mono (by decide)) (by rfl) (xd_cons (xv 0) (xd_cons (xv 1) xd_nil)))))))
theorem ok_law_draw (T : Txt w K mg) (F : FunAt K mg "_law_draw" s_law_draw ["script", "town", "limit"])  : DefOk P w K mg 1 "_law_draw" ["script", "town", "limit"] 3 6 b_law_draw :=
  def_ok (j := 0) F sc_law_draw rfl rfl fun base f cdv A outer s H E hr =>
    (xss_cons (xs_putL (xe_bin op_addX (xe_ix (xv 1) xe_int (fun _ _ => rfl)) xe_int) (xv 1) xe_int)
    (xss_cons (xs_if (xt_cmp (op_eqX (rm64 hr)) (xv 0) (xe_lst xa_nil) rfl) (xss_one (xs_ret (xe_bin op_modX (xe_bin op_divX (xe_bin op_mulX (xe_bin op_mulX (xe_ix (xv 1) xe_int (fun _ _ => rfl)) (xe_ix (xv 1) xe_int (fun _ _ => rfl))) xe_int) xe_int) (xv 2)))) xss_nil)
    (xss_cons (xs_set (i := 3) sc_law_draw.nd rfl (by first | exact .inl rfl | exact .inr rfl) (xe_bin op_modX (xe_ix (xv 1) xe_int (fun _ _ => rfl)) (xe_callB cr_len (by rfl) T.z_len (by decide +kernel) (xa_cons (xv 0) xa_nil))))
    (xss_cons (xs_set (i := 4) sc_law_draw.nd rfl (by first | exact .inl rfl | exact .inr rfl) (xe_ix (xv 1) (xe_bin op_addX xe_int (xv 3)) (fun _ _ => rfl)))
    (xss_cons (xs_if ((xt_and (xt_cmp (op_geX (rm64 hr)) (xe_ix (xv 0) (xv 3) (fun _ _ => rfl)) (xe_bin op_powX xe_int xe_int) rfl) (xt_and1 (xt_cmp (op_gtX (rm64 hr)) (xv 4) xe_int rfl)))).pt (xss_cons (xs_putL (xe_bin op_divX (xv 4) (xv 2)) (xv 1) (xe_bin op_addX xe_int (xv 3)))
    (xss_one (xs_ret (xe_bin op_modX (xv 4) (xv 2))))) xss_nil)
    (xss_cons (xs_set (i := 5) sc_law_draw.nd rfl (by first | exact .inl rfl | exact .inr rfl) (xe_bin op_modX (xe_bin op_addX (xe_ix (xv 0) (xv 3) (fun _ _ => rfl)) (xe_bin op_mulX xe_int (xe_ix (xv 1) xe_int (fun _ _ => rfl)))) xe_int))
    (xss_cons (xs_set (i := 5) sc_law_draw.nd rfl (by first | exact .inl rfl | exact .inr rfl) (xe_bin op_modX (xe_bin op_powX (xv 5) xe_int) xe_int))
    (xss_one (xs_ret (xe_bin op_modX (xe_bin op_divX (xe_bin op_modX (xe_bin op_addX (xe_bin op_mulX (xe_bin op_divX (xv 5) xe_int) xe_int) (xv 5)) xe_int) xe_int) (xv 2)))))))))))
theorem ok_law_pick (T : Txt w K mg) (F : FunAt K mg "_law_pick" s_law_pick ["script", "town", "choices"]) (D_law_draw : DefOk P w K mg 1 "_law_draw" ["script", "town", "limit"] 3 6 b_law_draw) : DefOk P w K mg 2 "_law_pick" ["script", "town", "choices"] 3 3 b_law_pick :=
  def_ok (j := 1) F sc_law_pick rfl rfl fun base f cdv A outer s H E hr =>
    (xss_one (xs_ret (xe_ix (xv 2) (xe_defD D_law_draw (hr.mono (by decide)) (by rfl) (xd_cons (xv 0) (xd_cons (xv 1) (xd_cons (xe_callB cr_len (by rfl) T.z_len (by decide +kernel) (xa_cons (xv 2) xa_nil)) xd_nil)))) (fun _ _ => rfl))))
theorem ok_law_some (T : Txt w K mg) (F : FunAt K mg "_law_some" s_law_some ["script", "town"]) (D_law_pick : DefOk P w K mg 2 "_law_pick" ["script", "town", "choices"] 3 3 b_law_pick) : DefOk P w K mg 3 "_law_some" ["script", "town"] 2 5 b_law_some :=
  def_ok (j := 2) F sc_law_some rfl rfl fun base f cdv A outer s H E hr =>
    (xss_cons (by first | exact xs_par (i := 2) (j := 3) rfl sc_law_some.nd rfl rfl (by decide) rfl rfl (xd_consB (xe_callTy (cr_listA rfl) (by rfl) T.z_list (by decide +kernel) (xa_cons (xe_str (by rfl)) xa_nil)) (xd_consB (xe_defD D_law_pick (hr.mono (by decide)) (by rfl) (xd_cons (xv 0) (xd_cons (xv 1) (xd_cons (xe_lst (xa_cons xe_int (xa_cons xe_int (xa_cons xe_int (xa_cons xe_int (xa_cons xe_int (xa_cons xe_int (xa_cons xe_int (xa_cons xe_int (xa_cons xe_int xa_nil)))))))))) xd_nil)))) xd_nil)) rfl | exact (xs_parT (is := [2, 3]) (xd_consB (xe_callTy (cr_listA rfl) (by rfl) T.z_list (by decide +kernel) (xa_cons (xe_str (by rfl)) xa_nil)) (xd_consB (xe_defD D_law_pick (hr.mono (by decide)) (by rfl) (xd_cons (xv 0) (xd_cons (xv 1) (xd_cons (xe_lst (xa_cons xe_int (xa_cons xe_int (xa_cons xe_int (xa_cons xe_int (xa_cons xe_int (xa_cons xe_int (xa_cons xe_int (xa_cons xe_int (xa_cons xe_int xa_nil)))))))))) xd_nil)))) xd_nil)) rfl (pgs_cons (pg_name (i := 2) sc_law_some.nd rfl (by first | exact .inl rfl | exact .inr rfl)) (pgs_cons (pg_name (i := 3) sc_law_some.nd rfl (by first | exact .inl rfl | exact .inr rfl)) pgs_nil)) (by decide)))
    (xss_one (xs_ret (xe_meth (ty := .str) PySem.F.plainAttrs_str PySem.F.slot_str_join PySem.F.type_str_join mt_joinX (xe_str (by rfl)) (xa_cons (xe_sortedSet (rm64 hr) rfl (by rfl) T.z_sorted (by rfl) T.z_set (xe_lc rfl sc_law_some.nd (xi_rng1 (by rfl) T.z_range (xv 3)) (own := [("k", 4)]) (blkOk_by (by kernel_rfl)) (fun _ _ _ _ _ => (xg_name (i := 4) sc_law_some.nd rfl (by first | exact .inl rfl | exact .inr rfl))) (fun _ _ _ _ _ => xts_nil) (fun _ _ _ _ _ => (xe_defD D_law_pick (hr.mono (by decide)) (by rfl) (xd_cons (xv 0) (xd_cons (xv 1) (xd_cons (xv 2) xd_nil))))))) xa_nil)))))
theorem ok_turned (T : Txt w K mg) (F : FunAt K mg "turned" s_turned ["ways"])  : DefOk P w K mg 1 "turned" ["ways"] 1 3 b_turned :=
  def_ok (j := 0) F sc_turned rfl rfl fun base f cdv A outer s H E hr =>
    (xss_cons (by first | exact xs_setLc (i := 1) rfl sc_turned.nd rfl rfl rfl (xi_any (xv 0)) (own := [("letter", 2)]) (blkOk_by (by kernel_rfl)) (fun _ _ _ _ _ => (xg_name (i := 2) sc_turned.nd rfl (by first | exact .inl rfl | exact .inr rfl))) (fun _ _ _ _ _ => xts_nil) (fun _ _ _ _ _ => (xe_ifExp (xt_inT T.t_CONVERSES (by rfl) (xv 2)) (xe_ixT T.t_CONVERSES (by rfl) (xv 2) (fun _ _ => rfl)) (xe_meth0 (ty := .str) PySem.F.plainAttrs_str PySem.F.slot_str_lower PySem.F.type_str_lower mt_lowerX (xv 2)))) | exact xs_set (i := 1) sc_turned.nd rfl (by first | exact .inl rfl | exact .inr rfl) (xe_lc rfl sc_turned.nd (xi_any (xv 0)) (own := [("letter", 2)]) (blkOk_by (by kernel_rfl)) (fun _ _ _ _ _ => (xg_name (i := 2) sc_turned.nd rfl (by first | exact .inl rfl | exact .inr rfl))) (fun _ _ _ _ _ => xts_nil) (fun _ _ _ _ _ => (xe_ifExp (xt_inT T.t_CONVERSES (by rfl) (xv 2)) (xe_ixT T.t_CONVERSES (by rfl) (xv 2) (fun _ _ => rfl)) (xe_meth0 (ty := .str) PySem.F.plainAttrs_str PySem.F.slot_str_lower PySem.F.type_str_lower mt_lowerX (xv 2))))))
    (xss_one (xs_ret (xe_meth (ty := .str) PySem.F.plainAttrs_str PySem.F.slot_str_join PySem.F.type_str_join mt_joinX (xe_str (by rfl)) (xa_cons (xe_callB (cr_sortedX (rm64 hr)) (by rfl) T.z_sorted (by decide +kernel) (xa_cons (xv 1) xa_nil)) xa_nil)))))
theorem ok_converse (T : Txt w K mg) (F : FunAt K mg "converse" s_converse ["ways"]) (D_check_ways : DefOk P w K mg 2 "check_ways" ["ways"] 1 1 b_check_ways) (D_turned : DefOk P w K mg 1 "turned" ["ways"] 1 3 b_turned) : DefOk P w K mg 3 "converse" ["ways"] 1 1 b_converse :=
  def_ok (j := 2) F sc_converse rfl rfl fun base f cdv A outer s H E hr =>
    (xss_cons (xs_drop (xe_defD D_check_ways (hr.mono (by decide)) (by rfl) (xd_cons (xv 0) xd_nil)))
    (xss_one (xs_ret (xe_defD D_turned (hr.mono (by decide)) (by rfl) (xd_cons (xv 0) xd_nil)))))
theorem ok_law_letter (T : Txt w K mg) (F : FunAt K mg "_law_letter" s_law_letter ["one", "other"])  : DefOk P w K mg 1 "_law_letter" ["one", "other"] 2 4 b_law_letter :=
  def_ok (j := 0) F sc_law_letter rfl rfl fun base f cdv A outer s H E hr =>
    (xss_cons (xs_if ((xt_or (xt_cmp (op_ltX (rm64 hr)) (xe_ix (xv 0) xe_int (fun _ _ => rfl)) (xe_ix (xv 1) xe_int (fun _ _ => rfl)) rfl) (xt_or1 (xt_cmp (op_ltX (rm64 hr)) (xe_ix (xv 1) xe_int (fun _ _ => rfl)) (xe_ix (xv 0) xe_int (fun _ _ => rfl)) rfl)))).pt (xss_one (xs_ret (xe_ifExp (xt_cmp (op_ltX (rm64 hr)) (xe_ix (xv 0) xe_int (fun _ _ => rfl)) (xe_ix (xv 1) xe_int (fun _ _ => rfl)) rfl) (xe_str (by rfl)) (xe_str (by rfl))))) xss_nil)
    (xss_cons (xs_if ((xt_or (xt_cmp (op_eqX (rm64 hr)) (xe_ix (xv 0) xe_int (fun _ _ => rfl)) (xe_ix (xv 1) xe_int (fun _ _ => rfl)) rfl) (xt_or1 (xt_cmp (op_eqX (rm64 hr)) (xe_ix (xv 1) xe_int (fun _ _ => rfl)) (xe_ix (xv 0) xe_int (fun _ _ => rfl)) rfl)))).pt (xss_one (xs_ret (xe_ifExp (xt_cmp (op_eqX (rm64 hr)) (xe_ix (xv 0) xe_int (fun _ _ => rfl)) (xe_ix (xv 1) xe_int (fun _ _ => rfl)) rfl) (xe_str (by rfl)) (xe_str (by rfl))))) xss_nil)
    (xss_cons (xs_set (i := 2) sc_law_letter.nd rfl (by first | exact .inl rfl | exact .inr rfl) (xe_bin op_subX (xe_bin op_addX xe_int (xe_callTy cr_int (by rfl) T.z_int (by decide +kernel) (xa_cons (xe_cmp (op_gtX (rm64 hr)) (xe_ix (xv 0) xe_int (fun _ _ => rfl)) (xe_ix (xv 1) xe_int (fun _ _ => rfl)) rfl) xa_nil))) (xe_callTy cr_int (by rfl) T.z_int (by decide +kernel) (xa_cons (xe_cmp (op_ltX (rm64 hr)) (xe_ix (xv 0) xe_int (fun _ _ => rfl)) (xe_ix (xv 1) xe_int (fun _ _ => rfl)) rfl) xa_nil))))
    (xss_cons (xs_set (i := 3) sc_law_letter.nd rfl (by first | exact .inl rfl | exact .inr rfl) (xe_bin op_subX (xe_bin op_addX xe_int (xe_callTy cr_int (by rfl) T.z_int (by decide +kernel) (xa_cons (xe_cmp (op_gtX (rm64 hr)) (xe_ix (xv 0) xe_int (fun _ _ => rfl)) (xe_ix (xv 1) xe_int (fun _ _ => rfl)) rfl) xa_nil))) (xe_callTy cr_int (by rfl) T.z_int (by decide +kernel) (xa_cons (xe_cmp (op_ltX (rm64 hr)) (xe_ix (xv 0) xe_int (fun _ _ => rfl)) (xe_ix (xv 1) xe_int (fun _ _ => rfl)) rfl) xa_nil))))
    (xss_one (xs_ret (xe_ix (xe_ix (xe_tup (xa_cons (xe_str (by rfl)) (xa_cons (xe_str (by rfl)) (xa_cons (xe_str (by rfl)) xa_nil)))) (xv 2) (fun _ _ => rfl)) (xv 3) (fun _ _ => rfl))))))))
theorem ok_law_k03 (T : Txt w K mg) (F : FunAt K mg "law" s_law_k03 ["script"]) (D_law_town : DefOk P w K mg 1 "_law_town" ["script"] 1 1 b_law_town) (D_law_some : DefOk P w K mg 3 "_law_some" ["script", "town"] 2 5 b_law_some) (D_law_forms : DefOk P w K mg 2 "_law_forms" ["spans"] 1 9 b_law_forms) (D_law_letter : DefOk P w K mg 1 "_law_letter" ["one", "other"] 2 4 b_law_letter) (D_composed : DefOk P w K mg 3 "composed" ["first", "second"] 2 2 b_composed) (D_is_ways : DefOk P w K mg 1 "is_ways" ["value"] 1 2 b_is_ways) (D_converse : DefOk P w K mg 3 "converse" ["ways"] 1 1 b_converse) : DefOk P w K mg 4 "law" ["script"] 1 10 b_law_k03 :=
  def_ok (j := 3) F sc_law_k03 rfl rfl fun base f cdv A outer s H E hr =>
    (xss_cons (xs_set (i := 1) sc_law_k03.nd rfl (by first | exact .inl rfl | exact .inr rfl) (xe_defD D_law_town (hr.mono (by decide)) (by rfl) (xd_cons (xv 0) xd_nil)))
    (xss_cons (xs_unpL rfl (xe_lc rfl sc_law_k03.nd (xi_rng1 (by rfl) T.z_range xe_int) (own := [("k", 9)]) (blkOk_by (by kernel_rfl)) (fun _ _ _ _ _ => (xg_name (i := 9) sc_law_k03.nd rfl (by first | exact .inl rfl | exact .inr rfl))) (fun _ _ _ _ _ => xts_nil) (fun _ _ _ _ _ => (xe_defD D_law_some (hr.mono (by decide)) (by rfl) (xd_cons (xv 0) (xd_cons (xv 1) xd_nil))))) (xgs_cons (pg_name (i := 6) sc_law_k03.nd rfl (by first | exact .inl rfl | exact .inr rfl)) (xgs_cons (pg_name (i := 7) sc_law_k03.nd rfl (by first | exact .inl rfl | exact .inr rfl)) (xgs_cons (pg_name (i := 8) sc_law_k03.nd rfl (by first | exact .inl rfl | exact .inr rfl)) xgs_nil))))
    (xss_cons (xs_set (i := 2) sc_law_k03.nd rfl (by first | exact .inl rfl | exact .inr rfl) xe_newD)
    (xss_cons (xs_for PassesOwn.never rfl (xi_any (xe_defD D_law_forms (hr.mono (by decide)) (by rfl) (xd_cons xe_int xd_nil))) (xg_name (i := 3) sc_law_k03.nd rfl (by first | exact .inl rfl | exact .inr rfl))
    (xss_one (xs_if ((xt_and (xt_cmp (op_inX (rm65 hr)) (xe_defD D_law_letter (hr.mono (by decide)) (by rfl) (xd_cons (xe_ix (xv 3) xe_int (fun _ _ => rfl)) (xd_cons (xe_ix (xv 3) xe_int (fun _ _ => rfl)) xd_nil))) (xv 6) rfl) (xt_and1 (xt_cmp (op_inX (rm65 hr)) (xe_defD D_law_letter (hr.mono (by decide)) (by rfl) (xd_cons (xe_ix (xv 3) xe_int (fun _ _ => rfl)) (xd_cons (xe_ix (xv 3) xe_int (fun _ _ => rfl)) xd_nil))) (xv 7) rfl)))).pt (xss_one (xs_putD (rm64 hr) xe_bl (xv 2) (xe_defD D_law_letter (hr.mono (by decide)) (by rfl) (xd_cons (xe_ix (xv 3) xe_int (fun _ _ => rfl)) (xd_cons (xe_ix (xv 3) xe_int (fun _ _ => rfl)) xd_nil))))) xss_nil)))
    (xss_cons (xs_set (i := 4) sc_law_k03.nd rfl (by first | exact .inl rfl | exact .inr rfl) (xe_defD D_composed (hr.mono (by decide)) (by rfl) (xd_cons (xv 6) (xd_cons (xv 7) xd_nil))))
    (xss_cons (xs_if ((xt_or (xt_cmp (op_neX (rm64 hr)) (xv 4) (xe_meth (ty := .str) PySem.F.plainAttrs_str PySem.F.slot_str_join PySem.F.type_str_join mt_joinX (xe_str (by rfl)) (xa_cons (xe_sortedD rfl (rm64 hr) (by rfl) T.z_sorted (xv 2)) xa_nil)) rfl) (xt_or1 (xt_cmp op_isNotX (xe_defD D_is_ways (hr.mono (by decide)) (by rfl) (xd_cons (xv 4) xd_nil)) xe_bl rfl)))).pt (xss_one (xs_ret xe_bl)) xss_nil)
    (xss_cons (xs_if ((xt_or (xt_cmp (op_neX (rm64 hr)) (xe_defD D_composed (hr.mono (by decide)) (by rfl) (xd_cons (xv 6) (xd_cons (xe_str (by rfl)) xd_nil))) (xv 6) rfl) (xt_or1 (xt_cmp (op_neX (rm64 hr)) (xe_defD D_composed (hr.mono (by decide)) (by rfl) (xd_cons (xe_str (by rfl)) (xd_cons (xv 6) xd_nil))) (xv 6) rfl)))).pt (xss_one (xs_ret xe_bl)) xss_nil)
    (xss_cons (xs_if ((xt_or (xt_cmp (op_neX (rm64 hr)) (xe_defD D_converse (hr.mono (by decide)) (by rfl) (xd_cons (xv 4) xd_nil)) (xe_defD D_composed (hr.mono (by decide)) (by rfl) (xd_cons (xe_defD D_converse (hr.mono (by decide)) (by rfl) (xd_cons (xv 7) xd_nil)) (xd_cons (xe_defD D_converse (hr.mono (by decide)) (by rfl) (xd_cons (xv 6) xd_nil)) xd_nil))) rfl) (xt_or1 (xt_cmp (op_neX (rm64 hr)) (xe_defD D_converse (hr.mono (by decide)) (by rfl) (xd_cons (xe_defD D_converse (hr.mono (by decide)) (by rfl) (xd_cons (xv 6) xd_nil)) xd_nil)) (xv 6) rfl)))).pt (xss_one (xs_ret xe_bl)) xss_nil)
    (xss_cons (xs_if (xt_cmp (op_neX (rm64 hr)) (xe_defD D_composed (hr.mono (by decide)) (by rfl) (xd_cons (xe_defD D_composed (hr.mono (by decide)) (by rfl) (xd_cons (xv 6) (xd_cons (xv 7) xd_nil))) (xd_cons (xv 8) xd_nil))) (xe_defD D_composed (hr.mono (by decide)) (by rfl) (xd_cons (xv 6) (xd_cons (xe_defD D_composed (hr.mono (by decide)) (by rfl) (xd_cons (xv 7) (xd_cons (xv 8) xd_nil))) xd_nil))) rfl) (xss_one (xs_ret xe_bl)) xss_nil)
    (xss_cons (xs_set (i := 5) sc_law_k03.nd rfl (by first | exact .inl rfl | exact .inr rfl) (xe_meth (ty := .str) PySem.F.plainAttrs_str PySem.F.slot_str_join PySem.F.type_str_join mt_joinX (xe_str (by rfl)) (xa_cons (xe_sortedSet (rm64 hr) rfl (by rfl) T.z_sorted (by rfl) T.z_set (xe_callTy (cr_listA rfl) (by rfl) T.z_list (by decide +kernel) (xa_cons (xe_bin op_addX (xv 6) (xv 8)) xa_nil))) xa_nil)))
    (xss_cons (xs_set (i := 2) sc_law_k03.nd rfl (by first | exact .inl rfl | exact .inr rfl) (xe_meth (ty := .str) PySem.F.plainAttrs_str PySem.F.slot_str_join PySem.F.type_str_join mt_joinX (xe_str (by rfl)) (xa_cons (xe_sortedSet (rm64 hr) rfl (by rfl) T.z_sorted (by rfl) T.z_set (xe_callTy (cr_listA rfl) (by rfl) T.z_list (by decide +kernel) (xa_cons (xe_bin op_addX (xv 4) (xe_defD D_composed (hr.mono (by decide)) (by rfl) (xd_cons (xv 8) (xd_cons (xv 7) xd_nil)))) xa_nil))) xa_nil)))
    (xss_cons (xs_if ((xt_or (xt_cmp (op_neX (rm64 hr)) (xe_defD D_composed (hr.mono (by decide)) (by rfl) (xd_cons (xv 5) (xd_cons (xv 7) xd_nil))) (xv 2) rfl) (xt_or1 (xt_cmp (op_notInX (rm65 hr)) (xe_str (by rfl)) (xe_defD D_composed (hr.mono (by decide)) (by rfl) (xd_cons (xv 6) (xd_cons (xe_defD D_converse (hr.mono (by decide)) (by rfl) (xd_cons (xv 6) xd_nil)) xd_nil))) rfl)))).pt (xss_one (xs_ret xe_bl)) xss_nil)
    (xss_one (xs_ret (xe_and (xe_cmp (op_eqX (rm64 hr)) (xe_defD D_composed (hr.mono (by decide)) (by rfl) (xd_cons (xe_str (by rfl)) (xd_cons (xe_str (by rfl)) xd_nil))) (xe_str (by rfl)) rfl) (xe_and (xe_cmp (op_eqX (rm64 hr)) (xe_defD D_composed (hr.mono (by decide)) (by rfl) (xd_cons (xe_str (by rfl)) (xd_cons (xe_str (by rfl)) xd_nil))) (xe_str (by rfl)) rfl) (xe_one (xe_cmp (op_eqX (rm64 hr)) (xe_defD D_composed (hr.mono (by decide)) (by rfl) (xd_cons (xe_str (by rfl)) (xd_cons (xe_str (by rfl)) xd_nil))) (xe_str (by rfl)) rfl))))))))))))))))))
/-- the law, of what the top has written -/
theorem all_ok (T : Txt w K mg) (F_law_town : FunAt K mg "_law_town" s_law_town ["script"]) (F_law_normal : FunAt K mg "_law_normal" s_law_normal ["scene"]) (F_law_forms : FunAt K mg "_law_forms" s_law_forms ["spans"]) (F_is_ways : FunAt K mg "is_ways" s_is_ways ["value"]) (F_check_ways : FunAt K mg "check_ways" s_check_ways ["ways"]) (F_composition : FunAt K mg "composition" s_composition ["first", "second"]) (F_composed : FunAt K mg "composed" s_composed ["first", "second"]) (F_law_draw : FunAt K mg "_law_draw" s_law_draw ["script", "town", "limit"]) (F_law_pick : FunAt K mg "_law_pick" s_law_pick ["script", "town", "choices"]) (F_law_some : FunAt K mg "_law_some" s_law_some ["script", "town"]) (F_turned : FunAt K mg "turned" s_turned ["ways"]) (F_converse : FunAt K mg "converse" s_converse ["ways"]) (F_law_letter : FunAt K mg "_law_letter" s_law_letter ["one", "other"]) (F_law_k03 : FunAt K mg "law" s_law_k03 ["script"]) : DefOk P w K mg 4 "law" ["script"] 1 10 b_law_k03 := by
  have D_law_town := ok_law_town (P := P) T F_law_town 
  have D_law_normal := ok_law_normal (P := P) T F_law_normal 
  have D_law_forms := ok_law_forms (P := P) T F_law_forms D_law_normal
  have D_is_ways := ok_is_ways (P := P) T F_is_ways 
  have D_check_ways := ok_check_ways (P := P) T F_check_ways D_is_ways
  have D_composition := ok_composition (P := P) T F_composition 
  have D_composed := ok_composed (P := P) T F_composed D_check_ways D_composition
  have D_law_draw := ok_law_draw (P := P) T F_law_draw 
  have D_law_pick := ok_law_pick (P := P) T F_law_pick D_law_draw
  have D_law_some := ok_law_some (P := P) T F_law_some D_law_pick
  have D_turned := ok_turned (P := P) T F_turned 
  have D_converse := ok_converse (P := P) T F_converse D_check_ways D_turned
  have D_law_letter := ok_law_letter (P := P) T F_law_letter 
  have D_law_k03 := ok_law_k03 (P := P) T F_law_k03 D_law_town D_law_some D_law_forms D_law_letter D_composed D_is_ways D_converse
  exact D_law_k03
end
theorem fin {P : Program} {w : World} {K : PySem.W.Frag} {h : Heap} {mg : Str → Option Value} {fa : Addr} {nm : Str} (X : K.In h) (hmg : mg nm = some (.ref fa)) (hnm : nm = "law") (T : Txt w K mg) (F_law_town : FunAt K mg "_law_town" s_law_town ["script"]) (F_law_normal : FunAt K mg "_law_normal" s_law_normal ["scene"]) (F_law_forms : FunAt K mg "_law_forms" s_law_forms ["spans"]) (F_is_ways : FunAt K mg "is_ways" s_is_ways ["value"]) (F_check_ways : FunAt K mg "check_ways" s_check_ways ["ways"]) (F_composition : FunAt K mg "composition" s_composition ["first", "second"]) (F_composed : FunAt K mg "composed" s_composed ["first", "second"]) (F_law_draw : FunAt K mg "_law_draw" s_law_draw ["script", "town", "limit"]) (F_law_pick : FunAt K mg "_law_pick" s_law_pick ["script", "town", "choices"]) (F_law_some : FunAt K mg "_law_some" s_law_some ["script", "town"]) (F_turned : FunAt K mg "turned" s_turned ["ways"]) (F_converse : FunAt K mg "converse" s_converse ["ways"]) (F_law_letter : FunAt K mg "_law_letter" s_law_letter ["one", "other"]) (F_law_k03 : FunAt K mg "law" s_law_k03 ["script"]) :
    ∃ fd : FuncData, (∀ (s : Shared) (u : Value), BindsTo s fd ⟨[u], []⟩ [("script", u)]) ∧ ∀ base : Heap, K.In base → base.Ns mainGlobals mg → FnOk P w K mg base CX0 4 fa fd ["script"] (spOf K 1 (mkF 1 10 b_law_k03)) := by
  subst hnm
  exact law_fin hmg (all_ok T F_law_town F_law_normal F_law_forms F_is_ways F_check_ways F_composition F_composed F_law_draw F_law_pick F_law_some F_turned F_converse F_law_letter F_law_k03)
end K03
end
section
set_option Elab.async false
set_option linter.all false
set_option autoImplicit false
set_option maxRecDepth 100000
set_option maxHeartbeats 1000000
namespace XL
/-! ### plain evaluation: the combinators as equations -/
section
variable {ρ : Env} {S : Sto} {a b c : XE} {f g : P → P → Option R} {t u : XT} {xs : XA} {ys : XD} {s s' : XS} {i j : Nat} {d : P} {ds es : List P}
@[simp] theorem e_Var : xVar i ρ S = match ρ[i]? with | some (some (.p d)) => some (.p d, S) | some (some (.ref l)) => some (.ref l, S) | _ => none := rfl
@[simp] theorem e_C : xC d ρ S = some (.p d, S) := rfl
@[simp] theorem e_Bin : xBin f a b ρ S = (a ρ S).bind fun x => (b ρ x.2).bind fun y => (x.1.rd y.2).bind fun p => (y.1.rd y.2).bind fun q => (f p q).map fun r => (r, y.2) := rfl
@[simp] theorem e_Un {f : P → Option R} : xUn f a ρ S = (a ρ S).bind fun x => (x.1.rd x.2).bind fun p => (f p).map fun r => (r, x.2) := rfl
@[simp] theorem e_Chain : xChain f g a b c ρ S =
  (a ρ S).bind fun x => (b ρ x.2).bind fun y => (x.1.rd y.2).bind fun p => (y.1.rd y.2).bind fun q => (f p q).bind fun r => match r with
    | .p (.bl true) => (c ρ y.2).bind fun z => (y.1.rd z.2).bind fun q => (z.1.rd z.2).bind fun w => (g q w).map fun r => (r, z.2)
    | .p (.bl false) => some (.p (.bl false), y.2)
    | _ => none := rfl
@[simp] theorem e_And : xAnd a b ρ S = (a ρ S).bind fun x => match x.1 with
  | .p (.bl true) => b ρ x.2
  | .p (.bl false) => some (.p (.bl false), x.2)
  | _ => none := rfl
@[simp] theorem e_Or : xOr a b ρ S = (a ρ S).bind fun x => match x.1 with
  | .p (.bl true) => some (.p (.bl true), x.2)
  | .p (.bl false) => b ρ x.2
  | _ => none := rfl
@[simp] theorem e_Not : xNot a ρ S = (a ρ S).bind fun x => match x.1 with
  | .p (.bl c) => some (.p (.bl (!c)), x.2)
  | _ => none := rfl
@[simp] theorem e_If : xIf t a b ρ S = (t ρ S).bind fun x => if x.1 then a ρ x.2 else b ρ x.2 := rfl
@[simp] theorem e_B : xB a ρ S = (a ρ S).bind fun x => match x.1 with
  | .p (.bl c) => some (c, x.2)
  | _ => none := rfl
@[simp] theorem e_Tand : xTand t u ρ S = (t ρ S).bind fun x => if x.1 then u ρ x.2 else some (false, x.2) := rfl
@[simp] theorem e_Tor : xTor t u ρ S = (t ρ S).bind fun x => if x.1 then some (true, x.2) else u ρ x.2 := rfl
@[simp] theorem e_Tnot : xTnot t ρ S = (t ρ S).map fun x => (!x.1, x.2) := rfl
@[simp] theorem e_Tyes : xTyes ρ S = some (true, S) := rfl
@[simp] theorem e_Nil : xNil ρ S = some ([], S) := rfl
@[simp] theorem e_Cons : xCons a xs ρ S = (a ρ S).bind fun x => (xs ρ x.2).map fun y => (x.1 :: y.1, y.2) := rfl
@[simp] theorem e_Tup : xTup xs ρ S = (xs ρ S).bind fun x => (fzs x.1).bind fun ds => if ds.length ≤ big then some (.p (.tup ds), x.2) else none := rfl
@[simp] theorem e_Lst : xLst xs ρ S = (xs ρ S).bind fun x => (fzs x.1).bind fun ds => if ds.length ≤ big then some (.frl ds, x.2) else none := rfl
@[simp] theorem e_Call {f : List P → Option R} : xCall f xs ρ S = (xs ρ S).bind fun x => (rds x.2 x.1).bind fun ds => (f ds).map fun r => (r, x.2) := rfl
@[simp] theorem e_NilD : xNilD ρ S = some ([], S) := rfl
@[simp] theorem e_ConsB : xConsB a ys ρ S = (a ρ S).bind fun x => (ys ρ (x.1.box x.2).2).map fun y => ((x.1.box x.2).1 :: y.1, y.2) := rfl
@[simp] theorem e_ConsD : xConsD a ys ρ S = (a ρ S).bind fun x => (ys ρ (x.1.arg x.2).2).map fun y => ((x.1.arg x.2).1 :: y.1, y.2) := rfl
@[simp] theorem e_Def {f : XF} : xDef f ys ρ S = (ys ρ S).bind fun x => f x.1 x.2 := rfl
@[simp] theorem e_Set : xSet i a ρ S = (a ρ S).map fun x => (.nx (ρ.set i (some (x.1.box x.2).1)), (x.1.box x.2).2) := rfl
@[simp] theorem e_Unp {is : List Nat} : xUnp is a ρ S = (a ρ S).bind fun x => (x.1.rd x.2).bind fun d => ((Tg.tp is).put d ρ).map fun ρ' => (.nx ρ', x.2) := rfl
@[simp] theorem e_Par {is : List Nat} : xPar is ys ρ S = (ys ρ S).bind fun x => (setAllD is x.1 ρ).map fun ρ' => (.nx ρ', x.2) := rfl
@[simp] theorem e_Drop : xDrop a ρ S = (a ρ S).map fun x => (.nx ρ, x.2) := rfl
@[simp] theorem e_Ret : xRet a ρ S = (a ρ S).map fun x => (.rt x.1, x.2) := rfl
@[simp] theorem e_Pass : xPass ρ S = some (.nx ρ, S) := rfl
@[simp] theorem e_Seq : xSeq s s' ρ S = (s ρ S).bind fun x => match x.1 with | .nx ρ' => s' ρ' x.2 | fl => some (fl, x.2) := rfl
@[simp] theorem e_IfS : xIfS t s s' ρ S = (t ρ S).bind fun x => if x.1 then s ρ x.2 else s' ρ x.2 := rfl
@[simp] theorem e_Meth {ty : Ty} {f : P → List P → Option R} : xMeth ty f a xs ρ S = (a ρ S).bind fun x => (x.1.rd x.2).bind fun p0 => if isTy ty p0 then
  (xs ρ x.2).bind fun y => (x.1.rd y.2).bind fun p => (rds y.2 y.1).bind fun ps => (f p ps).map fun r => (r, y.2) else none := rfl
@[simp] theorem e_App : xApp a b ρ S = (a ρ S).bind fun x => match x.1 with
  | .ref l => match x.2[l]? with
    | some (.lst _) => (b ρ x.2).bind fun y => match y.2[l]? with
      | some (.lst ds) => (y.1.fz).bind fun d => if ds.length < big then some (.p .non, y.2.set l (.lst (ds ++ [d]))) else none
      | _ => none
    | _ => none
  | _ => none := rfl
/-- append -/
theorem app_ok {l : Nat} {S1 S2 : Sto} {r : R} {ds ds' : List P} {d : P} (h : a ρ S = some (.ref l, S1)) (h1 : S1[l]? = some (.lst ds')) (hb : b ρ S1 = some (r, S2)) (h2 : S2[l]? = some (.lst ds)) (hd : r.fz = some d) (hl : ds.length < 1000000) : xDrop (xApp a b) ρ S = some (.nx ρ, S2.set l (.lst (ds ++ [d]))) := by
  have hl' : ds.length < big := hl
  simp only [xDrop, xApp, h, Option.bind_some, h1, hb, h2, hd, hl', if_true, Option.map_some]
@[simp] theorem e_PutL {e o i : XE} : xPutL e o i ρ S = (e ρ S).bind fun v => (o ρ v.2).bind fun x => (i ρ x.2).bind fun y => match x.1, y.1 with
  | .ref l, .p (.int j) => match y.2[l]? with
    | some (.lst ds) => (v.1.fz).bind fun d => (ixP ds.length j).map fun k => (.nx ρ, y.2.set l (.lst (ds.set k d)))
    | _ => none
  | _, _ => none := rfl
@[simp] theorem rd_p : (R.p d).rd S = some d := rfl
@[simp] theorem rd_frl : (R.frl ds).rd S = some (.lst ds) := rfl
@[simp] theorem fz_p : (R.p d).fz = some d := rfl
@[simp] theorem fz_frl : (R.frl ds).fz = some (.lst ds) := rfl
@[simp] theorem box_p : (R.p d).box S = (.p d, S) := rfl
@[simp] theorem box_ref {l : Nat} : (R.ref l).box S = (.ref l, S) := rfl
@[simp] theorem box_frl : (R.frl ds).box S = (.ref S.length, S ++ [.lst ds]) := rfl
@[simp] theorem arg_p : (R.p d).arg S = (.p d, S) := rfl
@[simp] theorem arg_ref {l : Nat} : (R.ref l).arg S = (.ref l, S) := rfl
@[simp] theorem arg_frl : (R.frl ds).arg S = (.p (.lst ds), S) := rfl
@[simp] theorem rds_nil : rds S [] = some [] := rfl
@[simp] theorem rds_cons {r : R} {rs : List R} : rds S (r :: rs) = (r.rd S).bind fun d => (rds S rs).map fun ds => d :: ds := rfl
@[simp] theorem fzs_nil : fzs [] = some [] := rfl
@[simp] theorem fzs_cons {r : R} {rs : List R} : fzs (r :: rs) = (r.fz).bind fun d => (fzs rs).map fun ds => d :: ds := rfl
theorem rd_ref {l : Nat} (h : S[l]? = some (.lst ds)) : (R.ref l).rd S = some (.lst ds) := by simp [R.rd, h]
@[simp] theorem put_nm : (Tg.nm i).put d ρ = some (ρ.set i (some (.p d))) := rfl
@[simp] theorem put_tp {is : List Nat} : (Tg.tp is).put (.tup ds) ρ = setAll is ds ρ := rfl
@[simp] theorem fin_p {n : Nat} : finish n (.p d) S = some (.p d, S.take n) := rfl
@[simp] theorem fin_frl {n : Nat} : finish n (.frl ds) S = some (.frl ds, S.take n) := rfl
end
@[simp] theorem big_is : big = 1000000 := rfl
@[simp] theorem fit_int (n : Nat) (i : Int) : P.fit n (.int i) = true := by cases n <;> rfl
@[simp] theorem fit_bl (n : Nat) (b : Bool) : P.fit n (.bl b) = true := by cases n <;> rfl
@[simp] theorem fit_ints (n : Nat) (ns : List Int) : (ns.map P.int).all (P.fit n) = true := by simp
@[simp] theorem fit_lst (n : Nat) (ds : List P) : P.fit (n + 1) (.lst ds) = ds.all (P.fit n) := rfl
@[simp] theorem fit_tup (n : Nat) (ds : List P) : P.fit (n + 1) (.tup ds) = ds.all (P.fit n) := rfl
@[simp] theorem fit_lst60 (ds : List P) : P.fit 60 (.lst ds) = ds.all (P.fit 59) := rfl
@[simp] theorem fit_tup60 (ds : List P) : P.fit 60 (.tup ds) = ds.all (P.fit 59) := rfl
@[simp] theorem add_int (i j : Int) : pAdd (.int i) (.int j) = some (.p (.int (i + j))) := rfl
@[simp] theorem sub_int (i j : Int) : pSub (.int i) (.int j) = some (.p (.int (i - j))) := rfl
@[simp] theorem neg_int (i : Int) : pNeg (.int i) = some (.p (.int (-i))) := rfl
theorem mul_int (i j : Int) (h : -18446744073709551616 < i) (h2 : i < 18446744073709551616) : pMul (.int i) (.int j) = some (.p (.int (i * j))) := by
  exact if_pos (.inl ⟨h, h2⟩)
theorem mul_int' (i j : Int) (h : -18446744073709551616 < j) (h2 : j < 18446744073709551616) : pMul (.int i) (.int j) = some (.p (.int (i * j))) := by
  exact if_pos (.inr ⟨h, h2⟩)
theorem div_int (i j : Int) (h : 0 < j) (h2 : j < 1073741824) : pDiv (.int i) (.int j) = some (.p (.int (i / j))) := by
  exact if_pos ⟨h, h2⟩
theorem mod_int (i j : Int) (h : 0 < j) : pMod (.int i) (.int j) = some (.p (.int (i % j))) := by
  exact if_pos h
theorem pow_int (i : Int) (j : Nat) (h : j ≤ 1000000) (h0 : 0 ≤ i) (h2 : i < 18446744073709551616) : pPow (.int i) (.int (j : Int)) = some (.p (.int (i ^ j))) := by
  have hl : lim64 = 18446744073709551616 := rfl
  have : pPow (.int i) (.int (j : Int)) = some (.p (.int (i ^ (j : Int).toNat))) := if_pos ⟨Int.natCast_nonneg j, by omega, by rw [hl]; omega⟩
  rw [this]; simp
@[simp] theorem lt_int (i j : Int) : pLt (.int i) (.int j) = some (.p (.bl (decide (i < j)))) := rfl
@[simp] theorem le_int (i j : Int) : pLe (.int i) (.int j) = some (.p (.bl (decide (i ≤ j)))) := rfl
@[simp] theorem gt_int (i j : Int) : pGt (.int i) (.int j) = some (.p (.bl (decide (j < i)))) := rfl
@[simp] theorem ge_int (i j : Int) : pGe (.int i) (.int j) = some (.p (.bl (decide (j ≤ i)))) := rfl
@[simp] theorem eq_int (i j : Int) : pEq (.int i) (.int j) = some (.p (.bl (decide (i = j)))) := by simp [pEq, P.pyeq]
@[simp] theorem ne_int (i j : Int) : pNe (.int i) (.int j) = some (.p (.bl (!decide (i = j)))) := by simp [pNe, P.pyeq]
@[simp] theorem ix_tup0 (x : P) (xs : List P) : pIx (.tup (x :: xs)) (.int 0) = some (.p x) := by simp [pIx, ixP]
@[simp] theorem ix_tup1 (x y : P) (xs : List P) : pIx (.tup (x :: y :: xs)) (.int 1) = some (.p y) := by simp [pIx, ixP]
@[simp] theorem ix_tup2 (x y z : P) (xs : List P) : pIx (.tup (x :: y :: z :: xs)) (.int 2) = some (.p z) := by simp [pIx, ixP]
@[simp] theorem ix_lst0 (x : P) (xs : List P) : pIx (.lst (x :: xs)) (.int 0) = some (.p x) := by simp [pIx, ixP]
@[simp] theorem ix_lst1 (x y : P) (xs : List P) : pIx (.lst (x :: y :: xs)) (.int 1) = some (.p y) := by simp [pIx, ixP]
@[simp] theorem len_lst (ds : List P) : cLen [.lst ds] = some (.p (.int ds.length)) := rfl
@[simp] theorem len_tup (ds : List P) : cLen [.tup ds] = some (.p (.int ds.length)) := rfl
@[simp] theorem c_tuple (ds : List P) : cTuple [.lst ds] = some (.p (.tup ds)) := rfl
@[simp] theorem c_tuple' (ds : List P) : cTuple [.tup ds] = some (.p (.tup ds)) := rfl
@[simp] theorem c_list (ds : List P) : cList [.lst ds] = some (.frl ds) := rfl
@[simp] theorem c_listA (ds : List P) : cListA [.lst ds] = some (.frl ds) := rfl
@[simp] theorem c_listA' (ds : List P) : cListA [.tup ds] = some (.frl ds) := rfl
@[simp] theorem c_list' (ds : List P) : cList [.tup ds] = some (.frl ds) := rfl
@[simp] theorem isi_app (f : P → Bool) (d : P) : pIsi f d = some (.p (.bl (f d))) := rfl
@[simp] theorem isiInt_int (i : Int) : isiInt (.int i) = true := rfl
@[simp] theorem isiBool_int (i : Int) : isiBool (.int i) = false := rfl
@[simp] theorem isiTuple_tup (ds : List P) : isiTuple (.tup ds) = true := rfl
@[simp] theorem isiStr_str (s : List Nat) : isiStr (.str s) = true := rfl
theorem ixP_of {n : Nat} {i : Int} (h0 : 0 ≤ i) (h : i.toNat < n) : ixP n i = some i.toNat := by
  unfold ixP
  rw [if_pos h0, if_pos h]
theorem ix_lst_of {ds : List P} {i : Int} {d : P} (h0 : 0 ≤ i) (h : ds[i.toNat]? = some d) : pIx (.lst ds) (.int i) = some (.p d) := by
  have hl := (List.getElem?_eq_some_iff.mp h).1
  simp [pIx, ixP_of h0 hl, h]
theorem ix_tup_of {ds : List P} {i : Int} {d : P} (h0 : 0 ≤ i) (h : ds[i.toNat]? = some d) : pIx (.tup ds) (.int i) = some (.p d) := by
  have hl := (List.getElem?_eq_some_iff.mp h).1
  simp [pIx, ixP_of h0 hl, h]
/-- a def that gives data and leaves the cells -/
theorem mkF_p {k n : Nat} {b : XS} {args : List D} {S S' : Sto} {d : P} (hk : args.length = k) (h : b (startE n args) S = some (.rt (.p d), S')) (hs : S'.take S.length = S) : mkF k n b args S = some (.p d, S) := by
  unfold mkF
  rw [if_pos hk, h]
  simp [hs]
/-! ### step by step -/
section
variable {ρ ρ' : Env} {S S' : Sto} {t : XT} {s s' : XS} {r : R}
theorem seq_nx (h : s ρ S = some (.nx ρ', S')) : xSeq s s' ρ S = s' ρ' S' := by rw [e_Seq, h]; rfl
theorem seq_rt (h : s ρ S = some (.rt r, S')) : xSeq s s' ρ S = some (.rt r, S') := by rw [e_Seq, h]; rfl
theorem ifS_t (h : t ρ S = some (true, S')) : xIfS t s s' ρ S = s ρ S' := by rw [e_IfS, h]; rfl
theorem ifS_f (h : t ρ S = some (false, S')) : xIfS t s s' ρ S = s' ρ S' := by rw [e_IfS, h]; rfl
theorem if_no (h : t ρ S = some (false, S)) : xIfS t s xPass ρ S = some (.nx ρ, S) := ifS_f h
theorem set_p {i : Nat} {a : XE} {d : P} (h : a ρ S = some (.p d, S')) : xSet i a ρ S = some (.nx (ρ.set i (some (.p d))), S') := by rw [e_Set, h]; rfl
theorem set_frl {i : Nat} {a : XE} {ds : List P} (h : a ρ S = some (.frl ds, S')) : xSet i a ρ S = some (.nx (ρ.set i (some (.ref S'.length))), S' ++ [.lst ds]) := by rw [e_Set, h]; rfl
theorem ret_p {a : XE} {d : P} (h : a ρ S = some (.p d, S')) : xRet a ρ S = some (.rt (.p d), S') := by rw [e_Ret, h]; rfl
theorem bin_p {f : P → P → Option R} {a b : XE} {p q : P} {S1 S2 : Sto} (ha : a ρ S = some (.p p, S1)) (hb : b ρ S1 = some (.p q, S2)) : xBin f a b ρ S = (f p q).map fun r => (r, S2) := by rw [e_Bin, ha]; simp [hb]
end
/-! ### draws -/
/-- the cell of draws: a count and what is left of each number -/
def Town (ns : List Int) (l : Nat) (c : Int) (S : Sto) : Prop := ∃ (t0 : Int) (tr : List Int), S[l]? = some (.lst (.int t0 :: tr.map P.int)) ∧ tr.length = ns.length ∧ 0 ≤ t0 ∧ t0 ≤ c
end XL
end
section
set_option Elab.async false
set_option linter.all false
set_option autoImplicit false
set_option maxRecDepth 100000
set_option maxHeartbeats 1000000
namespace XL
/-- behind the count and the look at the script: number at, what is left -/
theorem draw_one {n0 : Int} {nr tr : List Int} {l : Nat} {lim t1 at' sv left : Int} {S : Sto} (hS : S[l]? = some (.lst (.int t1 :: tr.map P.int))) (h0 : 0 < lim) (h1 : lim < 1000000) (hat : t1 % ((nr.length : Int) + 1) = at') (hl : tr.length = nr.length + 1)
    (hsv : (n0 :: nr)[at'.toNat]? = some sv) (hlf : tr[at'.toNat]? = some left) (ht : 0 ≤ t1) (ht2 : t1 < 2000000) :
    ∃ (v : Int) (tr' : List Int), (xSeq (xSet 3 (xBin pMod (xBin pIx (xVar 1) (xC (.int 0))) (xCall cLen (xCons (xVar 0) xNil))))
    (xSeq (xSet 4 (xBin pIx (xVar 1) (xBin pAdd (xC (.int 1)) (xVar 3))))
    (xSeq (xIfS (xTand (xB (xBin pGe (xBin pIx (xVar 0) (xVar 3)) (xBin pPow (xC (.int 10)) (xC (.int 18))))) (xB (xBin pGt (xVar 4) (xC (.int 0)))))
    (xSeq (xPutL (xBin pDiv (xVar 4) (xVar 2)) (xVar 1) (xBin pAdd (xC (.int 1)) (xVar 3)))
    (xRet (xBin pMod (xVar 4) (xVar 2))))
    xPass)
    (xSeq (xSet 5 (xBin pMod (xBin pAdd (xBin pIx (xVar 0) (xVar 3)) (xBin pMul (xC (.int 104729)) (xBin pIx (xVar 1) (xC (.int 0))))) (xC (.int 4294967291))))
    (xSeq (xSet 5 (xBin pMod (xBin pPow (xVar 5) (xC (.int 5))) (xC (.int 4294967279))))
    (xRet (xBin pMod (xBin pDiv (xBin pMod (xBin pAdd (xBin pMul (xBin pDiv (xVar 5) (xC (.int 64))) (xC (.int 69621))) (xVar 5)) (xC (.int 4294967231))) (xC (.int 8))) (xVar 2)))))))) [some (.p (.lst ((n0 :: nr).map P.int))), some (.ref l), some (.p (.int lim)), none, none, none] S
      = some (.rt (.p (.int v)), S.set l (.lst (.int t1 :: tr'.map P.int))) ∧ tr'.length = tr.length ∧ 0 ≤ v ∧ v < lim := by
  have m0 : ∀ x : Int, 0 ≤ x % lim := fun x => Int.emod_nonneg _ (by omega)
  have m1 : ∀ x : Int, x % lim < lim := fun x => Int.emod_lt_of_pos _ h0
  have q4 : ∀ j, pMod (.int j) (.int lim) = some (.p (.int (j % lim))) := fun j => mod_int _ _ (by omega)
  have q5 : ∀ j, pMod (.int j) (.int ((nr.length : Int) + 1)) = some (.p (.int (j % ((nr.length : Int) + 1)))) := fun j => mod_int _ _ (by omega)
  have q6 : ∀ j, pDiv (.int j) (.int lim) = some (.p (.int (j / lim))) := fun j => div_int _ _ (by omega) (by omega)
  have q7 : pPow (.int 10) (.int 18) = some (.p (.int 1000000000000000000)) := by decide
  have a0 : 0 ≤ at' := by rw [← hat]; exact Int.emod_nonneg _ (by omega)
  have a1 : at' < (nr.length : Int) + 1 := by rw [← hat]; exact Int.emod_lt_of_pos _ (by omega)
  have hix : pIx (.lst (.int t1 :: tr.map P.int)) (.int (1 + at')) = some (.p (.int left)) :=
    ix_lst_of (by omega) (by
      have e : (1 + at').toNat = at'.toNat + 1 := by omega
      rw [e]; simp [hlf])
  have hix2 : pIx (.lst (.int n0 :: nr.map P.int)) (.int at') = some (.p (.int sv)) :=
    ix_lst_of a0 (by
      have e : (.int n0 :: nr.map P.int) = (n0 :: nr).map P.int := rfl
      rw [e, List.getElem?_map, hsv]; rfl)
  have hixP : ixP (tr.length + 1) (1 + at') = some (at'.toNat + 1) := by
    rw [ixP_of (by omega) (by omega)]
    congr 1; omega
  generalize hA : some (D.p (.lst ((n0 :: nr).map P.int))) = A
  have k1 : xSet 3 (xBin pMod (xBin pIx (xVar 1) (xC (.int 0))) (xCall cLen (xCons (xVar 0) xNil))) [A, some (.ref l), some (.p (.int lim)), none, none, none] S = some (.nx [A, some (.ref l), some (.p (.int lim)), some (.p (.int at')), none, none], S) := by
    subst hA
    simp [hS, R.rd, q5, hat]
  have k2 : xSet 4 (xBin pIx (xVar 1) (xBin pAdd (xC (.int 1)) (xVar 3))) [A, some (.ref l), some (.p (.int lim)), some (.p (.int at')), none, none] S = some (.nx [A, some (.ref l), some (.p (.int lim)), some (.p (.int at')), some (.p (.int left)), none], S) := by
    simp [hS, R.rd, hix]
  rw [seq_nx k1, seq_nx k2]
  have k3 : xTand (xB (xBin pGe (xBin pIx (xVar 0) (xVar 3)) (xBin pPow (xC (.int 10)) (xC (.int 18))))) (xB (xBin pGt (xVar 4) (xC (.int 0)))) [A, some (.ref l), some (.p (.int lim)), some (.p (.int at')), some (.p (.int left)), none] S = some (decide (1000000000000000000 ≤ sv ∧ 0 < left), S) := by
    subst hA
    by_cases z : 1000000000000000000 ≤ sv <;> simp [q7, hix2, z]
  by_cases h18 : 1000000000000000000 ≤ sv ∧ 0 < left
  · refine ⟨left % lim, tr.set at'.toNat (left / lim), ?_, by simp, m0 _, m1 _⟩
    rw [decide_eq_true h18] at k3
    refine seq_rt ((ifS_t k3).trans ?_)
    simp [hS, R.rd, q6, q4, hixP]
  · rw [decide_eq_false h18] at k3
    have k4 := if_no (s := xSeq (xPutL (xBin pDiv (xVar 4) (xVar 2)) (xVar 1) (xBin pAdd (xC (.int 1)) (xVar 3))) (xRet (xBin pMod (xVar 4) (xVar 2)))) k3
    have q8 : ∀ j, pMul (.int 104729) (.int j) = some (.p (.int (104729 * j))) := fun j => mul_int _ _ (by omega) (by omega)
    have q9 : ∀ j, pMod (.int j) (.int 4294967291) = some (.p (.int (j % 4294967291))) := fun j => mod_int _ _ (by omega)
    have q10 : ∀ j, pMod (.int j) (.int 4294967279) = some (.p (.int (j % 4294967279))) := fun j => mod_int _ _ (by omega)
    have q11 : ∀ j, pMod (.int j) (.int 4294967231) = some (.p (.int (j % 4294967231))) := fun j => mod_int _ _ (by omega)
    have q13 : ∀ j, pDiv (.int j) (.int 64) = some (.p (.int (j / 64))) := fun j => div_int _ _ (by omega) (by omega)
    have q14 : ∀ j, pMul (.int j) (.int 69621) = some (.p (.int (j * 69621))) := fun j => mul_int' _ _ (by omega) (by omega)
    have q15 : ∀ j, pDiv (.int j) (.int 8) = some (.p (.int (j / 8))) := fun j => div_int _ _ (by omega) (by omega)
    generalize hx : (sv + 104729 * t1) % 4294967291 = x
    have x0 : 0 ≤ x := by rw [← hx]; exact Int.emod_nonneg _ (by omega)
    have x1 : x < 4294967291 := by rw [← hx]; exact Int.emod_lt_of_pos _ (by omega)
    obtain ⟨z, q12⟩ : ∃ z : Int, pPow (.int x) (.int 5) = some (.p (.int z)) := ⟨_, pow_int x 5 (by omega) x0 (by omega)⟩
    have k5 : xSet 5 (xBin pMod (xBin pAdd (xBin pIx (xVar 0) (xVar 3)) (xBin pMul (xC (.int 104729)) (xBin pIx (xVar 1) (xC (.int 0))))) (xC (.int 4294967291))) [A, some (.ref l), some (.p (.int lim)), some (.p (.int at')), some (.p (.int left)), none] S = some (.nx [A, some (.ref l), some (.p (.int lim)), some (.p (.int at')), some (.p (.int left)), some (.p (.int x))], S) := by
      subst hA
      simp [hS, R.rd, hix2, q8, q9, hx]
    generalize hy : z % 4294967279 = y
    have k6 : xSet 5 (xBin pMod (xBin pPow (xVar 5) (xC (.int 5))) (xC (.int 4294967279))) [A, some (.ref l), some (.p (.int lim)), some (.p (.int at')), some (.p (.int left)), some (.p (.int x))] S = some (.nx [A, some (.ref l), some (.p (.int lim)), some (.p (.int at')), some (.p (.int left)), some (.p (.int y))], S) := by
      have e1 : xBin pPow (xVar 5) (xC (.int 5)) [A, some (.ref l), some (.p (.int lim)), some (.p (.int at')), some (.p (.int left)), some (.p (.int x))] S = some (.p (.int z), S) := by
        rw [bin_p (S1 := S) (S2 := S) (p := .int x) (q := .int 5) rfl rfl, q12]; rfl
      refine set_p (?_ : _ = some (R.p (.int y), S))
      rw [bin_p (S1 := S) (S2 := S) e1 rfl, q10, hy]; rfl
    refine ⟨(y / 64 * 69621 + y) % 4294967231 / 8 % lim, tr, ?_, rfl, m0 _, m1 _⟩
    have hs : S.set l (.lst (.int t1 :: tr.map P.int)) = S := by
      obtain ⟨h, e⟩ := List.getElem?_eq_some_iff.mp hS
      rw [← e]; exact List.set_getElem_self h
    rw [seq_nx k4, seq_nx k5, seq_nx k6, hs]
    simp [q13, q14, q11, q15, q4]
theorem draw_ok {ns : List Int} {l : Nat} {c lim : Int} {S : Sto} (hT : Town ns l c S) (hc : c < 1000000) (h0 : 0 < lim) (h1 : lim < 1000000) :
    ∃ v S', f_law_draw [.p (.lst (ns.map P.int)), .ref l, .p (.int lim)] S = some (.p (.int v), S') ∧ 0 ≤ v ∧ v < lim ∧ ∃ C, S' = S.set l C ∧ Town ns l (c + 1) S' := by
  obtain ⟨t0, tr, hS, hl, ht, htc⟩ := hT
  have hlS : l < S.length := (List.getElem?_eq_some_iff.mp hS).1
  have hset : ∀ C, (S.set l C)[l]? = some C := fun C => by simp [hlS]
  have fin : ∀ (v : Int) (t0' : Int) (tr' : List Int), tr'.length = ns.length → 0 ≤ t0' → t0' ≤ c + 1 → 0 ≤ v → v < lim →
      b_law_draw [some (.p (.lst (ns.map P.int))), some (.ref l), some (.p (.int lim)), none, none, none] S = some (.rt (.p (.int v)), S.set l (.lst (.int t0' :: tr'.map P.int))) →
      ∃ v S', f_law_draw [.p (.lst (ns.map P.int)), .ref l, .p (.int lim)] S = some (.p (.int v), S') ∧ 0 ≤ v ∧ v < lim ∧ ∃ C, S' = S.set l C ∧ Town ns l (c + 1) S' := fun v t0' tr' a1 a2 a3 a4 a5 e => by
    refine ⟨v, S.set l (.lst (.int t0' :: tr'.map P.int)), ?_, a4, a5, _, rfl, t0', tr', hset _, a1, a2, a3⟩
    have e' : b_law_draw (startE 6 [.p (.lst (ns.map P.int)), .ref l, .p (.int lim)]) S = some (.rt (.p (.int v)), S.set l (.lst (.int t0' :: tr'.map P.int))) := e
    simp [f_law_draw, mkF, e']
    exact List.take_of_length_le (by simp)
  have k1 : xPutL (xBin pAdd (xBin pIx (xVar 1) (xC (.int 0))) (xC (.int 1))) (xVar 1) (xC (.int 0)) [some (.p (.lst (ns.map P.int))), some (.ref l), some (.p (.int lim)), none, none, none] S = some (.nx [some (.p (.lst (ns.map P.int))), some (.ref l), some (.p (.int lim)), none, none, none], S.set l (.lst (.int (t0 + 1) :: tr.map P.int))) := by
    simp [hS, R.rd, ixP]
  have m0 : ∀ x : Int, 0 ≤ x % lim := fun x => Int.emod_nonneg _ (by omega)
  have m1 : ∀ x : Int, x % lim < lim := fun x => Int.emod_lt_of_pos _ h0
  cases ns with
  | nil =>
    have q1 : ∀ j, pMul (.int (t0 + 1)) (.int j) = some (.p (.int ((t0 + 1) * j))) := fun j => mul_int _ _ (by omega) (by omega)
    have q2 : ∀ j, pMul (.int j) (.int 7) = some (.p (.int (j * 7))) := fun j => mul_int' _ _ (by omega) (by omega)
    have q3 : ∀ j, pDiv (.int j) (.int 3) = some (.p (.int (j / 3))) := fun j => div_int _ _ (by omega) (by omega)
    have q4 : ∀ j, pMod (.int j) (.int lim) = some (.p (.int (j % lim))) := fun j => mod_int _ _ (by omega)
    have : tr = [] := by simpa using hl
    subst this
    refine fin ((t0 + 1) * (t0 + 1) * 7 / 3 % lim) (t0 + 1) [] rfl (by omega) (by omega) (m0 _) (m1 _) ?_
    unfold b_law_draw
    rw [seq_nx k1]
    refine seq_rt ?_
    simp [R.rd, hset, pEq, P.pyeq, P.pyeqs, q1, q2, q3, q4]
  | cons n0 nr =>
    have hlen : tr.length = nr.length + 1 := by simpa using hl
    have a0 : 0 ≤ (t0 + 1) % ((nr.length : Int) + 1) := Int.emod_nonneg _ (by omega)
    have a1 : (t0 + 1) % ((nr.length : Int) + 1) < (nr.length : Int) + 1 := Int.emod_lt_of_pos _ (by omega)
    have b1 : ((t0 + 1) % ((nr.length : Int) + 1)).toNat < tr.length := by omega
    have b2 : ((t0 + 1) % ((nr.length : Int) + 1)).toNat < (n0 :: nr).length := by simp only [List.length_cons]; omega
    obtain ⟨v, tr', e, e1, e2, e3⟩ := draw_one (n0 := n0) (nr := nr) (hset (.lst (.int (t0 + 1) :: tr.map P.int))) h0 h1 rfl hlen (List.getElem?_eq_getElem b2) (List.getElem?_eq_getElem b1) (by omega) (by omega)
    refine fin v (t0 + 1) tr' (by rw [e1]; simpa using hl) (by omega) (by omega) e2 e3 ?_
    unfold b_law_draw
    rw [seq_nx k1]
    have k2 : xB (xBin pEq (xVar 0) (xLst xNil)) [some (.p (.lst ((n0 :: nr).map P.int))), some (.ref l), some (.p (.int lim)), none, none, none] (S.set l (.lst (.int (t0 + 1) :: tr.map P.int))) = some (false, S.set l (.lst (.int (t0 + 1) :: tr.map P.int))) := by
      simp [pEq, P.pyeq, P.pyeqs]
    rw [seq_nx (if_no k2), e]
    simp
end XL
end
section
set_option Elab.async false
set_option linter.all false
set_option autoImplicit false
set_option maxRecDepth 100000
set_option maxHeartbeats 1000000
namespace XL
/-! ### loops, plainly -/
theorem filt_true {α : Type} (l : List α) : l.filter (fun _ => true) = l := List.filter_eq_self.mpr fun _ _ => rfl
theorem cell_same {l : Option Nat} {S : Sto} : cellOk l S S = true := by cases l <;> simp [cellOk]
/-- a comprehension that changes no cell -/
theorem lcGo_map {l : Option Nat} {S : Sto} {t : Tg} {c : XT} {e : XE} {ρ : Env} (keep : P → Bool) (v : P → P) : ∀ (ds acc : List P),
    (∀ d ∈ ds, ∃ ρ1, t.put d ρ = some ρ1 ∧ c ρ1 S = some (keep d, S) ∧ (keep d = true → ∃ r, e ρ1 S = some (r, S) ∧ r.fz = some (v d))) → acc.length + ds.length ≤ big →
    lcGo l S t c e ρ ds acc S = some (acc ++ (ds.filter keep).map v, S)
  | [], acc, _, _ => by simp [lcGo]
  | d :: ds, acc, h, hl => by
    obtain ⟨ρ1, h1, h2, h3⟩ := h d List.mem_cons_self
    simp only [List.length_cons] at hl
    unfold lcGo
    rw [h1]
    simp only [Option.bind_some, h2]
    cases hk : keep d with
    | true =>
      obtain ⟨r, h4, h5⟩ := h3 hk
      simp only [if_true, h4, Option.bind_some, h5]
      rw [if_pos ⟨by omega, cell_same⟩, lcGo_map keep v ds (acc ++ [v d]) (fun x hx => h x (List.mem_cons_of_mem _ hx)) (by rw [List.length_append, List.length_singleton]; omega)]
      simp [List.filter_cons, hk]
    | false =>
      simp only [Bool.false_eq_true, if_false, cell_same, if_true]
      rw [lcGo_map keep v ds acc (fun x hx => h x (List.mem_cons_of_mem _ hx)) (by omega)]
      simp [List.filter_cons, hk]
theorem lc_map {it : XI} {t : Tg} {c : XT} {e : XE} {vs : List Nat} {ρ : Env} {S : Sto} {ds : List P} {l : Option Nat} (keep : P → Bool) (v : P → P) (hi : it ρ S = some (ds, l, S))
    (h : ∀ d ∈ ds, ∃ ρ1, t.put d (wipeE ρ vs) = some ρ1 ∧ c ρ1 S = some (keep d, S) ∧ (keep d = true → ∃ r, e ρ1 S = some (r, S) ∧ r.fz = some (v d))) (hl : ds.length ≤ big) :
    xLc it t c e vs ρ S = some (.frl ((ds.filter keep).map v), S) := by
  unfold xLc
  rw [hi]
  simp only [Option.bind_some]
  rw [lcGo_map keep v ds [] h (by simpa using hl)]
  simp
/-- without a guard -/
theorem lc_all {it : XI} {t : Tg} {e : XE} {vs : List Nat} {ρ : Env} {S : Sto} {ds : List P} {l : Option Nat} (v : P → P) (hi : it ρ S = some (ds, l, S))
    (h : ∀ d ∈ ds, ∃ ρ1, t.put d (wipeE ρ vs) = some ρ1 ∧ ∃ r, e ρ1 S = some (r, S) ∧ r.fz = some (v d)) (hl : ds.length ≤ big) :
    xLc it t xTyes e vs ρ S = some (.frl (ds.map v), S) := by
  have := lc_map (c := xTyes) (fun _ => true) v hi (fun d hd => by
    obtain ⟨ρ1, h1, h2⟩ := h d hd
    exact ⟨ρ1, h1, rfl, fun _ => h2⟩) hl
  rw [this, filt_true]
/-- two fors -/
theorem lc2_go {l : Option Nat} {S : Sto} {t t1 : Tg} {it1 : XI} {e : XE} {ρ : Env} {vs1 : List Nat} (w : P → List P) (v : P → P → P) : ∀ (ds acc : List P),
    (∀ d ∈ ds, ∃ ρ1 l1, t.put d ρ = some ρ1 ∧ it1 ρ1 S = some (w d, l1, S) ∧ ∀ x ∈ w d, ∃ ρ2, t1.put x (wipeE ρ1 vs1) = some ρ2 ∧ ∃ r, e ρ2 S = some (r, S) ∧ r.fz = some (v d x)) → acc.length + (ds.flatMap w).length ≤ big →
    lc2Go l S t xTyes it1 t1 xTyes e ρ vs1 ds acc S = some (acc ++ ds.flatMap fun d => (w d).map (v d), S)
  | [], acc, _, _ => by simp [lc2Go]
  | d :: ds, acc, h, hl => by
    obtain ⟨ρ1, l1, h1, h2, h3⟩ := h d List.mem_cons_self
    simp only [List.flatMap_cons, List.length_append] at hl
    unfold lc2Go
    rw [h1]
    simp only [Option.bind_some, e_Tyes, if_true, h2]
    rw [lcGo_map (fun _ => true) (v d) (w d) acc (fun x hx => by
      obtain ⟨ρ2, q1, q2⟩ := h3 x hx
      exact ⟨ρ2, q1, rfl, fun _ => q2⟩) (by omega)]
    simp only [Option.bind_some, cell_same, if_true, filt_true]
    rw [lc2_go w v ds _ (fun x hx => h x (List.mem_cons_of_mem _ hx)) (by rw [List.length_append, List.length_map]; omega)]
    simp
theorem lc2_all {it it1 : XI} {t t1 : Tg} {e : XE} {vs vs1 : List Nat} {ρ : Env} {S : Sto} {ds : List P} {l : Option Nat} (w : P → List P) (v : P → P → P) (hi : it ρ S = some (ds, l, S))
    (h : ∀ d ∈ ds, ∃ ρ1 l1, t.put d (wipeE ρ vs) = some ρ1 ∧ it1 ρ1 S = some (w d, l1, S) ∧ ∀ x ∈ w d, ∃ ρ2, t1.put x (wipeE ρ1 vs1) = some ρ2 ∧ ∃ r, e ρ2 S = some (r, S) ∧ r.fz = some (v d x)) (hl : (ds.flatMap w).length ≤ big) :
    xLc2 it t xTyes it1 t1 xTyes e vs vs1 ρ S = some (.frl (ds.flatMap fun d => (w d).map (v d)), S) := by
  unfold xLc2
  rw [hi]
  simp only [Option.bind_some]
  rw [lc2_go w v ds [] h (by simpa using hl)]
  simp
theorem gc_same {n0 : Nat} {ρ : Env} {S : Sto} (h : S.length ≤ n0) : gc n0 ρ S = (ρ, S) := by unfold gc; rw [if_pos h]
/-- a for: what holds ahead of each turn -/
theorem for_go {n0 : Nat} {l : Option Nat} {S0 : Sto} {t : Tg} {b : XS} (I : List P → Env → Sto → Prop)
    (step : ∀ d ds ρ S, I (d :: ds) ρ S → ∃ ρ1 ρ2 S2, t.put d ρ = some ρ1 ∧ b ρ1 S = some (.nx ρ2, S2) ∧ cellOk l S0 S2 = true ∧ S2.length ≤ n0 ∧ I ds ρ2 S2) : ∀ ds ρ S, I ds ρ S → ∃ ρ' S', forGo n0 l S0 t b ds ρ S = some (.nx ρ', S') ∧ I [] ρ' S'
  | [], ρ, S, h => ⟨ρ, S, rfl, h⟩
  | d :: ds, ρ, S, h => by
    obtain ⟨ρ1, ρ2, S2, h1, h2, h3, h4, h5⟩ := step d ds ρ S h
    obtain ⟨ρ', S', h6, h7⟩ := for_go I step ds ρ2 S2 h5
    refine ⟨ρ', S', ?_, h7⟩
    unfold forGo
    rw [h1]
    simp only [Option.bind_some, h2, gc_same h4, h3, if_true]
    exact h6
/-- a walk that changes nothing but its own slots -/
theorem itA_tup {a : XE} {ρ : Env} {S : Sto} {ds : List P} (h : a ρ S = some (.p (.tup ds), S)) : xItA a ρ S = some (ds, none, S) := by simp [xItA, xIt, h]
theorem itA_lst {a : XE} {ρ : Env} {S : Sto} {ds : List P} (h : a ρ S = some (.p (.lst ds), S)) : xItA a ρ S = some (ds, none, S) := by simp [xItA, xIt, h]
theorem itA_frl {a : XE} {ρ : Env} {S : Sto} {ds : List P} (h : a ρ S = some (.frl ds, S)) : xItA a ρ S = some (ds, none, S) := by simp [xItA, xIt, h]
theorem itA_str {a : XE} {ρ : Env} {S : Sto} {s : List Nat} (h : a ρ S = some (.p (.str s), S)) : xItA a ρ S = some (s.map fun c => .str [c], none, S) := by simp [xItA, xItS, h]
theorem rng1 {a : XE} {ρ : Env} {S : Sto} {n : Nat} (h : a ρ S = some (.p (.int n), S)) (hn : n ≤ 1000000) : xRng1 a ρ S = some (intsFrom 0 n, none, S) := by
  simp only [xRng1, h, Option.bind_some]
  rw [if_pos ⟨by omega, by omega⟩]; simp
theorem intsFrom_eq : ∀ (n : Nat) (lo : Int), intsFrom lo n = (List.range n).map fun (i : Nat) => P.int (lo + i)
  | 0, lo => rfl
  | n + 1, lo => by
    rw [intsFrom, intsFrom_eq n (lo + 1), List.range_succ_eq_map, List.map_cons, List.map_map]
    simp only [Int.natCast_zero, Int.add_zero, List.cons.injEq, true_and]
    refine List.map_congr_left fun i _ => ?_
    simp only [Function.comp, P.int.injEq, Nat.succ_eq_add_one, Int.natCast_add]
    omega
/-! ### sorted ints, each once -/
def insS (x : Int) : List Int → List Int
  | [] => [x]
  | y :: ys => if x < y then x :: y :: ys else if x = y then y :: ys else y :: insS x ys
def endsOf : List Int → List Int
  | [] => []
  | x :: xs => insS x (endsOf xs)
/-- how many different numbers of a list are less -/
def rk (x : Int) : List Int → Nat
  | [] => 0
  | y :: ys => (if y ∈ ys then 0 else if y < x then 1 else 0) + rk x ys
abbrev Asc (l : List Int) : Prop := l.Pairwise (· < ·)
theorem insS_mem {x z : Int} : ∀ {l : List Int}, z ∈ insS x l ↔ z = x ∨ z ∈ l
  | [] => by simp [insS]
  | y :: ys => by
    unfold insS
    split
    · simp
    · split
      · rename_i h; subst h; simp
      · simp [insS_mem (l := ys)]
        constructor <;> rintro (h | h | h) <;> simp [h]
theorem insS_asc {x : Int} : ∀ {l : List Int}, Asc l → Asc (insS x l)
  | [], _ => by simp [insS]
  | y :: ys, h => by
    obtain ⟨h1, h2⟩ := List.pairwise_cons.mp h
    unfold insS
    split
    · rename_i c
      refine List.pairwise_cons.mpr ⟨fun z hz => ?_, h⟩
      rcases List.mem_cons.mp hz with rfl | hz
      · exact c
      · exact Int.lt_trans c (h1 z hz)
    · split
      · exact h
      · rename_i c d
        refine List.pairwise_cons.mpr ⟨fun z hz => ?_, insS_asc h2⟩
        rcases insS_mem.mp hz with rfl | hz
        · omega
        · exact h1 z hz
theorem ends_mem {z : Int} : ∀ {l : List Int}, z ∈ endsOf l ↔ z ∈ l
  | [] => by simp [endsOf]
  | y :: ys => by simp [endsOf, insS_mem, ends_mem (l := ys)]
theorem ends_asc : ∀ (l : List Int), Asc (endsOf l)
  | [] => List.Pairwise.nil
  | y :: ys => insS_asc (ends_asc ys)
theorem asc_one : ∀ {l m : List Int}, Asc l → Asc m → (∀ k, k ∈ l ↔ k ∈ m) → l = m
  | [], [], _, _, _ => rfl
  | [], y :: ys, _, _, h => absurd ((h y).mpr List.mem_cons_self) (by simp)
  | x :: xs, [], _, _, h => absurd ((h x).mp List.mem_cons_self) (by simp)
  | x :: xs, y :: ys, hl, hm, h => by
    obtain ⟨a1, a2⟩ := List.pairwise_cons.mp hl
    obtain ⟨b1, b2⟩ := List.pairwise_cons.mp hm
    have e : x = y := by
      rcases List.mem_cons.mp ((h x).mp List.mem_cons_self) with e | e
      · exact e
      · rcases List.mem_cons.mp ((h y).mpr List.mem_cons_self) with e' | e'
        · exact e'.symm
        · have := b1 x e; have := a1 y e'; omega
    subst e
    rw [asc_one a2 b2 fun k => ?_]
    constructor
    · intro hk
      rcases List.mem_cons.mp ((h k).mp (List.mem_cons_of_mem _ hk)) with e | e
      · subst e; have := a1 k hk; omega
      · exact e
    · intro hk
      rcases List.mem_cons.mp ((h k).mpr (List.mem_cons_of_mem _ hk)) with e | e
      · subst e; have := b1 k hk; omega
      · exact e
theorem ends_congr {l m : List Int} (h : ∀ k, k ∈ l ↔ k ∈ m) : endsOf l = endsOf m := asc_one (ends_asc l) (ends_asc m) fun k => by rw [ends_mem, ends_mem]; exact h k
theorem lt_ints (x y : Int) : P.lt (.int x) (.int y) = decide (x < y) := by simp only [P.lt]
theorem pyeq_ints (x y : Int) : P.pyeq (.int x) (.int y) = decide (x = y) := by simp only [P.pyeq]
theorem insP_int (x : Int) : ∀ l : List Int, x ∉ l → insP (.int x) (l.map P.int) = (insS x l).map P.int
  | [], _ => rfl
  | y :: ys, h => by
    simp only [List.mem_cons, not_or] at h
    rw [List.map_cons]
    unfold insP insS
    by_cases c : y < x
    · rw [if_pos (by rw [lt_ints]; exact decide_eq_true c), if_neg (show ¬ x < y by omega), if_neg h.1, insP_int x ys h.2]; rfl
    · rw [if_neg (by rw [lt_ints]; simpa using c), if_pos (show x < y by omega)]; rfl
theorem sortSet_int : ∀ l : List Int, sortP (dedupP (l.map P.int)) = (endsOf l).map P.int
  | [] => rfl
  | x :: xs => by
    have hm : (P.int x ∈ xs.map P.int) ↔ x ∈ xs := by simp
    simp only [List.map_cons, dedupP]
    by_cases c : x ∈ xs
    · rw [if_pos (hm.mpr c), sortSet_int xs]
      congr 1
      refine ends_congr fun k => ⟨fun h => List.mem_cons_of_mem _ h, fun h => ?_⟩
      rcases List.mem_cons.mp h with rfl | h
      · exact c
      · exact h
    · rw [if_neg (fun z => c (hm.mp z)), sortP, sortSet_int xs, insP_int x _ (fun z => c (ends_mem.mp z))]; rfl
theorem setOk_int {l : List Int} (h : l.length ≤ 4000) : setOk (l.map P.int) = true := by
  unfold setOk
  simp [isIntP, h]
theorem sortedSet_int {l : List Int} (h : l.length ≤ 4000) : uSortedSet (.lst (l.map P.int)) = some (.frl ((endsOf l).map P.int)) := by
  have : uSortedSet (.lst (l.map P.int)) = some (.frl (sortP (dedupP (l.map P.int)))) := if_pos (setOk_int h)
  rw [this, sortSet_int]
theorem rk_ins {x y : Int} : ∀ {l : List Int}, Asc l → ((insS y l).filter fun z => decide (z < x)).length = (if y ∈ l then 0 else if y < x then 1 else 0) + (l.filter fun z => decide (z < x)).length
  | [], _ => by
    simp only [insS, List.not_mem_nil, if_false, List.filter_nil, List.length_nil, Nat.add_zero]
    by_cases c : y < x <;> simp [c]
  | z :: zs, h => by
    obtain ⟨h1, h2⟩ := List.pairwise_cons.mp h
    unfold insS
    by_cases c : y < z
    · have hn : y ∉ z :: zs := by
        intro q
        rcases List.mem_cons.mp q with e | e
        · omega
        · have := h1 y e; omega
      rw [if_pos c, if_neg hn]
      by_cases d : y < x <;> simp [List.filter_cons, d] <;> omega
    · rw [if_neg c]
      by_cases e : y = z
      · rw [if_pos e, if_pos (by simp [e])]; omega
      · rw [if_neg e]
        have hm : y ∈ z :: zs ↔ y ∈ zs := by simp [e]
        have ih := rk_ins (x := x) (y := y) h2
        by_cases d : z < x
        · simp only [List.filter_cons, d, decide_true, if_true, List.length_cons, ih, hm]; omega
        · simp only [List.filter_cons, d, decide_false, Bool.false_eq_true, if_false, ih, hm]
theorem rk_ends {x : Int} : ∀ l : List Int, ((endsOf l).filter fun z => decide (z < x)).length = rk x l
  | [] => rfl
  | y :: ys => by
    show ((insS y (endsOf ys)).filter _).length = _
    rw [rk_ins (ends_asc ys), rk_ends ys]
    simp only [ends_mem, rk]
/-- the place in an ascending list -/
theorem idx_asc {x : Int} : ∀ {l : List Int}, Asc l → x ∈ l → idxIn (.int x) (l.map P.int) = some (l.filter fun z => decide (z < x)).length
  | [], _, h => by cases h
  | z :: zs, h, hx => by
    obtain ⟨h1, h2⟩ := List.pairwise_cons.mp h
    rw [List.map_cons]
    unfold idxIn
    by_cases e : z = x
    · subst e
      rw [if_pos (by rw [pyeq_ints]; simp)]
      have : (z :: zs).filter (fun w => decide (w < z)) = [] := by
        rw [List.filter_eq_nil_iff]
        intro w hw
        rcases List.mem_cons.mp hw with rfl | hw
        · simp
        · have := h1 w hw; simp; omega
      rw [this]; rfl
    · rw [if_neg (by rw [pyeq_ints]; simpa using e)]
      have hx' : x ∈ zs := (List.mem_cons.mp hx).resolve_left (Ne.symm e)
      have := h1 x hx'
      rw [idx_asc h2 hx', List.filter_cons, if_pos (by simpa using this)]; rfl
theorem idx_ends {x : Int} {l : List Int} (h : x ∈ l) : idxIn (.int x) ((endsOf l).map P.int) = some (rk x l) := by
  rw [idx_asc (ends_asc l) (ends_mem.mpr h), rk_ends]
theorem index_ends {x : Int} {l : List Int} (h : x ∈ l) : mIndex (.lst ((endsOf l).map P.int)) [.int x] = some (.p (.int (rk x l))) := by
  simp [mIndex, idx_ends h]
end XL
end
section
set_option Elab.async false
set_option linter.all false
set_option autoImplicit false
set_option maxRecDepth 100000
set_option maxHeartbeats 1000000
namespace XL
/-! ### scenes -/
abbrev Span := Int × Int
def pr (x : Span) : P := .tup [.int x.1, .int x.2]
def scP (sc : List Span) : P := .tup (sc.map pr)
def endsL (sc : List Span) : List Int := sc.flatMap fun x => [x.1, x.2]
def form (sc : List Span) : List Span := sc.map fun x => (((rk x.1 (endsL sc) : Nat) : Int), ((rk x.2 (endsL sc) : Nat) : Int))
structure SpanOk (x : Span) : Prop where
  lo : -1000 ≤ x.1
  mid : x.1 < x.2
  hi : x.2 ≤ 1000
structure Valid (sc : List Span) : Prop where
  one : 1 ≤ sc.length
  five : sc.length ≤ 5
  ok : ∀ x ∈ sc, SpanOk x
theorem fin_same {k n : Nat} {b : XS} {args : List D} {S : Sto} {d : P} (hk : args.length = k) (h : b (startE n args) S = some (.rt (.p d), S)) : mkF k n b args S = some (.p d, S) :=
  mkF_p hk h (List.take_of_length_le (Nat.le_refl _))
theorem fin_none {k n : Nat} {b : XS} {args : List D} {ρ : Env} {S : Sto} (hk : args.length = k) (h : b (startE n args) S = some (.nx ρ, S)) : mkF k n b args S = some (.p .non, S) := by
  unfold mkF
  rw [if_pos hk, h]
  simp
theorem take_app {S T : Sto} : (S ++ T).take S.length = S := by simp
theorem is_between_int (v lo hi : Int) (S : Sto) : f_is_between [.p (.int v), .p (.int lo), .p (.int hi)] S = some (.p (.bl (decide (lo ≤ v ∧ v ≤ hi))), S) := by
  refine fin_same rfl ?_
  by_cases h : lo ≤ v <;> simp [b_is_between, startE, h]
theorem is_scene_ok {sc : List Span} (h : Valid sc) (S : Sto) : f_is_scene [.p (scP sc)] S = some (.p (.bl true), S) := by
  refine fin_same rfl ?_
  have h1 := h.one
  have h5 := h.five
  unfold b_is_scene
  have k1 : xTor (xTnot (xB (xUn (pIsi isiTuple) (xVar 0)))) (xTnot (xB (xChain pLe pLe (xC (.int 1)) (xCall cLen (xCons (xVar 0) xNil)) (xC (.int 5))))) (startE 2 [.p (scP sc)]) S = some (false, S) := by
    have a1 : (1 : Int) ≤ sc.length := by omega
    have a2 : (sc.length : Int) ≤ 5 := by omega
    simp [startE, scP, a1, a2]
  rw [seq_nx (if_no k1)]
  have k2 : ∃ ρ', xFor (xItA (xVar 0)) (.nm 1)
    (xSeq (xIfS (xTor (xTnot (xB (xUn (pIsi isiTuple) (xVar 1)))) (xTor (xB (xBin pNe (xCall cLen (xCons (xVar 1) xNil)) (xC (.int 2)))) (xTnot (xB (xDef f_is_between (xConsD (xBin pIx (xVar 1) (xC (.int 0))) (xConsD (xUn pNeg (xC (.int 1000))) (xConsD (xC (.int 1000)) xNilD))))))))
    (xRet (xC (.bl false)))
    xPass)
    (xIfS (xTnot (xB (xDef f_is_between (xConsD (xBin pIx (xVar 1) (xC (.int 1))) (xConsD (xBin pAdd (xBin pIx (xVar 1) (xC (.int 0))) (xC (.int 1))) (xConsD (xC (.int 1000)) xNilD))))))
    (xRet (xC (.bl false)))
    xPass)) (startE 2 [.p (scP sc)]) S = some (.nx ρ', S) := by
    unfold xFor
    rw [itA_tup (ds := sc.map pr) (by simp [startE, scP])]
    simp only [Option.bind_some]
    obtain ⟨ρ', S', e, hI⟩ := for_go (n0 := S.length) (l := none) (S0 := S) (t := .nm 1) (b := xSeq (xIfS (xTor (xTnot (xB (xUn (pIsi isiTuple) (xVar 1)))) (xTor (xB (xBin pNe (xCall cLen (xCons (xVar 1) xNil)) (xC (.int 2)))) (xTnot (xB (xDef f_is_between (xConsD (xBin pIx (xVar 1) (xC (.int 0))) (xConsD (xUn pNeg (xC (.int 1000))) (xConsD (xC (.int 1000)) xNilD))))))))
    (xRet (xC (.bl false)))
    xPass)
    (xIfS (xTnot (xB (xDef f_is_between (xConsD (xBin pIx (xVar 1) (xC (.int 1))) (xConsD (xBin pAdd (xBin pIx (xVar 1) (xC (.int 0))) (xC (.int 1))) (xConsD (xC (.int 1000)) xNilD))))))
    (xRet (xC (.bl false)))
    xPass)) (fun ds ρ S' => S' = S ∧ (∃ y, ρ = [some (.p (scP sc)), y]) ∧ ∀ d ∈ ds, ∃ x, SpanOk x ∧ d = pr x) (fun d ds ρ S' hI => by
      obtain ⟨rfl, ⟨y, rfl⟩, hd⟩ := hI
      obtain ⟨x, hx, rfl⟩ := hd d List.mem_cons_self
      have h1 := hx.lo
      have h2 := hx.mid
      have h3 := hx.hi
      have b1 : -1000 ≤ x.1 ∧ x.1 ≤ 1000 := by omega
      have b2 : x.1 + 1 ≤ x.2 ∧ x.2 ≤ 1000 := by omega
      refine ⟨_, [some (.p (scP sc)), some (.p (pr x))], S', rfl, ?_, rfl, Nat.le_refl _, rfl, ⟨_, rfl⟩, fun e he => hd e (List.mem_cons_of_mem _ he)⟩
      simp [pr, is_between_int, b1, b2]) (sc.map pr) (startE 2 [.p (scP sc)]) S ⟨rfl, ⟨none, rfl⟩, fun d hd => by
        obtain ⟨x, hx, rfl⟩ := List.mem_map.mp hd
        exact ⟨x, h.ok x hx, rfl⟩⟩
    obtain ⟨rfl, _, _⟩ := hI
    exact ⟨ρ', e⟩
  obtain ⟨ρ', k2⟩ := k2
  rw [seq_nx k2]
  rfl
theorem check_scene_ok {sc : List Span} (h : Valid sc) (S : Sto) : f_check_scene [.p (scP sc)] S = some (.p .non, S) := by
  refine fin_none (ρ := [some (.p (scP sc))]) rfl ?_
  simp [b_check_scene, startE, is_scene_ok h]
theorem endsL_len (sc : List Span) : (endsL sc).length = 2 * sc.length := by
  induction sc with
  | nil => rfl
  | cons x xs ih => simp [endsL] at ih ⊢; omega
theorem mem_ends {sc : List Span} {x : Span} (h : x ∈ sc) : x.1 ∈ endsL sc ∧ x.2 ∈ endsL sc := by
  unfold endsL
  constructor <;> exact List.mem_flatMap.mpr ⟨x, h, by simp⟩
theorem found_form_ok {sc : List Span} (hl : sc.length ≤ 1000) (S : Sto) : f_found_form [.p (scP sc)] S = some (.p (scP (form sc)), S) := by
  have k1 : xSet 1 (xUn uSortedSet (xLc2 (xItA (xVar 0)) (.nm 2) xTyes (xItA (xVar 2)) (.nm 3) xTyes (xVar 3) [2, 3] [3])) (startE 5 [.p (scP sc)]) S = some (.nx [some (.p (scP sc)), some (.ref S.length), none, none, none], S ++ [.lst ((endsOf (endsL sc)).map P.int)]) := by
    have e : xLc2 (xItA (xVar 0)) (.nm 2) xTyes (xItA (xVar 2)) (.nm 3) xTyes (xVar 3) [2, 3] [3] (startE 5 [.p (scP sc)]) S = some (.frl ((endsL sc).map P.int), S) := by
      rw [lc2_all (ds := sc.map pr) (l := none) (fun d => match d with | .tup l => l | _ => []) (fun _ x => x) (itA_tup (by simp [startE, scP])) (fun d hd => by
        obtain ⟨x, hx, rfl⟩ := List.mem_map.mp hd
        refine ⟨_, none, rfl, itA_tup (by simp [startE, wipeE, pr]), fun y hy => ⟨_, rfl, ?_⟩⟩
        refine ⟨.p y, ?_, rfl⟩
        simp [startE, wipeE]) (by
          have : (sc.map pr).flatMap (fun d => match d with | .tup l => l | _ => []) = sc.flatMap fun x => [P.int x.1, P.int x.2] := by
            rw [List.flatMap_map]; rfl
          rw [this]
          have e2 : (sc.flatMap fun x => [P.int x.1, P.int x.2]).length = 2 * sc.length := by
            clear this hl
            induction sc with
            | nil => rfl
            | cons x xs ih => simp at ih ⊢; omega
          rw [e2, big_is]; omega)]
      simp only [List.map_id']
      congr 3
      clear hl
      induction sc with
      | nil => rfl
      | cons x xs ih => simp [endsL, pr] at ih ⊢; exact ih
    have e2 : xUn uSortedSet (xLc2 (xItA (xVar 0)) (.nm 2) xTyes (xItA (xVar 2)) (.nm 3) xTyes (xVar 3) [2, 3] [3]) (startE 5 [.p (scP sc)]) S = some (.frl ((endsOf (endsL sc)).map P.int), S) := by
      rw [e_Un, e]
      simp only [Option.bind_some, rd_frl]
      rw [sortedSet_int (by rw [endsL_len]; omega)]; rfl
    rw [set_frl e2]; rfl
  have k2 : xLc (xItA (xVar 0)) (.tp [4, 3]) xTyes (xTup (xCons (xMeth .lst mIndex (xVar 1) (xCons (xVar 4) xNil)) (xCons (xMeth .lst mIndex (xVar 1) (xCons (xVar 3) xNil)) xNil))) [4, 3] [some (.p (scP sc)), some (.ref S.length), none, none, none] (S ++ [.lst ((endsOf (endsL sc)).map P.int)]) = some (.frl ((form sc).map pr), S ++ [.lst ((endsOf (endsL sc)).map P.int)]) := by
    rw [lc_all (ds := sc.map pr) (l := none) (fun d => match d with | .tup [.int a, .int b] => pr ((rk a (endsL sc) : Nat), (rk b (endsL sc) : Nat)) | _ => .non) (itA_tup (by simp [scP])) (fun d hd => by
      obtain ⟨x, hx, rfl⟩ := List.mem_map.mp hd
      refine ⟨[some (.p (scP sc)), some (.ref S.length), none, some (.p (.int x.2)), some (.p (.int x.1))], rfl, .p (pr ((rk x.1 (endsL sc) : Nat), (rk x.2 (endsL sc) : Nat))), ?_, rfl⟩
      obtain ⟨m1, m2⟩ := mem_ends hx
      simp [R.rd, isTy, index_ends m1, index_ends m2, pr]) (by rw [big_is, List.length_map]; omega)]
    congr 3
    simp [form, pr, List.map_map, Function.comp]
  have k3 : b_found_form (startE 5 [.p (scP sc)]) S = some (.rt (.p (scP (form sc))), S ++ [.lst ((endsOf (endsL sc)).map P.int)]) := by
    unfold b_found_form
    rw [seq_nx k1]
    refine ret_p ?_
    rw [e_Call, e_Cons, k2]
    simp [scP]
  exact mkF_p rfl k3 take_app
theorem form_of_ok {sc : List Span} (h : Valid sc) (S : Sto) : f_form_of [.p (scP sc)] S = some (.p (scP (form sc)), S) := by
  refine fin_same rfl ?_
  have h5 := h.five
  simp [b_form_of, startE, check_scene_ok h, found_form_ok (show sc.length ≤ 1000 by omega)]
end XL
end
section
set_option Elab.async false
set_option linter.all false
set_option autoImplicit false
set_option maxRecDepth 100000
set_option maxHeartbeats 1000000
namespace XL
/-! ### ways -/
def letter (x y : Span) : List Nat :=
  if x.2 ≤ y.1 then (if x.2 = y.1 then [109] else [98])
  else if y.2 ≤ x.1 then (if y.2 = x.1 then [77] else [66])
  else if x.1 = y.1 then (if x.2 = y.2 then [101] else if x.2 < y.2 then [115] else [83])
  else if x.2 = y.2 then (if y.1 < x.1 then [102] else [70])
  else if x.1 < y.1 then (if x.2 < y.2 then [111] else [68])
  else (if x.2 < y.2 then [100] else [79])
theorem letter_of_ok (x y : Span) (S : Sto) : f_letter_of [.p (pr x), .p (pr y)] S = some (.p (.str (letter x y)), S) := by
  refine fin_same rfl ?_
  obtain ⟨a, b⟩ := x
  obtain ⟨c, d⟩ := y
  unfold letter
  by_cases h1 : b ≤ c
  · by_cases h : b = c
    · subst h; simp [b_letter_of, startE, pr]
    · simp [b_letter_of, startE, pr, h1, h]
  · by_cases h2 : d ≤ a
    · by_cases h : d = a
      · subst h; simp [b_letter_of, startE, pr, h1]
      · simp [b_letter_of, startE, pr, h1, h2, h]
    · by_cases h3 : a = c
      · subst h3
        by_cases h : b = d
        · subst h; simp [b_letter_of, startE, pr, h1]
        · by_cases h' : b < d <;> simp [b_letter_of, startE, pr, h1, h2, h, h']
      · by_cases h4 : b = d
        · subst h4
          by_cases h : c < a <;> simp [b_letter_of, startE, pr, h1, h2, h3, h]
        · by_cases h5 : a < c <;> by_cases h : b < d <;> simp [b_letter_of, startE, pr, h1, h2, h3, h4, h5, h]
theorem way_of_ok {sc : List Span} (h : Valid sc) {i j : Nat} {x y : Span} (hi : sc[i]? = some x) (hj : sc[j]? = some y) (S : Sto) : f_way_of [.p (scP sc), .p (.int i), .p (.int j)] S = some (.p (.str (letter x y)), S) := by
  refine fin_same rfl ?_
  have li := (List.getElem?_eq_some_iff.mp hi).1
  have lj := (List.getElem?_eq_some_iff.mp hj).1
  have b1 : (0 : Int) ≤ i ∧ (i : Int) ≤ sc.length - 1 := by omega
  have b2 : (0 : Int) ≤ j ∧ (j : Int) ≤ sc.length - 1 := by omega
  have e1 : pIx (scP sc) (.int i) = some (.p (pr x)) := ix_tup_of (by omega) (by simp [hi])
  have e2 : pIx (scP sc) (.int j) = some (.p (pr y)) := ix_tup_of (by omega) (by simp [hj])
  have e3 : cLen [scP sc] = some (.p (.int sc.length)) := by simp [scP]
  simp [b_way_of, startE, check_scene_ok h, e1, e2, e3, is_between_int, b1, b2, letter_of_ok]
theorem law_letter_ok (x y : Span) (hx : x.1 < x.2) (hy : y.1 < y.2) (S : Sto) : f_law_letter [.p (pr x), .p (pr y)] S = some (.p (.str (letter x y)), S) := by
  refine fin_same rfl ?_
  obtain ⟨a, b⟩ := x
  obtain ⟨c, d⟩ := y
  simp only at hx hy
  have i1 : ∀ s1 s2 s3 : P, pIx (.tup [s1, s2, s3]) (.int 1) = some (.p s2) := fun _ _ _ => rfl
  have g : ∀ (t : List Nat) (u v w : Nat), t = [u, v, w] → pIx (.str t) (.int 0) = some (.p (.str [u])) ∧ pIx (.str t) (.int 1) = some (.p (.str [v])) ∧ pIx (.str t) (.int 2) = some (.p (.str [w])) := fun t u v w e => by subst e; exact ⟨rfl, rfl, rfl⟩
  have g1 := g [111, 70, 68] _ _ _ rfl
  have g2 := g [115, 101, 83] _ _ _ rfl
  have g3 := g [100, 102, 79] _ _ _ rfl
  unfold letter
  rcases Int.lt_trichotomy b c with h1 | h1 | h1
  · have : b ≤ c := by omega
    have : ¬ b = c := by omega
    simp [b_law_letter, startE, pr, *]
  · subst h1
    have : ¬ d < a := by omega
    simp [b_law_letter, startE, pr, *]
  · have n1 : ¬ b ≤ c := by omega
    have n2 : ¬ b < c := by omega
    have n3 : ¬ b = c := by omega
    rcases Int.lt_trichotomy d a with h2 | h2 | h2
    · have : d ≤ a := by omega
      have : ¬ d = a := by omega
      simp [b_law_letter, startE, pr, *]
    · subst h2
      simp [b_law_letter, startE, pr, *]
    · have n4 : ¬ d ≤ a := by omega
      have n5 : ¬ d < a := by omega
      have n6 : ¬ d = a := by omega
      rcases Int.lt_trichotomy a c with h3 | h3 | h3
      · have : ¬ c < a := by omega
        have : ¬ a = c := by omega
        rcases Int.lt_trichotomy b d with h4 | h4 | h4
        · have : ¬ d < b := by omega
          have : ¬ b = d := by omega
          simp [b_law_letter, startE, pr, cInt, *]
        · subst h4
          simp [b_law_letter, startE, pr, cInt, *]
        · have : ¬ b < d := by omega
          have : ¬ b = d := by omega
          simp [b_law_letter, startE, pr, cInt, *]
      · subst h3
        rcases Int.lt_trichotomy b d with h4 | h4 | h4
        · have : ¬ d < b := by omega
          have : ¬ b = d := by omega
          simp [b_law_letter, startE, pr, cInt, *]
        · subst h4
          simp [b_law_letter, startE, pr, cInt, *]
        · have : ¬ b < d := by omega
          have : ¬ b = d := by omega
          simp [b_law_letter, startE, pr, cInt, *]
      · have : ¬ a < c := by omega
        have : ¬ a = c := by omega
        rcases Int.lt_trichotomy b d with h4 | h4 | h4
        · have : ¬ d < b := by omega
          have : ¬ b = d := by omega
          simp [b_law_letter, startE, pr, cInt, *]
        · subst h4
          simp [b_law_letter, startE, pr, cInt, *]
        · have : ¬ b < d := by omega
          have : ¬ b = d := by omega
          simp [b_law_letter, startE, pr, cInt, *]
end XL
end
section
set_option Elab.async false
set_option linter.all false
set_option autoImplicit false
set_option maxRecDepth 100000
set_option maxHeartbeats 1000000
namespace XL
/-! ### texts of one-letter ways -/
def st1 (c : Nat) : P := .str [c]
theorem join_st : ∀ l : List Nat, joinT [] (l.map fun c => [c]) = l
  | [] => rfl
  | [x] => rfl
  | x :: y :: r => by
    have := join_st (y :: r)
    simp only [List.map_cons] at this ⊢
    rw [joinT, this]; rfl
    simp
theorem strs_st : ∀ l : List Nat, strsOf (l.map st1) = some (l.map fun c => [c])
  | [] => rfl
  | x :: r => by
    have e : strsOf ((x :: r).map st1) = (strsOf (r.map st1)).map fun bs => [x] :: bs := rfl
    rw [e, strs_st r]; rfl
theorem sum_st (l : List Nat) : ((l.map fun c => [c]).map (·.length)).sum = l.length := by
  induction l with
  | nil => rfl
  | cons x r ih => simp at ih ⊢; omega
theorem mjoin_st {l : List Nat} (h : l.length ≤ 1000) : mJoin (.str []) [.lst (l.map st1)] = some (.p (.str l)) := by
  have e : mJoin (.str []) [.lst (l.map st1)] = (strsOf (l.map st1)).bind fun ts => if (ts.map (·.length)).sum + ts.length * ([] : List Nat).length ≤ big then some (.p (.str (joinT [] ts))) else none := rfl
  rw [e, strs_st, Option.bind_some, sum_st, if_pos (by rw [big_is]; simp; omega), join_st]
/-- the letters that are in a text, in their sequence -/
def inSeq (s : List Nat) : List Nat := c_LETTERS.filter fun c => decide (c ∈ s)
def IsWays (s : List Nat) : Prop := s ≠ [] ∧ inSeq s = s
instance (s : List Nat) : Decidable (IsWays s) := by unfold IsWays; infer_instance
theorem IsWays.mem {s : List Nat} (h : IsWays s) {c : Nat} (hc : c ∈ s) : c ∈ c_LETTERS := by
  rw [← h.2] at hc
  exact (List.mem_filter.mp hc).1
theorem letters_small : ∀ c ∈ c_LETTERS, c < 128 := by decide
theorem fit_st {s : List Nat} (h : ∀ c ∈ s, c < 1114112) (n : Nat) : P.fit n (.str s) = true := by
  have : (s.all fun c => decide (c < 1114112)) = true := by simpa using h
  cases n <;> exact this
theorem eq_str {s t : List Nat} (h : ∀ c ∈ s, c < 1114112) (h2 : ∀ c ∈ t, c < 1114112) : pEq (.str s) (.str t) = some (.p (.bl (decide (s = t)))) := by
  simp [pEq, fit_st h, fit_st h2, P.pyeq]
theorem ne_str {s t : List Nat} (h : ∀ c ∈ s, c < 1114112) (h2 : ∀ c ∈ t, c < 1114112) : pNe (.str s) (.str t) = some (.p (.bl (!decide (s = t)))) := by
  simp [pNe, fit_st h, fit_st h2, P.pyeq]
theorem inSeq_small {s : List Nat} : ∀ c ∈ inSeq s, c < 1114112 := fun c hc => by
  have := letters_small c (List.mem_filter.mp hc).1
  omega
theorem is_ways_str {s : List Nat} (h : ∀ c ∈ s, c < 1114112) (S : Sto) : f_is_ways [.p (.str s)] S = some (.p (.bl (decide (IsWays s))), S) := by
  refine fin_same rfl ?_
  have e0 : pEq (.str s) (.str []) = some (.p (.bl (decide (s = [])))) := eq_str h (fun c hc => by cases hc)
  have k1 : xLc (xItA (xC (.str c_LETTERS))) (.nm 1) (xB (xBin pIn (xVar 1) (xVar 0))) (xVar 1) [1] [some (.p (.str s)), none] S = some (.frl ((inSeq s).map st1), S) := by
    rw [lc_map (ds := c_LETTERS.map st1) (l := none) (fun d => match d with | .str [c] => decide (c ∈ s) | _ => false) id (itA_str rfl) (fun d hd => by
      obtain ⟨c, hc, rfl⟩ := List.mem_map.mp hd
      refine ⟨_, rfl, ?_, fun _ => ⟨.p (st1 c), ?_, rfl⟩⟩
      · simp [wipeE, st1, pIn]
      · simp [wipeE, st1]) (by decide)]
    congr 3
    simp only [List.map_id, inSeq, List.filter_map]
    rfl
  have k2 : xMeth .str mJoin (xC (.str [])) (xCons (xLc (xItA (xC (.str c_LETTERS))) (.nm 1) (xB (xBin pIn (xVar 1) (xVar 0))) (xVar 1) [1]) xNil) [some (.p (.str s)), none] S = some (.p (.str (inSeq s)), S) := by
    have hl : (inSeq s).length ≤ 1000 := Nat.le_trans (List.length_filter_le _ _) (by decide)
    have k1' : xCons (xLc (xItA (xC (.str c_LETTERS))) (.nm 1) (xB (xBin pIn (xVar 1) (xVar 0))) (xVar 1) [1]) xNil [some (.p (.str s)), none] S = some ([.frl ((inSeq s).map st1)], S) := by
      rw [e_Cons, k1]; rfl
    rw [e_Meth, e_C]
    simp only [Option.bind_some, rd_p, isTy, if_true, k1', rds_cons, rd_frl, rds_nil, Option.map_some, mjoin_st hl]
  have e1 : startE 2 [.p (.str s)] = [some (.p (.str s)), none] := rfl
  unfold b_is_ways
  rw [e1]
  by_cases hs : s = []
  · subst hs
    refine seq_rt ?_
    simp [e0, IsWays]
  · have k3 : xTor (xTnot (xB (xUn (pIsi isiStr) (xVar 0)))) (xB (xBin pEq (xVar 0) (xC (.str [])))) [some (.p (.str s)), none] S = some (false, S) := by
      simp [e0, hs]
    rw [seq_nx (if_no k3)]
    refine ret_p ?_
    rw [bin_p k2 rfl, eq_str inSeq_small h]
    simp [IsWays, hs]
theorem IsWays.small {s : List Nat} (h : IsWays s) : ∀ c ∈ s, c < 1114112 := fun c hc => by
  have := letters_small c (h.mem hc); omega
theorem IsWays.len {s : List Nat} (h : IsWays s) : s.length ≤ 13 := by
  rw [← h.2]; exact Nat.le_trans (List.length_filter_le _ _) (by decide)
theorem check_ways_ok {s : List Nat} (h : IsWays s) (S : Sto) : f_check_ways [.p (.str s)] S = some (.p .non, S) := by
  refine fin_none (ρ := [some (.p (.str s))]) rfl ?_
  simp [b_check_ways, startE, is_ways_str h.small, h]
/-! ### the way the other way round -/
def convC (c : Nat) : Nat := match t_CONVERSES.lookup [c] with
  | some (.str [x]) => x
  | _ => lowC c
def insN (x : Nat) : List Nat → List Nat
  | [] => [x]
  | y :: ys => if y < x then y :: insN x ys else x :: y :: ys
def sortN : List Nat → List Nat
  | [] => []
  | x :: xs => insN x (sortN xs)
def conv (s : List Nat) : List Nat := sortN (s.map convC)
theorem lt_st (x y : Nat) : P.lt (st1 x) (st1 y) = decide (x < y) := by
  simp only [st1, P.lt, natLt]
  by_cases h : x = y
  · subst h; simp
  · simp [h]
theorem insP_st (x : Nat) : ∀ l : List Nat, insP (st1 x) (l.map st1) = (insN x l).map st1
  | [] => rfl
  | y :: ys => by
    rw [List.map_cons]
    unfold insP insN
    by_cases c : y < x
    · rw [if_pos (by rw [lt_st]; exact decide_eq_true c), if_pos c, insP_st x ys]; rfl
    · rw [if_neg (by rw [lt_st]; simpa using c), if_neg c]; rfl
theorem sortP_st : ∀ l : List Nat, sortP (l.map st1) = (sortN l).map st1
  | [] => rfl
  | x :: xs => by rw [List.map_cons, sortP, sortP_st xs, insP_st]; rfl
theorem allAlike_st : ∀ l : List Nat, allAlike (l.map st1) = true
  | [] => rfl
  | x :: xs => by
    have a : ∀ x y : Nat, P.alike (st1 x) (st1 y) = true := fun x y => by simp only [st1, P.alike]
    have b : (xs.map st1).all (fun y => P.alike (st1 x) y && P.alike y (st1 x)) = true := by
      rw [List.all_eq_true]
      intro y hy
      obtain ⟨c, _, rfl⟩ := List.mem_map.mp hy
      rw [a, a]; rfl
    rw [List.map_cons, allAlike, allAlike_st xs, a, b]; rfl
theorem sorted_st {l : List Nat} (h : ∀ c ∈ l, c < 1114112) (hl : l.length ≤ 1000) : cSorted [.lst (l.map st1)] = some (.frl ((sortN l).map st1)) := by
  have : sortOk (l.map st1) = true := by
    unfold sortOk
    rw [allAlike_st, Bool.true_and]
    simp only [Bool.and_eq_true, Bool.or_eq_true, List.all_eq_true, decide_eq_true_eq]
    refine ⟨⟨fun d hd => ?_, .inr fun d hd => ?_⟩, by rw [List.length_map, big_is]; omega⟩
    · obtain ⟨c, hc, rfl⟩ := List.mem_map.mp hd
      exact fit_st (fun c' hc' => by simp at hc'; subst hc'; exact h _ hc) _
    · obtain ⟨c, hc, rfl⟩ := List.mem_map.mp hd
      rfl
  have e : cSorted [.lst (l.map st1)] = some (.frl (sortP (l.map st1))) := if_pos this
  rw [e, sortP_st]
theorem conv_letter : ∀ c ∈ c_LETTERS, convC c ∈ c_LETTERS ∧ (tabIn t_CONVERSES (st1 c) = some (.p (.bl true)) ∧ tabGet t_CONVERSES (st1 c) = some (.p (st1 (convC c))) ∨ tabIn t_CONVERSES (st1 c) = some (.p (.bl false)) ∧ mLower (st1 c) [] = some (.p (st1 (convC c)))) := by decide
theorem insN_len (x : Nat) : ∀ l : List Nat, (insN x l).length = l.length + 1
  | [] => rfl
  | y :: ys => by unfold insN; split <;> simp [insN_len x ys]
theorem sortN_len : ∀ l : List Nat, (sortN l).length = l.length
  | [] => rfl
  | x :: xs => by rw [sortN, insN_len, sortN_len xs]; rfl
theorem turned_ok {s : List Nat} (hs : ∀ c ∈ s, c ∈ c_LETTERS) (hl : s.length ≤ 1000) (S : Sto) : f_turned [.p (.str s)] S = some (.p (.str (conv s)), S) := by
  have k1 : xLc (xItA (xVar 0)) (.nm 2) xTyes (xIf (xB (xUn (tabIn t_CONVERSES) (xVar 2))) (xUn (tabGet t_CONVERSES) (xVar 2)) (xMeth .str mLower (xVar 2) xNil)) [2] [some (.p (.str s)), none, none] S = some (.frl ((s.map convC).map st1), S) := by
    rw [lc_all (ds := s.map st1) (l := none) (fun d => match d with | .str [c] => st1 (convC c) | _ => .non) (itA_str rfl) (fun d hd => by
      obtain ⟨c, hc, rfl⟩ := List.mem_map.mp hd
      refine ⟨_, rfl, .p (st1 (convC c)), ?_, rfl⟩
      rcases (conv_letter c (hs c hc)).2 with ⟨h1, h2⟩ | ⟨h1, h2⟩
      · simp [wipeE, h1, h2]
      · have : isTy .str (st1 c) = true := rfl
        simp [wipeE, h1, h2, this]) (by rw [big_is, List.length_map]; omega)]
    congr 3
    simp [List.map_map, Function.comp, st1]
  have k2 : xSet 1 (xLc (xItA (xVar 0)) (.nm 2) xTyes (xIf (xB (xUn (tabIn t_CONVERSES) (xVar 2))) (xUn (tabGet t_CONVERSES) (xVar 2)) (xMeth .str mLower (xVar 2) xNil)) [2]) [some (.p (.str s)), none, none] S = some (.nx [some (.p (.str s)), some (.ref S.length), none], S ++ [.lst ((s.map convC).map st1)]) := set_frl k1
  have k3 : b_turned (startE 3 [.p (.str s)]) S = some (.rt (.p (.str (conv s))), S ++ [.lst ((s.map convC).map st1)]) := by
    have e1 : startE 3 [.p (.str s)] = [some (.p (.str s)), none, none] := rfl
    unfold b_turned
    rw [e1, seq_nx k2]
    refine ret_p ?_
    have hsm : ∀ c ∈ s.map convC, c < 1114112 := fun c hc => by
      obtain ⟨d, hd, rfl⟩ := List.mem_map.mp hc
      have := letters_small _ (conv_letter d (hs d hd)).1
      omega
    simp only [e_Meth, e_C, Option.bind_some, rd_p, isTy, if_true, e_Cons, e_Call, e_Var, e_Nil, Option.map_some, rds_cons, rds_nil]
    simp [R.rd, isTy]
    rw [← List.map_map, sorted_st hsm (by rw [List.length_map]; exact hl)]
    simp [mjoin_st (show (sortN (s.map convC)).length ≤ 1000 by rw [sortN_len, List.length_map]; exact hl), conv]
  exact mkF_p rfl k3 take_app
theorem converse_ok {s : List Nat} (h : IsWays s) (S : Sto) : f_converse [.p (.str s)] S = some (.p (.str (conv s)), S) := by
  refine fin_same rfl ?_
  simp [b_converse, startE, check_ways_ok h, turned_ok (fun c hc => h.mem hc) (show s.length ≤ 1000 from Nat.le_trans h.len (by decide))]
end XL
end
section
set_option Elab.async false
set_option linter.all false
set_option autoImplicit false
set_option maxRecDepth 100000
set_option maxHeartbeats 1000000
namespace XL
/-! ### the law's own helpers -/
abbrev scr (ns : List Int) : D := .p (.lst (ns.map P.int))
theorem law_town_ok {ns : List Int} (hl : ns.length ≤ 63) (S : Sto) : f_law_town [scr ns] S = some (.frl (.int 0 :: ns.map P.int), S) := by
  have h : ns.length + 1 ≤ 1000000 := by omega
  have h2 : 1 + ns.length ≤ 1000000 := by omega
  simp [f_law_town, mkF, b_law_town, startE, pAdd, h, h2]
theorem town_new {ns : List Int} {S : Sto} : Town ns S.length 0 (S ++ [.lst (.int 0 :: ns.map P.int)]) := ⟨0, ns, by simp, rfl, by omega, by omega⟩
theorem Town.mono {ns : List Int} {l : Nat} {c c' : Int} {S : Sto} (h : Town ns l c S) (hc : c ≤ c') : Town ns l c' S := by
  obtain ⟨t0, tr, h1, h2, h3, h4⟩ := h
  exact ⟨t0, tr, h1, h2, h3, by omega⟩
theorem Town.app {ns : List Int} {l : Nat} {c : Int} {S T : Sto} (h : Town ns l c S) : Town ns l c (S ++ T) := by
  obtain ⟨t0, tr, h1, h2, h3, h4⟩ := h
  exact ⟨t0, tr, by rw [List.getElem?_append_left (List.getElem?_eq_some_iff.mp h1).1]; exact h1, h2, h3, h4⟩
theorem Town.lt {ns : List Int} {l : Nat} {c : Int} {S : Sto} (h : Town ns l c S) : l < S.length := by
  obtain ⟨t0, tr, h1, h2, h3, h4⟩ := h
  exact (List.getElem?_eq_some_iff.mp h1).1
theorem Town.of_app {ns : List Int} {l : Nat} {c : Int} {S T : Sto} (h : Town ns l c (S ++ T)) (hl : l < S.length) : Town ns l c S := by
  obtain ⟨t0, tr, h1, h2, h3, h4⟩ := h
  rw [List.getElem?_append_left hl] at h1
  exact ⟨t0, tr, h1, h2, h3, h4⟩
theorem law_pick_ok {ns : List Int} {l : Nat} {c : Int} {S : Sto} (hT : Town ns l c S) (hc : c < 1000000) (ch : List P) (h0 : ch ≠ []) (h1 : ch.length < 1000000) :
    ∃ d S', f_law_pick [scr ns, .ref l, .p (.lst ch)] S = some (.p d, S') ∧ d ∈ ch ∧ ∃ C, S' = S.set l C ∧ Town ns l (c + 1) S' := by
  have hpos : 0 < ch.length := List.length_pos_iff.mpr h0
  obtain ⟨v, S', e, v0, v1, C, eC, hT'⟩ := draw_ok (ns := ns) (lim := (ch.length : Int)) hT hc (by omega) (by omega)
  have hv : v.toNat < ch.length := by omega
  have e2 : pIx (.lst ch) (.int v) = some (.p ch[v.toNat]) := ix_lst_of v0 (List.getElem?_eq_getElem hv)
  refine ⟨ch[v.toNat], S', ?_, List.getElem_mem hv, C, eC, hT'⟩
  have hl : S'.take S.length = S' := List.take_of_length_le (by rw [eC]; simp)
  simp only [f_law_pick, mkF, b_law_pick, startE]
  simp [e, e2, hl]
theorem set_app {S : Sto} {l : Nat} {C X : Cell} (h : l < S.length) : (S ++ [X]).set l C = S.set l C ++ [X] := by rw [List.set_append_left _ _ h]
theorem app_set {S : Sto} {C X : Cell} : (S ++ [X]).set S.length C = S ++ [C] := by rw [List.set_append_right _ _ (Nat.le_refl _)]; simp
theorem law_scene_ok {ns : List Int} {l : Nat} {c : Int} {S : Sto} (n : Nat) (far : Int) (hT : Town ns l c S) (hn : n ≤ 1000) (hc : c + 2 * n < 1000000) (h0 : 0 < far) (h1 : far < 1000000) :
    ∃ sc S', f_law_scene [scr ns, .ref l, .p (.int n), .p (.int far)] S = some (.p (scP sc), S') ∧ sc.length = n ∧ (∀ x ∈ sc, 0 ≤ x.1 ∧ x.1 < far ∧ x.1 < x.2 ∧ x.2 ≤ x.1 + far) ∧ ∃ C, S' = S.set l C ∧ Town ns l (c + 2 * n) S' := by
  have hlS := hT.lt
  have k1 : xSet 4 (xLst xNil) (startE 7 [scr ns, .ref l, .p (.int n), .p (.int far)]) S = some (.nx [some (scr ns), some (.ref l), some (.p (.int n)), some (.p (.int far)), some (.ref S.length), none, none], S ++ [.lst []]) := by
    simp [startE]
  have k2 : ∃ (ρ' : Env) (sc : List Span) (C : Cell), xFor (xRng1 (xVar 2)) (.nm 5) (xSeq (xSet 6 (xDef f_law_draw (xConsD (xVar 0) (xConsD (xVar 1) (xConsD (xVar 3) xNilD)))))
    (xDrop (xApp (xVar 4) (xTup (xCons (xVar 6) (xCons (xBin pAdd (xBin pAdd (xVar 6) (xC (.int 1))) (xDef f_law_draw (xConsD (xVar 0) (xConsD (xVar 1) (xConsD (xVar 3) xNilD))))) xNil))))))
      [some (scr ns), some (.ref l), some (.p (.int n)), some (.p (.int far)), some (.ref S.length), none, none] (S ++ [.lst []]) = some (.nx ([some (scr ns), some (.ref l), some (.p (.int n)), some (.p (.int far)), some (.ref S.length)] ++ ρ'), S.set l C ++ [.lst (sc.map pr)]) ∧ sc.length = n ∧ (∀ x ∈ sc, 0 ≤ x.1 ∧ x.1 < far ∧ x.1 < x.2 ∧ x.2 ≤ x.1 + far) ∧ Town ns l (c + 2 * n) (S.set l C) := by
    unfold xFor
    rw [rng1 (n := n) rfl (by omega), intsFrom_eq]
    simp only [Option.bind_some]
    obtain ⟨ρ', S', e, hI⟩ := for_go (n0 := (S ++ [Cell.lst []]).length) (l := none) (S0 := S ++ [Cell.lst []]) (t := .nm 5) (b := xSeq (xSet 6 (xDef f_law_draw (xConsD (xVar 0) (xConsD (xVar 1) (xConsD (xVar 3) xNilD)))))
    (xDrop (xApp (xVar 4) (xTup (xCons (xVar 6) (xCons (xBin pAdd (xBin pAdd (xVar 6) (xC (.int 1))) (xDef f_law_draw (xConsD (xVar 0) (xConsD (xVar 1) (xConsD (xVar 3) xNilD))))) xNil))))))
      (fun ds ρ S' => ∃ (y5 y6 : Option D) (sc : List Span) (C : Cell), ρ = [some (scr ns), some (.ref l), some (.p (.int n)), some (.p (.int far)), some (.ref S.length), y5, y6] ∧ S' = S.set l C ++ [.lst (sc.map pr)] ∧ sc.length + ds.length = n ∧ (∀ x ∈ sc, 0 ≤ x.1 ∧ x.1 < far ∧ x.1 < x.2 ∧ x.2 ≤ x.1 + far) ∧ Town ns l (c + 2 * sc.length) (S.set l C))
      (fun d ds ρ S' hI => by
        obtain ⟨y5, y6, sc, C, rfl, rfl, hl, hx, hTn⟩ := hI
        simp only [List.length_cons] at hl
        have hlen : (S.set l C).length = S.length := by simp
        obtain ⟨v, S1, e1, v0, v1, C1, eC1, hT1⟩ := draw_ok (lim := far) (hTn.app (T := [.lst (sc.map pr)])) (by omega) h0 h1
        rw [set_app (by rw [hlen]; exact hlS), List.set_set] at eC1
        subst eC1
        have hT1' := hT1.of_app (by simpa using hlS)
        obtain ⟨u, S2, e2, u0, u1, C2, eC2, hT2⟩ := draw_ok (lim := far) hT1 (by omega) h0 h1
        rw [set_app (by simpa using hlS), List.set_set] at eC2
        subst eC2
        have hT2' := hT2.of_app (by simpa using hlS)
        refine ⟨_, [some (scr ns), some (.ref l), some (.p (.int n)), some (.p (.int far)), some (.ref S.length), some (.p d), some (.p (.int v))], S.set l C2 ++ [.lst ((sc ++ [(v, v + 1 + u)]).map pr)], rfl, ?_, rfl, by simp, _, _, sc ++ [(v, v + 1 + u)], C2, rfl, rfl, by simp; omega, ?_, hT2'.mono (by simp; omega)⟩
        · have a1 : xSet 6 (xDef f_law_draw (xConsD (xVar 0) (xConsD (xVar 1) (xConsD (xVar 3) xNilD)))) [some (scr ns), some (.ref l), some (.p (.int n)), some (.p (.int far)), some (.ref S.length), some (.p d), y6] (S.set l C ++ [.lst (sc.map pr)]) = some (.nx [some (scr ns), some (.ref l), some (.p (.int n)), some (.p (.int far)), some (.ref S.length), some (.p d), some (.p (.int v))], S.set l C1 ++ [.lst (sc.map pr)]) := by
            refine set_p ?_
            rw [e_Def]
            exact e1
          show xSeq _ _ [some (scr ns), some (.ref l), some (.p (.int n)), some (.p (.int far)), some (.ref S.length), some (.p d), y6] _ = _
          rw [seq_nx a1]
          have a2 : xDef f_law_draw (xConsD (xVar 0) (xConsD (xVar 1) (xConsD (xVar 3) xNilD))) [some (scr ns), some (.ref l), some (.p (.int n)), some (.p (.int far)), some (.ref S.length), some (.p d), some (.p (.int v))] (S.set l C1 ++ [.lst (sc.map pr)]) = some (.p (.int u), S.set l C2 ++ [.lst (sc.map pr)]) := e2
          have a3 : xTup (xCons (xVar 6) (xCons (xBin pAdd (xBin pAdd (xVar 6) (xC (.int 1))) (xDef f_law_draw (xConsD (xVar 0) (xConsD (xVar 1) (xConsD (xVar 3) xNilD))))) xNil)) [some (scr ns), some (.ref l), some (.p (.int n)), some (.p (.int far)), some (.ref S.length), some (.p d), some (.p (.int v))] (S.set l C1 ++ [.lst (sc.map pr)]) = some (.p (pr (v, v + 1 + u)), S.set l C2 ++ [.lst (sc.map pr)]) := by
            simp [pr, e2]
          have hg : (S.set l C2 ++ [Cell.lst (sc.map pr)])[S.length]? = some (.lst (sc.map pr)) := by
            rw [List.getElem?_append_right (by simp)]; simp
          have hst : (S.set l C2 ++ [Cell.lst (sc.map pr)]).set S.length (.lst (sc.map pr ++ [pr (v, v + 1 + u)])) = S.set l C2 ++ [.lst ((sc ++ [(v, v + 1 + u)]).map pr)] := by
            have := app_set (S := S.set l C2) (X := Cell.lst (sc.map pr)) (C := .lst (sc.map pr ++ [pr (v, v + 1 + u)]))
            rw [List.length_set] at this
            rw [this]; simp
          have hb : (sc.map pr).length < 1000000 := by rw [List.length_map]; omega
          have a4 : xVar 4 [some (scr ns), some (.ref l), some (.p (.int n)), some (.p (.int far)), some (.ref S.length), some (.p d), some (.p (.int v))] (S.set l C1 ++ [.lst (sc.map pr)]) = some (.ref S.length, S.set l C1 ++ [.lst (sc.map pr)]) := rfl
          have hg1 : (S.set l C1 ++ [Cell.lst (sc.map pr)])[S.length]? = some (.lst (sc.map pr)) := by
            rw [List.getElem?_append_right (by simp)]; simp
          rw [app_ok a4 hg1 a3 hg rfl hb, hst]
        · intro x hx'
          rcases List.mem_append.mp hx' with h | h
          · exact hx x h
          · simp at h; subst h; refine ⟨v0, v1, ?_, ?_⟩ <;> simp only <;> omega)
      ((List.range n).map fun i => P.int (0 + (i : Nat))) [some (scr ns), some (.ref l), some (.p (.int n)), some (.p (.int far)), some (.ref S.length), none, none] (S ++ [.lst []]) ⟨none, none, [], S[l], rfl, by simp, by simp, by simp, by simpa using hT⟩
    obtain ⟨y5, y6, sc, C, rfl, rfl, hl, hx, hTn⟩ := hI
    simp only [List.length_nil, Nat.add_zero] at hl
    refine ⟨[y5, y6], sc, C, e, hl, hx, hTn.mono (by omega)⟩
  obtain ⟨ρ', sc, C, e, hl, hx, hTn⟩ := k2
  refine ⟨sc, S.set l C, ?_, hl, hx, C, rfl, hTn⟩
  have k3 : b_law_scene (startE 7 [scr ns, .ref l, .p (.int n), .p (.int far)]) S = some (.rt (.p (scP sc)), S.set l C ++ [.lst (sc.map pr)]) := by
    unfold b_law_scene
    rw [seq_nx k1, seq_nx e]
    have hg : (S.set l C ++ [Cell.lst (sc.map pr)])[S.length]? = some (.lst (sc.map pr)) := by
      rw [List.getElem?_append_right (by simp)]; simp
    simp [R.rd, hg, scP]
  unfold f_law_scene mkF
  rw [if_pos (by rfl), k3]
  simp
end XL
end
section
set_option Elab.async false
set_option linter.all false
set_option autoImplicit false
set_option maxRecDepth 100000
set_option maxHeartbeats 1000000
namespace XL
/-! ### ranks -/
def cnt (x : Int) (l : List Int) : Nat := (l.filter fun z => decide (z < x)).length
theorem cnt_cons (x y : Int) (l : List Int) : cnt x (y :: l) = (if y < x then 1 else 0) + cnt x l := by
  unfold cnt
  by_cases h : y < x <;> simp [List.filter_cons, h]; omega
theorem cnt_mono {x y : Int} (h : x ≤ y) : ∀ l : List Int, cnt x l ≤ cnt y l
  | [] => Nat.le_refl _
  | z :: l => by
    have := cnt_mono h l
    rw [cnt_cons, cnt_cons]
    split <;> split <;> omega
theorem cnt_lt {x y : Int} (h : x < y) : ∀ {l : List Int}, x ∈ l → cnt x l < cnt y l
  | [], hx => by cases hx
  | z :: l, hx => by
    rw [cnt_cons, cnt_cons]
    have h0 := cnt_mono (Int.le_of_lt h) l
    rcases List.mem_cons.mp hx with rfl | hx
    · rw [if_neg (by omega), if_pos h]; omega
    · have := cnt_lt h hx
      split <;> split <;> omega
theorem cnt_len {x : Int} : ∀ {l : List Int}, x ∈ l → cnt x l < l.length
  | [], hx => by cases hx
  | z :: l, hx => by
    rw [cnt_cons, List.length_cons]
    rcases List.mem_cons.mp hx with rfl | hx
    · rw [if_neg (by omega)]
      have : cnt x l ≤ l.length := List.length_filter_le _ _
      omega
    · have := cnt_len hx
      split <;> omega
theorem cnt_at : ∀ {l : List Int} {k : Nat} {x : Int}, Asc l → l[k]? = some x → cnt x l = k
  | [], k, x, _, h => by simp at h
  | z :: l, k, x, ha, h => by
    obtain ⟨h1, h2⟩ := List.pairwise_cons.mp ha
    rw [cnt_cons]
    cases k with
    | zero =>
      simp at h; subst h
      rw [if_neg (by omega)]
      unfold cnt
      have : l.filter (fun w => decide (w < z)) = [] := by
        rw [List.filter_eq_nil_iff]
        intro w hw
        have := h1 w hw; simp; omega
      rw [this]; rfl
    | succ k =>
      simp at h
      have hx := List.mem_of_getElem? h
      have := h1 x hx
      rw [if_pos this, cnt_at h2 h]; omega
theorem rk_cnt (x : Int) (l : List Int) : rk x l = cnt x (endsOf l) := (rk_ends l).symm
theorem rk_lt {x y : Int} {l : List Int} (hx : x ∈ l) (h : x < y) : rk x l < rk y l := by
  rw [rk_cnt, rk_cnt]; exact cnt_lt h (ends_mem.mpr hx)
theorem rk_lt_iff {x y : Int} {l : List Int} (hx : x ∈ l) : rk x l < rk y l ↔ x < y := by
  refine ⟨fun h => ?_, rk_lt hx⟩
  by_cases c : x < y
  · exact c
  · have := cnt_mono (show y ≤ x by omega) (endsOf l)
    rw [rk_cnt, rk_cnt] at h; omega
theorem rk_eq_iff {x y : Int} {l : List Int} (hx : x ∈ l) (hy : y ∈ l) : rk x l = rk y l ↔ x = y := by
  refine ⟨fun h => ?_, fun h => by rw [h]⟩
  rcases Int.lt_trichotomy x y with c | c | c
  · have := rk_lt hx c; omega
  · exact c
  · have := rk_lt hy c; omega
theorem rk_congr {α : Type} (u v : α → Int) (x y : Int) : ∀ (ps : List α), (∀ p ∈ ps, ∀ q ∈ ps, u p = u q ↔ v p = v q) → (∀ p ∈ ps, u p < x ↔ v p < y) → rk x (ps.map u) = rk y (ps.map v)
  | [], _, _ => rfl
  | p :: ps, h1, h2 => by
    have ih := rk_congr u v x y ps (fun a ha b hb => h1 a (List.mem_cons_of_mem _ ha) b (List.mem_cons_of_mem _ hb)) (fun a ha => h2 a (List.mem_cons_of_mem _ ha))
    simp only [List.map_cons, rk, ih]
    have m : u p ∈ ps.map u ↔ v p ∈ ps.map v := by
      simp only [List.mem_map]
      constructor
      · rintro ⟨q, hq, e⟩; exact ⟨q, hq, (h1 q (List.mem_cons_of_mem _ hq) p List.mem_cons_self).mp e⟩
      · rintro ⟨q, hq, e⟩; exact ⟨q, hq, (h1 q (List.mem_cons_of_mem _ hq) p List.mem_cons_self).mpr e⟩
    have l := h2 p List.mem_cons_self
    by_cases a : u p ∈ ps.map u
    · rw [if_pos a, if_pos (m.mp a)]
    · rw [if_neg a, if_neg (fun z => a (m.mpr z))]
      by_cases b : u p < x
      · rw [if_pos b, if_pos (l.mp b)]
      · rw [if_neg b, if_neg (fun z => b (l.mpr z))]
/-! ### forms -/
theorem endsL_map (g : Int → Int) (sc : List Span) : endsL (sc.map fun x => (g x.1, g x.2)) = (endsL sc).map g := by
  induction sc with
  | nil => rfl
  | cons x xs ih => simp [endsL] at ih ⊢; exact ih
theorem form_ends (sc : List Span) : endsL (form sc) = (endsL sc).map fun x => ((rk x (endsL sc) : Nat) : Int) := endsL_map (fun x => ((rk x (endsL sc) : Nat) : Int)) sc
/-- the ends in sequence without gaps -/
theorem ends_form (sc : List Span) : endsOf (endsL (form sc)) = (List.range (endsOf (endsL sc)).length).map fun (i : Nat) => (i : Int) := by
  refine asc_one (ends_asc _) ?_ fun k => ?_
  · rw [Asc, List.pairwise_map]
    exact List.Pairwise.imp (fun h => by omega) List.pairwise_lt_range
  · rw [ends_mem, form_ends]
    simp only [List.mem_map, List.mem_range]
    constructor
    · rintro ⟨x, hx, rfl⟩
      exact ⟨rk x (endsL sc), by rw [rk_cnt]; exact cnt_len (ends_mem.mpr hx), rfl⟩
    · rintro ⟨i, hi, rfl⟩
      have e := List.getElem?_eq_getElem hi
      exact ⟨(endsOf (endsL sc))[i], ends_mem.mp (List.getElem_mem hi), by rw [rk_cnt, cnt_at (ends_asc _) e]⟩
theorem cnt_range (m k : Nat) (h : k < m) : cnt (k : Int) ((List.range m).map fun (i : Nat) => (i : Int)) = k := by
  refine cnt_at ?_ (by simp [h])
  rw [Asc, List.pairwise_map]
  exact List.Pairwise.imp (fun h => by omega) List.pairwise_lt_range
theorem form_form (sc : List Span) : form (form sc) = form sc := by
  have key : ∀ z ∈ endsL sc, rk ((rk z (endsL sc) : Nat) : Int) (endsL (form sc)) = rk z (endsL sc) := fun z hz => by
    rw [rk_cnt _ (endsL (form sc)), ends_form, cnt_range]
    rw [rk_cnt]; exact cnt_len (ends_mem.mpr hz)
  show (form sc).map (fun x => (((rk x.1 (endsL (form sc)) : Nat) : Int), ((rk x.2 (endsL (form sc)) : Nat) : Int))) = form sc
  unfold form at *
  rw [List.map_map]
  refine List.map_congr_left fun x hx => ?_
  obtain ⟨h1, h2⟩ := mem_ends hx
  simp only [Function.comp]
  rw [key _ h1, key _ h2]
theorem form_mono {sc : List Span} {g : Int → Int} (hg : ∀ x y, g x < g y ↔ x < y) : form (sc.map fun x => (g x.1, g x.2)) = form sc := by
  have inj : ∀ x y, x = y ↔ g x = g y := fun x y => by
    constructor
    · intro h; rw [h]
    · intro h
      rcases Int.lt_trichotomy x y with c | c | c
      · have := (hg x y).mpr c; omega
      · exact c
      · have := (hg y x).mpr c; omega
  have key : ∀ z, rk (g z) ((endsL sc).map g) = rk z (endsL sc) := fun z => by
    have := rk_congr (α := Int) id g z (g z) (endsL sc) (fun p _ q _ => inj p q) (fun p _ => (hg p z).symm)
    rw [List.map_id] at this
    exact this.symm
  unfold form
  rw [endsL_map, List.map_map]
  refine List.map_congr_left fun x _ => ?_
  simp only [Function.comp, key]
theorem form_len (sc : List Span) : (form sc).length = sc.length := by simp [form]
theorem rk_le (x : Int) (l : List Int) : rk x l ≤ l.length := by
  induction l with
  | nil => simp [rk]
  | cons y l ih => simp only [rk, List.length_cons]; split <;> (try split) <;> omega
theorem form_valid {sc : List Span} (h : Valid sc) : Valid (form sc) := by
  refine ⟨by rw [form_len]; exact h.one, by rw [form_len]; exact h.five, fun x hx => ?_⟩
  obtain ⟨y, hy, rfl⟩ := List.mem_map.mp hx
  obtain ⟨m1, m2⟩ := mem_ends hy
  have := rk_lt m1 (h.ok y hy).mid
  have a := rk_le y.2 (endsL sc)
  rw [endsL_len] at a
  have := h.five
  exact ⟨by simp only; omega, by simp only; omega, by simp only; omega⟩
/-! ### what a letter says -/
theorem letter_cmp {x y x' y' : Span} (hx : x.1 < x.2) (hy : y.1 < y.2) (hx' : x'.1 < x'.2) (hy' : y'.1 < y'.2) (h : letter x y = letter x' y') :
    ((x.1 < y.1 ↔ x'.1 < y'.1) ∧ (x.1 = y.1 ↔ x'.1 = y'.1)) ∧ ((x.1 < y.2 ↔ x'.1 < y'.2) ∧ (x.1 = y.2 ↔ x'.1 = y'.2)) ∧ ((x.2 < y.1 ↔ x'.2 < y'.1) ∧ (x.2 = y.1 ↔ x'.2 = y'.1)) ∧ ((x.2 < y.2 ↔ x'.2 < y'.2) ∧ (x.2 = y.2 ↔ x'.2 = y'.2)) := by
  obtain ⟨a, b⟩ := x
  obtain ⟨c, d⟩ := y
  obtain ⟨a', b'⟩ := x'
  obtain ⟨c', d'⟩ := y'
  simp only at hx hy hx' hy' ⊢
  unfold letter at h
  simp only at h
  repeat' split at h
  all_goals first | (exfalso; revert h; decide) | (refine ⟨⟨?_, ?_⟩, ⟨?_, ?_⟩, ⟨?_, ?_⟩, ?_, ?_⟩ <;> omega)
theorem letter_congr {x y x' y' : Span} (h : ((x.1 < y.1 ↔ x'.1 < y'.1) ∧ (x.1 = y.1 ↔ x'.1 = y'.1)) ∧ ((x.1 < y.2 ↔ x'.1 < y'.2) ∧ (x.1 = y.2 ↔ x'.1 = y'.2)) ∧ ((x.2 < y.1 ↔ x'.2 < y'.1) ∧ (x.2 = y.1 ↔ x'.2 = y'.1)) ∧ ((x.2 < y.2 ↔ x'.2 < y'.2) ∧ (x.2 = y.2 ↔ x'.2 = y'.2))) : letter x y = letter x' y' := by
  obtain ⟨⟨h1, h2⟩, ⟨h3, h4⟩, ⟨h5, h6⟩, h7, h8⟩ := h
  have e1 : x.2 ≤ y.1 ↔ x'.2 ≤ y'.1 := by omega
  have e2 : y.2 ≤ x.1 ↔ y'.2 ≤ x'.1 := by omega
  have e3 : y.1 < x.1 ↔ y'.1 < x'.1 := by omega
  have e4 : y.2 = x.1 ↔ y'.2 = x'.1 := by omega
  unfold letter
  simp only [e1, e2, e3, e4, h1, h2, h6, h7, h8]
theorem letter_form {sc : List Span} {x y : Span} (hx : x ∈ sc) (hy : y ∈ sc) : letter (((rk x.1 (endsL sc) : Nat) : Int), ((rk x.2 (endsL sc) : Nat) : Int)) (((rk y.1 (endsL sc) : Nat) : Int), ((rk y.2 (endsL sc) : Nat) : Int)) = letter x y := by
  obtain ⟨a1, a2⟩ := mem_ends hx
  obtain ⟨b1, b2⟩ := mem_ends hy
  refine letter_congr ⟨⟨?_, ?_⟩, ⟨?_, ?_⟩, ⟨?_, ?_⟩, ?_, ?_⟩ <;> simp only [Int.ofNat_lt, Int.natCast_inj, rk_lt_iff, rk_eq_iff, a1, a2, b1, b2]
/-- two scenes have one form exactly if all their ways are equal -/
theorem form_iff {sc sc' : List Span} (hv : ∀ x ∈ sc, x.1 < x.2) (hv' : ∀ x ∈ sc', x.1 < x.2) (hl : sc.length = sc'.length) :
    (∀ (i j : Nat) (x y x' y' : Span), sc[i]? = some x → sc[j]? = some y → sc'[i]? = some x' → sc'[j]? = some y' → letter x y = letter x' y') ↔ form sc = form sc' := by
  constructor
  · intro h
    let ps : List (Int × Int) := (sc.zip sc').flatMap fun z => [(z.1.1, z.2.1), (z.1.2, z.2.2)]
    have e1 : ∀ {a b : List Span}, a.length = b.length → ((a.zip b).flatMap fun z => [(z.1.1, z.2.1), (z.1.2, z.2.2)]).map Prod.fst = endsL a ∧ ((a.zip b).flatMap fun z => [(z.1.1, z.2.1), (z.1.2, z.2.2)]).map Prod.snd = endsL b := by
      intro a
      induction a with
      | nil => intro b hb; cases b with
        | nil => exact ⟨rfl, rfl⟩
        | cons _ _ => simp at hb
      | cons x xs ih =>
        intro b hb
        cases b with
        | nil => simp at hb
        | cons y ys =>
          obtain ⟨i1, i2⟩ := ih (b := ys) (by simpa using hb)
          simp [endsL] at i1 i2 ⊢
          exact ⟨i1, i2⟩
    obtain ⟨f1, f2⟩ := e1 hl
    have hp : ∀ p ∈ ps, ∃ (i : Nat) (x x' : Span), sc[i]? = some x ∧ sc'[i]? = some x' ∧ (p = (x.1, x'.1) ∨ p = (x.2, x'.2)) := fun p hp => by
      obtain ⟨z, hz, hz2⟩ := List.mem_flatMap.mp hp
      obtain ⟨i, hi, e⟩ := List.getElem_of_mem hz
      refine ⟨i, z.1, z.2, ?_, ?_, by simpa using hz2⟩
      · rw [List.getElem_zip] at e
        have : i < sc.length := by simp at hi; omega
        rw [List.getElem?_eq_getElem this, ← e]
      · rw [List.getElem_zip] at e
        have : i < sc'.length := by simp at hi; omega
        rw [List.getElem?_eq_getElem this, ← e]
    have cmp : ∀ p ∈ ps, ∀ q ∈ ps, (p.1 < q.1 ↔ p.2 < q.2) ∧ (p.1 = q.1 ↔ p.2 = q.2) := fun p hp' q hq => by
      obtain ⟨i, x, x', h1, h2, h3⟩ := hp p hp'
      obtain ⟨j, y, y', g1, g2, g3⟩ := hp q hq
      have c := letter_cmp (hv x (List.mem_of_getElem? h1)) (hv y (List.mem_of_getElem? g1)) (hv' x' (List.mem_of_getElem? h2)) (hv' y' (List.mem_of_getElem? g2)) (h i j x y x' y' h1 g1 h2 g2)
      rcases h3 with rfl | rfl <;> rcases g3 with rfl | rfl
      · exact c.1
      · exact c.2.1
      · exact c.2.2.1
      · exact c.2.2.2
    have key : ∀ q ∈ ps, rk q.1 (endsL sc) = rk q.2 (endsL sc') := fun q hq => by
      rw [← f1, ← f2]
      exact rk_congr Prod.fst Prod.snd q.1 q.2 ps (fun a ha b hb => (cmp a ha b hb).2) (fun a ha => (cmp a ha q hq).1)
    unfold form
    refine List.ext_getElem? fun i => ?_
    rw [List.getElem?_map, List.getElem?_map]
    by_cases hi : i < sc.length
    · have hi' : i < sc'.length := by omega
      rw [List.getElem?_eq_getElem hi, List.getElem?_eq_getElem hi']
      have hz : (sc[i], sc'[i]) ∈ sc.zip sc' := by
        have : i < (sc.zip sc').length := by simp; omega
        have e := List.getElem_mem this
        rwa [List.getElem_zip] at e
      simp only [Option.map_some, Option.some.injEq, Prod.mk.injEq, Int.natCast_inj]
      exact ⟨key (sc[i].1, sc'[i].1) (List.mem_flatMap.mpr ⟨_, hz, by simp⟩), key (sc[i].2, sc'[i].2) (List.mem_flatMap.mpr ⟨_, hz, by simp⟩)⟩
    · rw [List.getElem?_eq_none (by omega), List.getElem?_eq_none (by omega)]; rfl
  · intro h i j x y x' y' h1 h2 h3 h4
    have g : ∀ {a : List Span} {k : Nat} {z : Span}, a[k]? = some z → (form a)[k]? = some (((rk z.1 (endsL a) : Nat) : Int), ((rk z.2 (endsL a) : Nat) : Int)) := fun hz => by
      unfold form; rw [List.getElem?_map, hz]; rfl
    have i1 := g h1
    have i2 := g h2
    rw [h, g h3] at i1
    rw [h, g h4] at i2
    have e1 := Option.some.inj i1
    have e2 := Option.some.inj i2
    rw [← letter_form (List.mem_of_getElem? h1) (List.mem_of_getElem? h2), ← letter_form (List.mem_of_getElem? h3) (List.mem_of_getElem? h4), ← e1, ← e2]
end XL
end
section
set_option Elab.async false
set_option linter.all false
set_option autoImplicit false
set_option maxRecDepth 100000
set_option maxHeartbeats 1000000
namespace XL
theorem law_normal_ok {sc : List Span} (hl : sc.length ≤ 1000) (S : Sto) : f_law_normal [.p (scP sc)] S = some (.p (scP (form sc)), S) := by
  have b1 : ∀ (ρ : Env), ρ[0]? = some (some (.p (scP sc))) → ρ.length = 3 → xLc (xItA (xVar 0)) (.nm 2) xTyes (xBin pIx (xVar 2) (xC (.int 0))) [2] ρ S = some (.frl ((sc.map Prod.fst).map P.int), S) := fun ρ h0 h3 => by
    rw [lc_all (ds := sc.map pr) (l := none) (fun d => match d with | .tup [.int a, .int b] => .int a | _ => .non) (itA_tup (by simp [h0, scP])) (fun d hd => by
      obtain ⟨x, hx, rfl⟩ := List.mem_map.mp hd
      refine ⟨_, rfl, .p (.int x.1), ?_, rfl⟩
      have : ((wipeE ρ [2]).set 2 (some (.p (pr x))))[2]? = some (some (.p (pr x))) := by simp [wipeE, h3]
      simp only [e_Bin, e_Var, this]
      simp [pr]) (by rw [big_is, List.length_map]; omega)]
    simp [pr, Function.comp]
  have b2 : ∀ (ρ : Env), ρ[0]? = some (some (.p (scP sc))) → ρ.length = 3 → xLc (xItA (xVar 0)) (.nm 2) xTyes (xBin pIx (xVar 2) (xC (.int 1))) [2] ρ S = some (.frl ((sc.map Prod.snd).map P.int), S) := fun ρ h0 h3 => by
    rw [lc_all (ds := sc.map pr) (l := none) (fun d => match d with | .tup [.int a, .int b] => .int b | _ => .non) (itA_tup (by simp [h0, scP])) (fun d hd => by
      obtain ⟨x, hx, rfl⟩ := List.mem_map.mp hd
      refine ⟨_, rfl, .p (.int x.2), ?_, rfl⟩
      have : ((wipeE ρ [2]).set 2 (some (.p (pr x))))[2]? = some (some (.p (pr x))) := by simp [wipeE, h3]
      simp only [e_Bin, e_Var, this]
      simp [pr]) (by rw [big_is, List.length_map]; omega)]
    simp [pr, Function.comp]
  have hends : endsOf (sc.map Prod.fst ++ sc.map Prod.snd) = endsOf (endsL sc) := ends_congr fun k => by
    simp only [List.mem_append, List.mem_map, endsL, List.mem_flatMap, List.mem_cons, List.not_mem_nil, or_false]
    constructor
    · rintro (⟨x, hx, rfl⟩ | ⟨x, hx, rfl⟩)
      · exact ⟨x, hx, .inl rfl⟩
      · exact ⟨x, hx, .inr rfl⟩
    · rintro ⟨x, hx, rfl | rfl⟩
      · exact .inl ⟨x, hx, rfl⟩
      · exact .inr ⟨x, hx, rfl⟩
  have e0 : startE 3 [.p (scP sc)] = [some (.p (scP sc)), none, none] := rfl
  have k1 : xSet 1 (xUn uSortedSet (xBin pAdd (xLc (xItA (xVar 0)) (.nm 2) xTyes (xBin pIx (xVar 2) (xC (.int 0))) [2]) (xLc (xItA (xVar 0)) (.nm 2) xTyes (xBin pIx (xVar 2) (xC (.int 1))) [2]))) [some (.p (scP sc)), none, none] S = some (.nx [some (.p (scP sc)), some (.ref S.length), none], S ++ [.lst ((endsOf (endsL sc)).map P.int)]) := by
    have e2 : xUn uSortedSet (xBin pAdd (xLc (xItA (xVar 0)) (.nm 2) xTyes (xBin pIx (xVar 2) (xC (.int 0))) [2]) (xLc (xItA (xVar 0)) (.nm 2) xTyes (xBin pIx (xVar 2) (xC (.int 1))) [2])) [some (.p (scP sc)), none, none] S = some (.frl ((endsOf (endsL sc)).map P.int), S) := by
      rw [e_Un, e_Bin, b1 _ rfl rfl]
      simp only [Option.bind_some, b2 [some (.p (scP sc)), none, none] rfl rfl, rd_frl]
      have : pAdd (.lst ((sc.map Prod.fst).map P.int)) (.lst ((sc.map Prod.snd).map P.int)) = some (.frl ((sc.map Prod.fst ++ sc.map Prod.snd).map P.int)) := by
        unfold pAdd
        simp only
        rw [if_pos (by simp; omega), List.map_append]
      simp only [this, Option.map_some, Option.bind_some, rd_frl]
      rw [sortedSet_int (by simp; omega), hends]; rfl
    rw [set_frl e2]; rfl
  have k2 : xLc (xItA (xVar 0)) (.nm 2) xTyes (xTup (xCons (xMeth .lst mIndex (xVar 1) (xCons (xBin pIx (xVar 2) (xC (.int 0))) xNil)) (xCons (xMeth .lst mIndex (xVar 1) (xCons (xBin pIx (xVar 2) (xC (.int 1))) xNil)) xNil))) [2] [some (.p (scP sc)), some (.ref S.length), none] (S ++ [.lst ((endsOf (endsL sc)).map P.int)]) = some (.frl ((form sc).map pr), S ++ [.lst ((endsOf (endsL sc)).map P.int)]) := by
    rw [lc_all (ds := sc.map pr) (l := none) (fun d => match d with | .tup [.int a, .int b] => pr ((rk a (endsL sc) : Nat), (rk b (endsL sc) : Nat)) | _ => .non) (itA_tup (by simp [scP])) (fun d hd => by
      obtain ⟨x, hx, rfl⟩ := List.mem_map.mp hd
      refine ⟨[some (.p (scP sc)), some (.ref S.length), some (.p (pr x))], rfl, .p (pr ((rk x.1 (endsL sc) : Nat), (rk x.2 (endsL sc) : Nat))), ?_, rfl⟩
      obtain ⟨m1, m2⟩ := mem_ends hx
      simp [R.rd, isTy, index_ends m1, index_ends m2, pr]) (by rw [big_is, List.length_map]; omega)]
    congr 3
    simp [form, pr, List.map_map, Function.comp]
  have k3 : b_law_normal (startE 3 [.p (scP sc)]) S = some (.rt (.p (scP (form sc))), S ++ [.lst ((endsOf (endsL sc)).map P.int)]) := by
    unfold b_law_normal
    rw [e0, seq_nx k1]
    refine ret_p ?_
    rw [e_Call, e_Cons, k2]
    simp [scP]
  exact mkF_p rfl k3 take_app
theorem fit_pr (x : Span) (n : Nat) : P.fit (n + 1) (pr x) = true := by simp [pr]
theorem fit_sc (sc : List Span) : P.fit 60 (scP sc) = true := by
  show ((sc.map pr).all (P.fit 59)) = true
  rw [List.all_eq_true]
  intro d hd
  obtain ⟨x, _, rfl⟩ := List.mem_map.mp hd
  exact fit_pr x 58
theorem pyeq_pr (x y : Span) : P.pyeq (pr x) (pr y) = decide (x = y) := by
  obtain ⟨a, b⟩ := x
  obtain ⟨c, d⟩ := y
  simp only [pr, P.pyeq, P.pyeqs, Prod.mk.injEq, Bool.and_true, Bool.decide_and]
theorem pyeqs_prs : ∀ (a b : List Span), P.pyeqs (a.map pr) (b.map pr) = decide (a = b)
  | [], [] => by simp [P.pyeqs]
  | [], _ :: _ => by simp [P.pyeqs]
  | _ :: _, [] => by simp [P.pyeqs]
  | x :: a, y :: b => by
    have := pyeqs_prs a b
    simp only [List.map_cons, P.pyeqs, pyeq_pr, this, List.cons.injEq, Bool.decide_and]
theorem pyeq_sc (a b : List Span) : P.pyeq (scP a) (scP b) = decide (a = b) := by
  unfold scP
  rw [P.pyeq, pyeqs_prs]
theorem eq_sc (a b : List Span) : pEq (scP a) (scP b) = some (.p (.bl (decide (a = b)))) := by
  unfold pEq; rw [fit_sc, fit_sc, pyeq_sc]; rfl
theorem ne_sc (a b : List Span) : pNe (scP a) (scP b) = some (.p (.bl (!decide (a = b)))) := by
  unfold pNe; rw [fit_sc, fit_sc, pyeq_sc]; rfl
theorem is_form_form {sc : List Span} (h : Valid sc) (S : Sto) : f_is_form [.p (scP (form sc))] S = some (.p (.bl true), S) := by
  refine fin_same rfl ?_
  have hv := form_valid h
  have h5 := hv.five
  simp [b_is_form, startE, is_scene_ok hv, found_form_ok (show (form sc).length ≤ 1000 by omega), eq_sc, form_form]
end XL
end
section
set_option Elab.async false
set_option linter.all false
set_option autoImplicit false
set_option maxRecDepth 100000
set_option maxHeartbeats 1000000
namespace XL
/-- a for over numbered things -/
theorem for_idx {n0 : Nat} {l : Option Nat} {S0 : Sto} {t : Tg} {b : XS} (n : Nat) (f : Nat → P) (I : Nat → Env → Sto → Prop)
    (step : ∀ k ρ S, k < n → I k ρ S → ∃ ρ1 ρ2 S2, t.put (f k) ρ = some ρ1 ∧ b ρ1 S = some (.nx ρ2, S2) ∧ cellOk l S0 S2 = true ∧ S2.length ≤ n0 ∧ I (k + 1) ρ2 S2) {ρ : Env} {S : Sto} (h : I 0 ρ S) :
    ∃ ρ' S', forGo n0 l S0 t b ((List.range n).map f) ρ S = some (.nx ρ', S') ∧ I n ρ' S' := by
  obtain ⟨ρ', S', e, k, hk, ed, hI⟩ := for_go (n0 := n0) (l := l) (S0 := S0) (t := t) (b := b) (fun ds ρ S => ∃ k, k ≤ n ∧ ds = ((List.range n).drop k).map f ∧ I k ρ S) (fun d ds ρ S hI => by
    obtain ⟨k, hk, e, hI⟩ := hI
    have hlt : k < n := by
      by_cases c : k < n
      · exact c
      · rw [List.drop_eq_nil_of_le (by simp; omega)] at e; cases e
    have e2 : (List.range n).drop k = k :: (List.range n).drop (k + 1) := by
      rw [List.drop_eq_getElem_cons (by simpa using hlt)]; simp
    rw [e2, List.map_cons] at e
    obtain ⟨rfl, rfl⟩ := List.cons.inj e
    obtain ⟨ρ1, ρ2, S2, a1, a2, a3, a4, a5⟩ := step k ρ S hlt hI
    exact ⟨ρ1, ρ2, S2, a1, a2, a3, a4, k + 1, hlt, rfl, a5⟩) ((List.range n).map f) ρ S ⟨0, Nat.zero_le _, by simp, h⟩
  have : k = n := by
    have h1 := congrArg List.length ed
    simp at h1
    omega
  subst this
  exact ⟨ρ', S', e, hI⟩
theorem letter_conv {x y : Span} (hx : x.1 < x.2) (hy : y.1 < y.2) : conv (letter x y) = letter y x := by
  unfold letter
  repeat' split
  all_goals first | (exfalso; omega) | decide
theorem letter_self {x : Span} (hx : x.1 < x.2) : letter x x = [101] := by
  unfold letter
  repeat' split
  all_goals first | (exfalso; omega) | rfl
theorem letter_ways (x y : Span) : IsWays (letter x y) := by
  unfold letter
  repeat' split
  all_goals decide
theorem small_letter (x y : Span) : ∀ c ∈ letter x y, c < 1114112 := (letter_ways x y).small
theorem fm_succ {α : Type} (f : Nat → List α) (k : Nat) : (List.range (k + 1)).flatMap f = (List.range k).flatMap f ++ f k := by
  rw [List.range_succ, List.flatMap_append]; simp
theorem mp_succ {α : Type} (f : Nat → α) (k : Nat) : (List.range (k + 1)).map f = (List.range k).map f ++ [f k] := by
  rw [List.range_succ, List.map_append]; rfl
theorem pyeqs_strs : ∀ (a b : List (List Nat)), P.pyeqs (a.map P.str) (b.map P.str) = decide (a = b)
  | [], [] => by simp [P.pyeqs]
  | [], _ :: _ => by simp [P.pyeqs]
  | _ :: _, [] => by simp [P.pyeqs]
  | x :: a, y :: b => by
    have := pyeqs_strs a b
    simp only [List.map_cons, P.pyeqs, P.pyeq, this, List.cons.injEq, Bool.decide_and]
theorem argD_p {a : XE} {ys : XD} {ρ : Env} {S S1 S2 : Sto} {d : P} {ds : List D} (h : a ρ S = some (.p d, S1)) (hr : ys ρ S1 = some (ds, S2)) : xConsD a ys ρ S = some (.p d :: ds, S2) := by
  rw [e_ConsD, h]; simp [hr]
theorem argD_ref {a : XE} {ys : XD} {ρ : Env} {S S1 S2 : Sto} {l : Nat} {ds : List D} (h : a ρ S = some (.ref l, S1)) (hr : ys ρ S1 = some (ds, S2)) : xConsD a ys ρ S = some (.ref l :: ds, S2) := by
  rw [e_ConsD, h]; simp [hr]
theorem set0 {C D : Cell} : [C].set 0 D = [D] := rfl
/-! ### a law's body, step by step -/
def Yes (s : XS) (ρ : Env) (S : Sto) : Prop := ∃ S', s ρ S = some (.rt (.p (.bl true)), S')
section
variable {ρ ρ' : Env} {S S1 : Sto} {s a b : XS} {e : XE} {t : XT} {i : Nat} {d : P} {ds : List P}
theorem yes_law {n : Nat} {args : List D} {k : Nat} (hk : args.length = k) (h : Yes b (startE n args) []) : ∃ S, mkF k n b args [] = some (.p (.bl true), S) := by
  obtain ⟨S', h⟩ := h
  exact ⟨[], by unfold mkF; rw [if_pos hk, h]; rfl⟩
theorem yes_nx (h : a ρ S = some (.nx ρ', S1)) (k : Yes s ρ' S1) : Yes (xSeq a s) ρ S := by
  obtain ⟨S', k⟩ := k
  exact ⟨S', by rw [seq_nx h, k]⟩
theorem yes_set (h : e ρ S = some (.p d, S1)) (k : Yes s (ρ.set i (some (.p d))) S1) : Yes (xSeq (xSet i e) s) ρ S := yes_nx (set_p h) k
theorem yes_setl (h : e ρ S = some (.frl ds, S1)) (k : Yes s (ρ.set i (some (.ref S1.length))) (S1 ++ [.lst ds])) : Yes (xSeq (xSet i e) s) ρ S := yes_nx (set_frl h) k
theorem set_frd {t : Bool} {kv : List (P × P)} (h : e ρ S = some (.frd t kv, S1)) : xSet i e ρ S = some (.nx (ρ.set i (some (.ref S1.length))), S1 ++ [.dct false t kv]) := by rw [e_Set, h]; rfl
theorem yes_setd {t : Bool} {kv : List (P × P)} (h : e ρ S = some (.frd t kv, S1)) (k : Yes s (ρ.set i (some (.ref S1.length))) (S1 ++ [.dct false t kv])) : Yes (xSeq (xSet i e) s) ρ S := yes_nx (set_frd h) k
theorem yes_no (h : t ρ S = some (false, S1)) (k : Yes s ρ S1) : Yes (xSeq (xIfS t a xPass) s) ρ S := by
  obtain ⟨S', k⟩ := k
  exact ⟨S', by rw [e_Seq, ifS_f h]; exact k⟩
theorem yes_ret (h : e ρ S = some (.p (.bl true), S1)) : Yes (xRet e) ρ S := ⟨S1, ret_p h⟩
theorem B_of {c : Bool} (h : e ρ S = some (.p (.bl c), S1)) : xB e ρ S = some (c, S1) := by rw [e_B, h]; rfl
theorem tor_f {t u : XT} {S2 : Sto} (h : t ρ S = some (false, S1)) (k : u ρ S1 = some (false, S2)) : xTor t u ρ S = some (false, S2) := by rw [e_Tor, h]; exact k
theorem tup1_p {a : XE} {p : P} (ha : a ρ S = some (.p p, S1)) : xTup (xCons a xNil) ρ S = some (.p (.tup [p]), S1) := by simp [ha]
theorem tup2_p {a b : XE} {p q : P} {S2 : Sto} (ha : a ρ S = some (.p p, S1)) (hb : b ρ S1 = some (.p q, S2)) : xTup (xCons a (xCons b xNil)) ρ S = some (.p (.tup [p, q]), S2) := by simp [ha, hb]
theorem tup3_p {a b c : XE} {p q r : P} {S2 S3 : Sto} (ha : a ρ S = some (.p p, S1)) (hb : b ρ S1 = some (.p q, S2)) (hc : c ρ S2 = some (.p r, S3)) : xTup (xCons a (xCons b (xCons c xNil))) ρ S = some (.p (.tup [p, q, r]), S3) := by simp [ha, hb, hc]
theorem def_p {f : XF} {ys : XD} {r : R} {as : List D} {S2 : Sto} (h : ys ρ S = some (as, S1)) (k : f as S1 = some (r, S2)) : xDef f ys ρ S = some (r, S2) := by rw [e_Def, h]; exact k
end
/-! ### defs of data alone: looked at with no cells at all -/
section
variable {k n : Nat} {b : XS} [LocS b] {ps : List P} {S' : Sto}
theorem pure_p {d : P} (hk : ps.length = k) (h : b (startE n (ps.map D.p)) [] = some (.rt (.p d), S')) (S : Sto) : mkF k n b (ps.map D.p) S = some (.p d, S) := by
  refine frame0 ?_ S
  unfold mkF
  rw [if_pos (by rw [List.length_map]; exact hk), h]; rfl
theorem pure_frl {ds : List P} (hk : ps.length = k) (h : b (startE n (ps.map D.p)) [] = some (.rt (.frl ds), S')) (S : Sto) : mkF k n b (ps.map D.p) S = some (.frl ds, S) := by
  refine frame0 ?_ S
  unfold mkF
  rw [if_pos (by rw [List.length_map]; exact hk), h]; rfl
theorem pure_ref {l : Nat} {ds : List P} (hk : ps.length = k) (h : b (startE n (ps.map D.p)) [] = some (.rt (.ref l), S')) (hl : S'[l]? = some (.lst ds)) (S : Sto) : mkF k n b (ps.map D.p) S = some (.frl ds, S) := by
  refine frame0 ?_ S
  unfold mkF
  rw [if_pos (by rw [List.length_map]; exact hk), h]
  simp [finish, hl]
theorem pure_dct {l : Nat} {t : Bool} {kv : List (P × P)} (hk : ps.length = k) (h : b (startE n (ps.map D.p)) [] = some (.rt (.ref l), S')) (hl : S'[l]? = some (.dct false t kv)) (S : Sto) : mkF k n b (ps.map D.p) S = some (.frd t kv, S) := by
  refine frame0 ?_ S
  unfold mkF
  rw [if_pos (by rw [List.length_map]; exact hk), h]
  simp [finish, hl]
theorem pure_nx {ρ : Env} (hk : ps.length = k) (h : b (startE n (ps.map D.p)) [] = some (.nx ρ, S')) (S : Sto) : mkF k n b (ps.map D.p) S = some (.p .non, S) := by
  refine frame0 ?_ S
  unfold mkF
  rw [if_pos (by rw [List.length_map]; exact hk), h]; rfl
end
/-! ### defs that draw: looked at with the town alone -/
section
variable {k n : Nat} {b : XS} [LocS b] {as : List D} {S' : Sto} {C C' : Cell}
theorem tw_p {d : P} (hk : as.length = k) (hw : ∀ d ∈ as, WfD 1 d) (h : b (startE n as) [C] = some (.rt (.p d), C' :: S')) (S : Sto) : mkF k n b as (C :: S) = some (.p d, C' :: S) := by
  refine frame1 ?_ hw S
  unfold mkF
  rw [if_pos hk, h]; simp
theorem tw_frl {ds : List P} (hk : as.length = k) (hw : ∀ d ∈ as, WfD 1 d) (h : b (startE n as) [C] = some (.rt (.frl ds), C' :: S')) (S : Sto) : mkF k n b as (C :: S) = some (.frl ds, C' :: S) := by
  refine frame1 ?_ hw S
  unfold mkF
  rw [if_pos hk, h]; simp
theorem tw_ref {l : Nat} {ds : List P} (hk : as.length = k) (hw : ∀ d ∈ as, WfD 1 d) (h : b (startE n as) [C] = some (.rt (.ref (l + 1)), C' :: S')) (hl : S'[l]? = some (.lst ds)) (S : Sto) : mkF k n b as (C :: S) = some (.frl ds, C' :: S) := by
  refine frame1 ?_ hw S
  unfold mkF
  rw [if_pos hk, h]
  simp [finish, hl]
end
/-! ### slots that hold data or nothing -/
abbrev op (o : Option P) : Option D := o.map D.p
@[simp] theorem slots_op {n0 : Nat} {o : Option P} {ρ : Env} : slotRefs n0 (Option.map D.p o :: ρ) = slotRefs n0 ρ := by cases o <;> rfl
@[simp] theorem slots_p {n0 : Nat} {d : P} {ρ : Env} : slotRefs n0 (some (D.p d) :: ρ) = slotRefs n0 ρ := rfl
@[simp] theorem slots_none {n0 : Nat} {ρ : Env} : slotRefs n0 (none :: ρ) = slotRefs n0 ρ := rfl
@[simp] theorem slots_nil {n0 : Nat} : slotRefs n0 [] = [] := rfl
@[simp] theorem slots_ref {n0 l : Nat} {ρ : Env} : slotRefs n0 (some (D.ref l) :: ρ) = if n0 ≤ l ∧ l ∉ slotRefs n0 ρ then l :: slotRefs n0 ρ else slotRefs n0 ρ := rfl
@[simp] theorem ren_op {n0 : Nat} {ks : List Nat} {o : Option P} : renSlot n0 ks (Option.map D.p o) = Option.map D.p o := by cases o <;> rfl
@[simp] theorem ren_p {n0 : Nat} {ks : List Nat} {d : P} : renSlot n0 ks (some (D.p d)) = some (D.p d) := rfl
@[simp] theorem ren_none {n0 : Nat} {ks : List Nat} : renSlot n0 ks none = none := rfl
@[simp] theorem ren_ref {n0 l : Nat} {ks : List Nat} : renSlot n0 ks (some (D.ref l)) = some (D.ref (if l < n0 then l else n0 + ks.idxOf l)) := rfl
theorem var_at {ρ : Env} {S : Sto} {i : Nat} {d : P} (h : ρ[i]? = some (some (.p d))) : xVar i ρ S = some (.p d, S) := by rw [e_Var, h]
theorem var_ref {ρ : Env} {S : Sto} {i l : Nat} (h : ρ[i]? = some (some (.ref l))) : xVar i ρ S = some (.ref l, S) := by rw [e_Var, h]
/-! ### loops -/
def Aft (n0 : Nat) (l : Option Nat) (S0 : Sto) (I : Env → Sto → Prop) (T : R → Sto → Prop) : Fl → Sto → Prop
  | .nx ρ, S => cellOk l S0 (gc n0 ρ S).2 = true ∧ I (gc n0 ρ S).1 (gc n0 ρ S).2
  | .rt r, S => T r S
  | _, _ => False
def End (I : Env → Sto → Prop) (T : R → Sto → Prop) : Fl → Sto → Prop
  | .nx ρ, S => I ρ S
  | .rt r, S => T r S
  | _, _ => False
theorem forGo_at {n0 : Nat} {l : Option Nat} {S0 : Sto} {t : Tg} {b : XS} {all : List P} (I : Nat → Env → Sto → Prop) (T : R → Sto → Prop)
    (step : ∀ i d ρ S, all[i]? = some d → I i ρ S → ∃ ρ1 fl S2, t.put d ρ = some ρ1 ∧ b ρ1 S = some (fl, S2) ∧ Aft n0 l S0 (I (i + 1)) T fl S2) :
    ∀ (ds : List P) (i : Nat) (ρ : Env) (S : Sto), all.drop i = ds → i ≤ all.length → I i ρ S → ∃ fl S', forGo n0 l S0 t b ds ρ S = some (fl, S') ∧ End (I all.length) T fl S'
  | [], i, ρ, S, hd, hi, h => by
    have : i = all.length := by
      have := congrArg List.length hd
      simp at this; omega
    subst this
    exact ⟨.nx ρ, S, rfl, h⟩
  | d :: ds, i, ρ, S, hd, hi, h => by
    have hlt : i < all.length := by
      have := congrArg List.length hd
      simp at this; omega
    rw [List.drop_eq_getElem_cons hlt] at hd
    obtain ⟨e1, e2⟩ := List.cons.inj hd
    obtain ⟨ρ1, fl, S2, h1, h2, h3⟩ := step i d ρ S (by rw [List.getElem?_eq_getElem hlt, e1]) h
    cases fl with
    | nx ρ2 =>
      obtain ⟨c, h3⟩ := h3
      obtain ⟨fl', S', h4, h5⟩ := forGo_at I T step ds (i + 1) _ _ e2 hlt h3
      refine ⟨fl', S', ?_, h5⟩
      simp only [forGo, h1, Option.bind_some, h2]
      rw [if_pos c]; exact h4
    | rt r => exact ⟨.rt r, S2, by simp only [forGo, h1, Option.bind_some, h2], h3⟩
    | bk _ => exact False.elim h3
    | ct _ => exact False.elim h3
/-- a for: I holds ahead of turn i, T of what is returned -/
theorem for_at {it : XI} {t : Tg} {b : XS} {ρ : Env} {S S1 : Sto} {ds : List P} {l : Option Nat} (hi : it ρ S = some (ds, l, S1)) (I : Nat → Env → Sto → Prop) (T : R → Sto → Prop) (h0 : I 0 ρ S1)
    (step : ∀ i d ρ S, ds[i]? = some d → I i ρ S → ∃ ρ1 fl S2, t.put d ρ = some ρ1 ∧ b ρ1 S = some (fl, S2) ∧ Aft S1.length l S1 (I (i + 1)) T fl S2) :
    ∃ fl S', xFor it t b ρ S = some (fl, S') ∧ End (I ds.length) T fl S' := by
  obtain ⟨fl, S', h, k⟩ := forGo_at (n0 := S1.length) (l := l) (S0 := S1) (all := ds) I T step ds 0 ρ S1 rfl (Nat.zero_le _) h0
  exact ⟨fl, S', by simp only [xFor, hi, Option.bind_some]; exact h, k⟩
/-- a for that returns nothing -/
theorem for_nx {it : XI} {t : Tg} {b : XS} {ρ : Env} {S S1 : Sto} {ds : List P} {l : Option Nat} (hi : it ρ S = some (ds, l, S1)) (I : Nat → Env → Sto → Prop) (h0 : I 0 ρ S1)
    (step : ∀ i d ρ S, ds[i]? = some d → I i ρ S → ∃ ρ1 ρ2 S2, t.put d ρ = some ρ1 ∧ b ρ1 S = some (.nx ρ2, S2) ∧ cellOk l S1 (gc S1.length ρ2 S2).2 = true ∧ I (i + 1) (gc S1.length ρ2 S2).1 (gc S1.length ρ2 S2).2) :
    ∃ ρ' S', xFor it t b ρ S = some (.nx ρ', S') ∧ I ds.length ρ' S' := by
  obtain ⟨fl, S', h, k⟩ := for_at hi I (fun _ _ => False) h0 (fun i d ρ S hd hI => by
    obtain ⟨ρ1, ρ2, S2, a1, a2, a3⟩ := step i d ρ S hd hI
    exact ⟨ρ1, .nx ρ2, S2, a1, a2, a3⟩)
  cases fl with
  | nx ρ' => exact ⟨ρ', S', h, k⟩
  | rt _ => exact False.elim k
  | bk _ => exact False.elim k
  | ct _ => exact False.elim k
/-- a for that returns nothing and leaves no new cells -/
theorem for_keep {it : XI} {t : Tg} {b : XS} {ρ : Env} {S S1 : Sto} {ds : List P} (hi : it ρ S = some (ds, none, S1)) (I : Nat → Env → Sto → Prop) (h0 : I 0 ρ S1)
    (step : ∀ i d ρ S, ds[i]? = some d → I i ρ S → ∃ ρ1 ρ2 S2, t.put d ρ = some ρ1 ∧ b ρ1 S = some (.nx ρ2, S2) ∧ S2.length ≤ S1.length ∧ I (i + 1) ρ2 S2) :
    ∃ ρ' S', xFor it t b ρ S = some (.nx ρ', S') ∧ I ds.length ρ' S' :=
  for_nx hi I h0 fun i d ρ S hd hI => by
    obtain ⟨ρ1, ρ2, S2, a1, a2, a3, a4⟩ := step i d ρ S hd hI
    exact ⟨ρ1, ρ2, S2, a1, a2, by rw [gc_same a3]; rfl, by rw [gc_same a3]; exact a4⟩
/-- a comprehension that changes cells -/
theorem lcGo_at {l : Option Nat} {S0 : Sto} {t : Tg} {e : XE} {ρ : Env} {all : List P} (J : Nat → List P → Sto → Prop)
    (step : ∀ i d acc S, all[i]? = some d → J i acc S → ∃ ρ1 r v S2, t.put d ρ = some ρ1 ∧ e ρ1 S = some (r, S2) ∧ r.fz = some v ∧ cellOk l S0 S2 = true ∧ J (i + 1) (acc ++ [v]) S2) :
    ∀ (ds : List P) (i : Nat) (acc : List P) (S : Sto), all.drop i = ds → i ≤ all.length → acc.length = i → all.length ≤ big → J i acc S → ∃ acc' S', lcGo l S0 t xTyes e ρ ds acc S = some (acc', S') ∧ J all.length acc' S' ∧ acc'.length = all.length
  | [], i, acc, S, hd, hi, ha, hb, h => by
    have : i = all.length := by
      have := congrArg List.length hd
      simp at this; omega
    subst this
    exact ⟨acc, S, rfl, h, ha⟩
  | d :: ds, i, acc, S, hd, hi, ha, hb, h => by
    have hlt : i < all.length := by
      have := congrArg List.length hd
      simp at this; omega
    rw [List.drop_eq_getElem_cons hlt] at hd
    obtain ⟨e1, e2⟩ := List.cons.inj hd
    obtain ⟨ρ1, r, v, S2, h1, h2, h3, h4, h5⟩ := step i d acc S (by rw [List.getElem?_eq_getElem hlt, e1]) h
    obtain ⟨acc', S', h6, h7⟩ := lcGo_at J step ds (i + 1) (acc ++ [v]) S2 e2 hlt (by simp [ha]) hb h5
    refine ⟨acc', S', ?_, h7⟩
    simp only [lcGo, h1, Option.bind_some, e_Tyes, if_true, h2, h3]
    rw [if_pos ⟨by omega, h4⟩]; exact h6
theorem lc_at {it : XI} {t : Tg} {e : XE} {vs : List Nat} {ρ : Env} {S S1 : Sto} {ds : List P} {l : Option Nat} (hi : it ρ S = some (ds, l, S1)) (hl : ds.length ≤ 1000000) (J : Nat → List P → Sto → Prop) (h0 : J 0 [] S1)
    (step : ∀ i d acc S, ds[i]? = some d → J i acc S → ∃ ρ1 r v S2, t.put d (wipeE ρ vs) = some ρ1 ∧ e ρ1 S = some (r, S2) ∧ r.fz = some v ∧ cellOk l S1 S2 = true ∧ J (i + 1) (acc ++ [v]) S2) :
    ∃ acc S', xLc it t xTyes e vs ρ S = some (.frl acc, S') ∧ J ds.length acc S' ∧ acc.length = ds.length := by
  obtain ⟨acc, S', h, k⟩ := lcGo_at (l := l) (S0 := S1) (t := t) (e := e) (ρ := wipeE ρ vs) (all := ds) J step ds 0 [] S1 rfl (Nat.zero_le _) rfl hl h0
  exact ⟨acc, S', by simp only [xLc, hi, Option.bind_some, h, Option.map_some], k⟩
/-- comprehensions over things of a kind -/
theorem lcGo_typed {α : Type} {l : Option Nat} {S : Sto} {t : Tg} {c : XT} {e : XE} {ρ : Env} (g : α → P) (keep : α → Bool) (v : α → P) : ∀ (xs : List α) (acc : List P),
    (∀ x ∈ xs, ∃ ρ1, t.put (g x) ρ = some ρ1 ∧ c ρ1 S = some (keep x, S) ∧ (keep x = true → ∃ r, e ρ1 S = some (r, S) ∧ r.fz = some (v x))) → acc.length + xs.length ≤ big →
    lcGo l S t c e ρ (xs.map g) acc S = some (acc ++ (xs.filter keep).map v, S)
  | [], acc, _, _ => by simp [lcGo]
  | x :: xs, acc, h, hl => by
    obtain ⟨ρ1, h1, h2, h3⟩ := h x List.mem_cons_self
    simp only [List.length_cons] at hl
    have rest := fun acc' (q : acc'.length + xs.length ≤ big) => lcGo_typed (l := l) (t := t) (c := c) (e := e) g keep v xs acc' (fun y hy => h y (List.mem_cons_of_mem _ hy)) q
    simp only [List.map_cons, lcGo, h1, Option.bind_some, h2]
    cases hk : keep x with
    | true =>
      obtain ⟨r, h4, h5⟩ := h3 hk
      simp only [if_true, h4, Option.bind_some, h5]
      rw [if_pos ⟨by omega, cell_same⟩, rest _ (by rw [List.length_append]; simp only [List.length_cons, List.length_nil]; omega), List.filter_cons_of_pos hk]
      simp
    | false =>
      simp only [Bool.false_eq_true, if_false]
      rw [if_pos cell_same, rest _ (by omega), List.filter_cons_of_neg (by simp [hk])]
theorem lc_typed {α : Type} {it : XI} {t : Tg} {c : XT} {e : XE} {vs : List Nat} {ρ : Env} {S : Sto} {l : Option Nat} {xs : List α} (g : α → P) (keep : α → Bool) (v : α → P) (hi : it ρ S = some (xs.map g, l, S))
    (h : ∀ x ∈ xs, ∃ ρ1, t.put (g x) (wipeE ρ vs) = some ρ1 ∧ c ρ1 S = some (keep x, S) ∧ (keep x = true → ∃ r, e ρ1 S = some (r, S) ∧ r.fz = some (v x))) (hl : xs.length ≤ 1000000) :
    xLc it t c e vs ρ S = some (.frl ((xs.filter keep).map v), S) := by
  simp only [xLc, hi, Option.bind_some]
  rw [lcGo_typed g keep v xs [] h (by simpa using hl)]
  simp
/-- all of them -/
theorem lc_each {α : Type} {it : XI} {t : Tg} {e : XE} {vs : List Nat} {ρ : Env} {S : Sto} {l : Option Nat} {xs : List α} (g : α → P) (v : α → P) (hi : it ρ S = some (xs.map g, l, S))
    (h : ∀ x ∈ xs, ∃ ρ1, t.put (g x) (wipeE ρ vs) = some ρ1 ∧ ∃ r, e ρ1 S = some (r, S) ∧ r.fz = some (v x)) (hl : xs.length ≤ 1000000) :
    xLc it t xTyes e vs ρ S = some (.frl (xs.map v), S) := by
  rw [lc_typed g (fun _ => true) v hi (fun x hx => by
    obtain ⟨ρ1, h1, h2⟩ := h x hx
    exact ⟨ρ1, h1, rfl, fun _ => h2⟩) hl, filt_true]
/-! ### draws, the town being the first cell -/
def Tw (ns : List Int) (c : Int) (C : Cell) : Prop := Town ns 0 c [C]
theorem Tw.mono {ns : List Int} {c c' : Int} {C : Cell} (h : Tw ns c C) (hc : c ≤ c') : Tw ns c' C := Town.mono h hc
theorem tw_new {ns : List Int} : Tw ns 0 (.lst (.int 0 :: ns.map P.int)) := town_new (S := [])
theorem Town.head {ns : List Int} {c : Int} {C : Cell} {S : Sto} : Town ns 0 c (C :: S) ↔ Tw ns c C := by
  simp [Tw, Town]
theorem draw_tw {ns : List Int} {c lim : Int} {C : Cell} (hT : Tw ns c C) (hc : c < 1000000) (h0 : 0 < lim) (h1 : lim < 1000000) (S : Sto) :
    ∃ v C', f_law_draw [scr ns, .ref 0, .p (.int lim)] (C :: S) = some (.p (.int v), C' :: S) ∧ 0 ≤ v ∧ v < lim ∧ Tw ns (c + 1) C' := by
  obtain ⟨v, S', e, v0, v1, C', eS, hT'⟩ := draw_ok (l := 0) (S := C :: S) (lim := lim) (Town.head.mpr hT) hc h0 h1
  rw [List.set_cons_zero] at eS
  subst eS
  exact ⟨v, C', e, v0, v1, Town.head.mp hT'⟩
theorem pick_tw {ns : List Int} {c : Int} {C : Cell} (hT : Tw ns c C) (hc : c < 1000000) (ch : List P) (h0 : ch ≠ []) (h1 : ch.length < 1000000) (S : Sto) :
    ∃ d C', f_law_pick [scr ns, .ref 0, .p (.lst ch)] (C :: S) = some (.p d, C' :: S) ∧ d ∈ ch ∧ Tw ns (c + 1) C' := by
  obtain ⟨d, S', e, hd, C', eS, hT'⟩ := law_pick_ok (l := 0) (S := C :: S) (Town.head.mpr hT) hc ch h0 h1
  rw [List.set_cons_zero] at eS
  subst eS
  exact ⟨d, C', e, hd, Town.head.mp hT'⟩
/-- choices in a cell -/
theorem pick_ref {ns : List Int} {c : Int} {C : Cell} (hT : Tw ns c C) (hc : c < 1000000) (ch : List P) (h0 : ch ≠ []) (h1 : ch.length < 1000000) (S : Sto) (k : Nat) (hk : S[k]? = some (.lst ch)) :
    ∃ d C', f_law_pick [scr ns, .ref 0, .ref (k + 1)] (C :: S) = some (.p d, C' :: S) ∧ d ∈ ch ∧ Tw ns (c + 1) C' := by
  have hpos : 0 < ch.length := List.length_pos_iff.mpr h0
  obtain ⟨v, C', e, v0, v1, hT'⟩ := draw_tw (ns := ns) (lim := (ch.length : Int)) hT hc (by omega) (by omega) S
  have hv : v.toNat < ch.length := by omega
  have e2 : pIx (.lst ch) (.int v) = some (.p ch[v.toNat]) := ix_lst_of v0 (List.getElem?_eq_getElem hv)
  refine ⟨ch[v.toNat], C', ?_, List.getElem_mem hv, hT'⟩
  simp only [f_law_pick, mkF, b_law_pick, startE]
  simp [e, e2, hk, R.rd]
theorem scene_tw {ns : List Int} {c : Int} {C : Cell} (n : Nat) (far : Int) (hT : Tw ns c C) (hn : n ≤ 1000) (hc : c + 2 * n < 1000000) (h0 : 0 < far) (h1 : far < 1000000) (S : Sto) :
    ∃ sc C', f_law_scene [scr ns, .ref 0, .p (.int n), .p (.int far)] (C :: S) = some (.p (scP sc), C' :: S) ∧ sc.length = n ∧ (∀ x ∈ sc, 0 ≤ x.1 ∧ x.1 < far ∧ x.1 < x.2 ∧ x.2 ≤ x.1 + far) ∧ Tw ns (c + 2 * n) C' := by
  obtain ⟨sc, S', e, hl, hx, C', eS, hT'⟩ := law_scene_ok (l := 0) (S := C :: S) n far (Town.head.mpr hT) hn hc h0 h1
  rw [List.set_cons_zero] at eS
  subst eS
  exact ⟨sc, C', e, hl, hx, Town.head.mp hT'⟩
end XL
end
section
set_option Elab.async false
set_option linter.all false
set_option autoImplicit false
set_option maxRecDepth 100000
set_option maxHeartbeats 1000000
namespace XL
/-! ### composition -/
def rowC (a : Nat) : List Nat := match t_COMPOSED.lookup [a] with
  | some (.str s) => s
  | _ => []
def cells (a : Nat) : List (List Nat) := splitC 32 [] (rowC a)
def tbl (a b : Nat) : List Nat := (cells a).getD (lettersC.idxOf b) []
theorem row_is : ∀ a ∈ c_LETTERS, t_COMPOSED.lookup [a] = some (.str (rowC a)) ∧ (rowC a).length ≤ 1000 ∧ (cells a).length = 13 := by decide +kernel
theorem tbl_is : ∀ a ∈ c_LETTERS, ∀ b ∈ c_LETTERS, (cells a)[lettersC.idxOf b]? = some (tbl a b) ∧ (tbl a b ≠ [] ∧ ∀ c ∈ tbl a b, c ∈ c_LETTERS) := by decide +kernel
/-! a dict with letters as keys -/
def kvL (L : List Nat) : List (P × P) := L.map fun c => (st1 c, P.bl true)
def insL (L : List Nat) (c : Nat) : List Nat := if c ∈ L then L else L ++ [c]
theorem st1_inj {a b : Nat} : st1 a = st1 b ↔ a = b := by simp [st1]
theorem put_kvL (L : List Nat) (c : Nat) : putD (kvL L) (st1 c) (.bl true) = kvL (insL L c) := by
  have ha : ((kvL L).any fun kv => decide (kv.1 = st1 c)) = decide (c ∈ L) := by
    rw [Bool.eq_iff_iff]
    simp [kvL, st1_inj]
  unfold putD insL
  rw [ha]
  by_cases h : c ∈ L
  · simp only [h, decide_true, if_true]
    unfold kvL
    rw [List.map_map]
    refine List.map_congr_left fun x _ => ?_
    show (if st1 x = st1 c then _ else _) = _
    split <;> rfl
  · simp only [h, decide_false, Bool.false_eq_true, if_false]
    simp [kvL]
theorem mem_insL {L : List Nat} {c x : Nat} : x ∈ insL L c ↔ x ∈ L ∨ x = c := by
  unfold insL
  split
  · rename_i h
    constructor
    · exact fun q => .inl q
    · rintro (q | q)
      · exact q
      · subst q; exact h
  · simp
theorem nodup_insL {L : List Nat} {c : Nat} (h : L.Nodup) : (insL L c).Nodup := by
  unfold insL
  split
  · exact h
  · rename_i q
    rw [List.nodup_append]
    refine ⟨h, by simp, fun a ha b hb => ?_⟩
    simp at hb
    subst hb
    exact fun e => q (e ▸ ha)
theorem insL_len (L : List Nat) (c : Nat) : (insL L c).length ≤ L.length + 1 := by
  unfold insL
  split <;> simp
theorem mem_fold {x : Nat} : ∀ (cs L : List Nat), x ∈ cs.foldl insL L ↔ x ∈ L ∨ x ∈ cs
  | [], L => by simp
  | c :: cs, L => by rw [List.foldl_cons, mem_fold cs, mem_insL, List.mem_cons, or_assoc]
theorem nodup_fold : ∀ (cs : List Nat) {L : List Nat}, L.Nodup → (cs.foldl insL L).Nodup
  | [], _, h => h
  | c :: cs, _, h => nodup_fold cs (nodup_insL h)
/-! sorted letters -/
abbrev AscN (l : List Nat) : Prop := l.Pairwise (· < ·)
theorem ascN_one : ∀ {l m : List Nat}, AscN l → AscN m → (∀ k, k ∈ l ↔ k ∈ m) → l = m
  | [], [], _, _, _ => rfl
  | [], y :: ys, _, _, h => absurd ((h y).mpr List.mem_cons_self) (by simp)
  | x :: xs, [], _, _, h => absurd ((h x).mp List.mem_cons_self) (by simp)
  | x :: xs, y :: ys, hl, hm, h => by
    obtain ⟨a1, a2⟩ := List.pairwise_cons.mp hl
    obtain ⟨b1, b2⟩ := List.pairwise_cons.mp hm
    have e : x = y := by
      rcases List.mem_cons.mp ((h x).mp List.mem_cons_self) with q | q
      · exact q
      · rcases List.mem_cons.mp ((h y).mpr List.mem_cons_self) with r | r
        · exact r.symm
        · have := b1 x q; have := a1 y r; omega
    subst e
    congr 1
    refine ascN_one a2 b2 fun k => ?_
    constructor
    · intro hk
      rcases List.mem_cons.mp ((h k).mp (List.mem_cons_of_mem _ hk)) with q | q
      · subst q; exact absurd (a1 k hk) (Nat.lt_irrefl _)
      · exact q
    · intro hk
      rcases List.mem_cons.mp ((h k).mpr (List.mem_cons_of_mem _ hk)) with q | q
      · subst q; exact absurd (b1 k hk) (Nat.lt_irrefl _)
      · exact q
theorem mem_insN {x z : Nat} : ∀ {l : List Nat}, z ∈ insN x l ↔ z = x ∨ z ∈ l
  | [] => by simp [insN]
  | y :: ys => by
    unfold insN
    split
    · rw [List.mem_cons, mem_insN (l := ys), List.mem_cons]
      constructor
      · rintro (h | h | h)
        · exact .inr (.inl h)
        · exact .inl h
        · exact .inr (.inr h)
      · rintro (h | h | h)
        · exact .inr (.inl h)
        · exact .inl h
        · exact .inr (.inr h)
    · rw [List.mem_cons]
theorem mem_sortN {z : Nat} : ∀ {l : List Nat}, z ∈ sortN l ↔ z ∈ l
  | [] => by simp [sortN]
  | x :: xs => by rw [sortN, mem_insN, mem_sortN (l := xs), List.mem_cons]
theorem insN_asc {x : Nat} : ∀ {l : List Nat}, AscN l → x ∉ l → AscN (insN x l)
  | [], _, _ => by simp [insN]
  | y :: ys, h, hx => by
    obtain ⟨h1, h2⟩ := List.pairwise_cons.mp h
    simp only [List.mem_cons, not_or] at hx
    unfold insN
    split
    · refine List.pairwise_cons.mpr ⟨fun z hz => ?_, insN_asc h2 hx.2⟩
      rcases mem_insN.mp hz with q | q
      · subst q; assumption
      · exact h1 z q
    · refine List.pairwise_cons.mpr ⟨fun z hz => ?_, h⟩
      rcases List.mem_cons.mp hz with q | q
      · subst q; omega
      · have := h1 z q; omega
theorem sortN_asc : ∀ {l : List Nat}, l.Nodup → AscN (sortN l)
  | [], _ => List.Pairwise.nil
  | x :: xs, h => by
    obtain ⟨h1, h2⟩ := List.nodup_cons.mp h
    exact insN_asc (sortN_asc h2) (fun q => h1 (mem_sortN.mp q))
theorem letters_asc : AscN c_LETTERS := by decide
theorem filt_asc (f : Nat → Bool) : AscN (c_LETTERS.filter f) := letters_asc.filter f
/-- letters in sequence, each once: those that are in the list -/
theorem sorted_is {L : List Nat} {f : Nat → Bool} (hn : L.Nodup) (h : ∀ c, c ∈ L ↔ c ∈ c_LETTERS ∧ f c = true) : sortN L = c_LETTERS.filter f :=
  ascN_one (sortN_asc hn) (filt_asc f) fun k => by rw [mem_sortN, h, List.mem_filter]
def comp (s t : List Nat) : List Nat := c_LETTERS.filter fun c => s.any fun a => t.any fun b => decide (c ∈ tbl a b)
theorem mem_comp {s t : List Nat} {c : Nat} (hs : ∀ a ∈ s, a ∈ c_LETTERS) (ht : ∀ b ∈ t, b ∈ c_LETTERS) : c ∈ comp s t ↔ ∃ a ∈ s, ∃ b ∈ t, c ∈ tbl a b := by
  unfold comp
  rw [List.mem_filter, List.any_eq_true]
  constructor
  · rintro ⟨_, a, ha, h⟩
    rw [List.any_eq_true] at h
    obtain ⟨b, hb, h⟩ := h
    exact ⟨a, ha, b, hb, by simpa using h⟩
  · rintro ⟨a, ha, b, hb, h⟩
    refine ⟨(tbl_is a (hs a ha) b (ht b hb)).2.2 c h, a, ha, ?_⟩
    rw [List.any_eq_true]
    exact ⟨b, hb, by simpa using h⟩
def fold2 (a : Nat) (t L : List Nat) : List Nat := t.foldl (fun L b => (tbl a b).foldl insL L) L
theorem mem_fold2 {a x : Nat} : ∀ (t L : List Nat), x ∈ fold2 a t L ↔ x ∈ L ∨ ∃ b ∈ t, x ∈ tbl a b
  | [], L => by simp [fold2]
  | b :: t, L => by
    show x ∈ fold2 a t ((tbl a b).foldl insL L) ↔ _
    rw [mem_fold2 t, mem_fold]
    simp only [List.mem_cons, exists_eq_or_imp, or_assoc]
theorem nodup_fold2 {a : Nat} : ∀ (t : List Nat) {L : List Nat}, L.Nodup → (fold2 a t L).Nodup
  | [], _, h => h
  | b :: t, _, h => nodup_fold2 t (nodup_fold (tbl a b) h)
theorem getMap {α β : Type} {f : α → β} {l : List α} {i : Nat} {d : β} (h : (l.map f)[i]? = some d) : ∃ x, l[i]? = some x ∧ d = f x := by
  rw [List.getElem?_map] at h
  cases e : l[i]? with
  | none => rw [e] at h; cases h
  | some x => rw [e] at h; exact ⟨x, rfl, (Option.some.inj h).symm⟩
/-- letter after letter into the dict -/
theorem put_loop {a b : Nat} {s t : List Nat} {L : List Nat} {tail : Sto} {y3 y5 : P} {y6 : Option P} {e4 : Option D} {r : XE} (h3 : L.length + 20 ≤ 1000000)
    (hr : r [some (.p (.str s)), some (.p (.str t)), some (.ref 0), some (.p y3), e4, some (.p y5), op y6] (.dct false false (kvL L) :: tail) = some (.p (.str (tbl a b)), .dct false false (kvL L) :: tail)) (hl : (tbl a b).length ≤ 13) :
    ∃ y6' : Option P, xFor (xItA r) (.nm 6) (xPutD (xC (.bl true)) (xVar 2) (xVar 6)) [some (.p (.str s)), some (.p (.str t)), some (.ref 0), some (.p y3), e4, some (.p y5), op y6] (.dct false false (kvL L) :: tail) =
      some (.nx [some (.p (.str s)), some (.p (.str t)), some (.ref 0), some (.p y3), e4, some (.p y5), op y6'], .dct false false (kvL ((tbl a b).foldl insL L)) :: tail) := by
  obtain ⟨ρ', S', e, y6', rfl, rfl, _⟩ := for_keep (t := .nm 6) (b := xPutD (xC (.bl true)) (xVar 2) (xVar 6)) (itA_str hr)
    (fun i ρ S => ∃ y6' : Option P, ρ = [some (.p (.str s)), some (.p (.str t)), some (.ref 0), some (.p y3), e4, some (.p y5), op y6'] ∧ S = .dct false false (kvL (((tbl a b).take i).foldl insL L)) :: tail ∧ (((tbl a b).take i).foldl insL L).length ≤ L.length + i)
    ⟨y6, rfl, by simp, by simp⟩
    (fun i d ρ S hd hI => by
      obtain ⟨y6', rfl, rfl, hlen⟩ := hI
      obtain ⟨c, hc, rfl⟩ := getMap hd
      have hi := (List.getElem?_eq_some_iff.mp hc).1
      have tk : (tbl a b).take (i + 1) = (tbl a b).take i ++ [c] := by
        rw [List.take_add_one, hc]; rfl
      refine ⟨_, [some (.p (.str s)), some (.p (.str t)), some (.ref 0), some (.p y3), e4, some (.p y5), op (some (st1 c))], .dct false false (kvL (((tbl a b).take (i + 1)).foldl insL L)) :: tail, rfl, ?_, by simp, some (st1 c), rfl, rfl, ?_⟩
      · have hb : ((kvL (((tbl a b).take i).foldl insL L)).length < 1000000) := by
          unfold kvL; rw [List.length_map]; omega
        rw [tk, List.foldl_append]
        simp only [List.foldl_cons, List.foldl_nil]
        rw [← put_kvL]
        simp only [xPutD, e_C, e_Var, Option.bind_some]
        simp [keyOkP, hb, st1]
      · rw [tk, List.foldl_append]
        simp only [List.foldl_cons, List.foldl_nil]
        have := insL_len (((tbl a b).take i).foldl insL L) c
        omega)
  refine ⟨y6', ?_⟩
  rw [e]
  simp
theorem small_tbl : ∀ a ∈ c_LETTERS, ∀ b ∈ c_LETTERS, (tbl a b).length ≤ 13 := by decide +kernel
theorem sub_len {L : List Nat} (hn : L.Nodup) (h : ∀ c ∈ L, c ∈ c_LETTERS) : L.length ≤ 13 := by
  have e : sortN L = c_LETTERS.filter fun c => decide (c ∈ L) := sorted_is hn fun c => by
    constructor
    · exact fun q => ⟨h c q, by simpa using q⟩
    · exact fun q => by simpa using q.2
  rw [← sortN_len, e]
  exact Nat.le_trans (List.length_filter_le _ _) (by decide)
theorem row_loop {a : Nat} {s t : List Nat} {L : List Nat} {tail : Sto} {y5 y6 : Option P} {k : Nat} (ha : a ∈ c_LETTERS) (ht : ∀ b ∈ t, b ∈ c_LETTERS) (hL : L.Nodup) (hL2 : ∀ c ∈ L, c ∈ c_LETTERS)
    (hk : tail[k]? = some (.lst ((cells a).map P.str))) :
    ∃ y5' y6' : Option P, xFor (xItA (xVar 1)) (.nm 5) (xFor (xItA (xBin pIx (xVar 4) (xMeth .str mIndexL (xC (.str c_LETTERS)) (xCons (xVar 5) xNil)))) (.nm 6) (xPutD (xC (.bl true)) (xVar 2) (xVar 6)))
      [some (.p (.str s)), some (.p (.str t)), some (.ref 0), some (.p (st1 a)), some (.ref (k + 1)), op y5, op y6] (.dct false false (kvL L) :: tail) =
      some (.nx [some (.p (.str s)), some (.p (.str t)), some (.ref 0), some (.p (st1 a)), some (.ref (k + 1)), op y5', op y6'], .dct false false (kvL (fold2 a t L)) :: tail) := by
  obtain ⟨ρ', S', e, y5', y6', rfl, rfl⟩ := for_keep (t := .nm 5) (b := xFor (xItA (xBin pIx (xVar 4) (xMeth .str mIndexL (xC (.str c_LETTERS)) (xCons (xVar 5) xNil)))) (.nm 6) (xPutD (xC (.bl true)) (xVar 2) (xVar 6)))
    (itA_str (a := xVar 1) (ρ := [some (.p (.str s)), some (.p (.str t)), some (.ref 0), some (.p (st1 a)), some (.ref (k + 1)), op y5, op y6]) (S := .dct false false (kvL L) :: tail) (s := t) rfl)
    (fun i ρ S => ∃ y5' y6' : Option P, ρ = [some (.p (.str s)), some (.p (.str t)), some (.ref 0), some (.p (st1 a)), some (.ref (k + 1)), op y5', op y6'] ∧ S = .dct false false (kvL (fold2 a (t.take i) L)) :: tail)
    ⟨y5, y6, rfl, rfl⟩
    (fun i d ρ S hd hI => by
      obtain ⟨y5', y6', rfl, rfl⟩ := hI
      obtain ⟨b, hb, rfl⟩ := getMap hd
      have hbl := ht b (List.mem_of_getElem? hb)
      have tk : t.take (i + 1) = t.take i ++ [b] := by rw [List.take_add_one, hb]; rfl
      have hLi : ∀ c ∈ fold2 a (t.take i) L, c ∈ c_LETTERS := fun c hc => by
        rcases (mem_fold2 _ _).mp hc with q | ⟨b', hb', q⟩
        · exact hL2 c q
        · exact (tbl_is a ha b' (ht b' (List.mem_of_mem_take hb'))).2.2 c q
      obtain ⟨y6'', e⟩ := put_loop (a := a) (b := b) (s := s) (t := t) (L := fold2 a (t.take i) L) (tail := tail) (y3 := st1 a) (y5 := st1 b) (y6 := y6') (e4 := some (.ref (k + 1))) (r := xBin pIx (xVar 4) (xMeth .str mIndexL (xC (.str c_LETTERS)) (xCons (xVar 5) xNil)))
        (by have := sub_len (nodup_fold2 (t.take i) hL) hLi; omega) (by
          have h1 : (b ∈ lettersC) := hbl
          have h2 : pIx (.lst ((cells a).map P.str)) (.int (lettersC.idxOf b : Nat)) = some (.p (.str (tbl a b))) := ix_lst_of (by omega) (by simp [(tbl_is a ha b hbl).1])
          have h0 : c_LETTERS = lettersC := rfl
          simp [R.rd, hk, mIndexL, st1, h0, h1, h2, isTy]) (small_tbl a ha b hbl)
      refine ⟨_, _, _, rfl, e, by simp, some (st1 b), y6'', rfl, ?_⟩
      rw [tk]
      simp only [fold2, List.foldl_append, List.foldl_cons, List.foldl_nil])
  refine ⟨y5', y6', ?_⟩
  rw [e]
  simp

def foldC (t : List Nat) (s : List Nat) : List Nat := s.foldl (fun L a => fold2 a t L) []
theorem foldC_app (t s : List Nat) (a : Nat) : foldC t (s ++ [a]) = fold2 a t (foldC t s) := by simp [foldC]
theorem mem_foldC {t : List Nat} {x : Nat} (s : List Nat) : x ∈ foldC t s ↔ ∃ a ∈ s, ∃ b ∈ t, x ∈ tbl a b := by
  have key : ∀ (s L : List Nat), x ∈ s.foldl (fun L a => fold2 a t L) L ↔ x ∈ L ∨ ∃ a ∈ s, ∃ b ∈ t, x ∈ tbl a b := by
    intro s
    induction s with
    | nil => intro L; simp
    | cons a s ih => intro L; rw [List.foldl_cons, ih, mem_fold2]; simp only [List.mem_cons, exists_eq_or_imp, or_assoc]
  rw [foldC, key]; simp
theorem nodup_foldC {t : List Nat} (s : List Nat) : (foldC t s).Nodup := by
  have key : ∀ (s L : List Nat), L.Nodup → (s.foldl (fun L a => fold2 a t L) L).Nodup := by
    intro s
    induction s with
    | nil => intro L h; exact h
    | cons a s ih => intro L h; exact ih _ (nodup_fold2 t h)
  exact key s [] List.nodup_nil
theorem sort_foldC {s t : List Nat} (hs : ∀ a ∈ s, a ∈ c_LETTERS) (ht : ∀ b ∈ t, b ∈ c_LETTERS) : sortN (foldC t s) = comp s t := by
  refine ascN_one (sortN_asc (nodup_foldC s)) (filt_asc _) fun k => ?_
  rw [mem_sortN, mem_foldC, ← mem_comp hs ht]
theorem sortedD_kvL {L : List Nat} (h : L.length ≤ 13) {a : XE} {ρ : Env} {S S' : Sto} {l : Nat} (ha : a ρ S = some (.ref l, S')) (hl : S'[l]? = some (.dct false false (kvL L))) : xSortedD a ρ S = some (.frl ((sortN L).map st1), S') := by
  have hk : (kvL L).map (·.1) = L.map st1 := by simp [kvL, Function.comp]
  have h1 : ((L.map st1).all isStrP && decide ((kvL L).length < 64)) = true := by
    have : (kvL L).length = L.length := by simp [kvL]
    simp [this, isStrP, st1]
    omega
  simp only [xSortedD, ha, Option.bind_some, hl, hk]
  rw [if_pos h1, sortP_st]
/-- composition -/
theorem composition_ok {s t : List Nat} (hs : ∀ a ∈ s, a ∈ c_LETTERS) (ht : ∀ b ∈ t, b ∈ c_LETTERS) (S : Sto) : f_composition [.p (.str s), .p (.str t)] S = some (.p (.str (comp s t)), S) := by
  have sub : ∀ i, ∀ c ∈ foldC t (s.take i), c ∈ c_LETTERS := fun i c hc => by
    obtain ⟨a, ha, b, hb, q⟩ := (mem_foldC _).mp hc
    exact (tbl_is a (hs a (List.mem_of_mem_take ha)) b (ht b hb)).2.2 c q
  have k1 : xSet 2 (xNewD false) (startE 7 [.p (.str s), .p (.str t)]) [] = some (.nx [some (.p (.str s)), some (.p (.str t)), some (.ref 0), none, none, none, none], [.dct false false (kvL [])]) := rfl
  obtain ⟨fl, S', e, h⟩ := for_at (it := xItA (xVar 0)) (t := .nm 3) (b := (xSeq (xSet 4 (xMeth .str mSplit (xUn (tabGet t_COMPOSED) (xVar 3)) (xCons (xC (.str [32])) xNil)))
    (xSeq (xFor (xItA (xVar 1)) (.nm 5)
    (xFor (xItA (xBin pIx (xVar 4) (xMeth .str mIndexL (xC (.str c_LETTERS)) (xCons (xVar 5) xNil)))) (.nm 6)
    (xPutD (xC (.bl true)) (xVar 2) (xVar 6))))
    (xIfS (xB (xBin pEq (xLenD (xVar 2)) (xCall cLen (xCons (xC (.str c_LETTERS)) xNil))))
    (xRet (xC (.str c_LETTERS)))
    xPass)))) (ρ := [some (.p (.str s)), some (.p (.str t)), some (.ref 0), none, none, none, none]) (S := [.dct false false (kvL [])]) (itA_str (s := s) rfl)
    (fun i ρ S => ∃ (y3 y5 y6 : Option P) (y4 : Option D) (tail : Sto), ρ = [some (.p (.str s)), some (.p (.str t)), some (.ref 0), op y3, y4, op y5, op y6] ∧ S = .dct false false (kvL (foldC t (s.take i))) :: tail)
    (fun r S => r = .p (.str (comp s t)))
    ⟨none, none, none, none, [], rfl, rfl⟩
    (fun i d ρ S hd hI => by
      obtain ⟨y3, y5, y6, y4, tail, rfl, rfl⟩ := hI
      obtain ⟨a, ha, rfl⟩ := getMap hd
      have hal := hs a (List.mem_of_getElem? ha)
      have tk : s.take (i + 1) = s.take i ++ [a] := by rw [List.take_add_one, ha]; rfl
      have hT : (tail ++ [Cell.lst ((cells a).map P.str)])[tail.length]? = some (.lst ((cells a).map P.str)) := by simp
      have q1 : xSet 4 (xMeth .str mSplit (xUn (tabGet t_COMPOSED) (xVar 3)) (xCons (xC (.str [32])) xNil)) [some (.p (.str s)), some (.p (.str t)), some (.ref 0), some (.p (st1 a)), y4, op y5, op y6] (.dct false false (kvL (foldC t (s.take i))) :: tail) =
          some (.nx [some (.p (.str s)), some (.p (.str t)), some (.ref 0), some (.p (st1 a)), some (.ref (tail.length + 1)), op y5, op y6], .dct false false (kvL (foldC t (s.take i))) :: (tail ++ [.lst ((cells a).map P.str)])) := by
        have h1 := row_is a hal
        have h2 : (rowC a).length ≤ 1000000 := by omega
        have h3 : xMeth .str mSplit (xUn (tabGet t_COMPOSED) (xVar 3)) (xCons (xC (.str [32])) xNil) [some (.p (.str s)), some (.p (.str t)), some (.ref 0), some (.p (st1 a)), y4, op y5, op y6] (.dct false false (kvL (foldC t (s.take i))) :: tail) = some (.frl ((cells a).map P.str), .dct false false (kvL (foldC t (s.take i))) :: tail) := by
          simp [tabGet, st1, h1.1, isTy, mSplit, h2, cells]
        rw [set_frl h3]; rfl
      obtain ⟨y5', y6', q2⟩ := row_loop (s := s) (t := t) (L := foldC t (s.take i)) (tail := tail ++ [.lst ((cells a).map P.str)]) (y5 := y5) (y6 := y6) (k := tail.length) hal ht (nodup_foldC _) (sub i) hT
      rw [← foldC_app, ← tk] at q2
      have hlen := sub_len (nodup_foldC (s.take (i + 1))) (sub (i + 1))
      by_cases full : (foldC t (s.take (i + 1))).length = 13
      · refine ⟨_, .rt (.p (.str c_LETTERS)), .dct false false (kvL (foldC t (s.take (i + 1)))) :: (tail ++ [.lst ((cells a).map P.str)]), rfl, ?_, ?_⟩
        rotate_left
        · show R.p (.str c_LETTERS) = .p (.str (comp s t))
          have e1 : sortN (foldC t (s.take (i + 1))) = c_LETTERS := by
            refine List.Sublist.eq_of_length ?_ (by rw [sortN_len, full]; rfl)
            have : sortN (foldC t (s.take (i + 1))) = c_LETTERS.filter fun c => decide (c ∈ foldC t (s.take (i + 1))) := sorted_is (nodup_foldC _) fun c => by
              constructor
              · exact fun q => ⟨sub _ c q, by simpa using q⟩
              · exact fun q => by simpa using q.2
            rw [this]; exact List.filter_sublist
          have e2 : comp s t = c_LETTERS := ascN_one (filt_asc _) letters_asc fun k => by
            constructor
            · exact fun q => (List.mem_filter.mp q).1
            · intro q
              rw [← e1, mem_sortN] at q
              obtain ⟨x, hx, z⟩ := (mem_foldC _).mp q
              exact (mem_comp hs ht).mpr ⟨x, List.mem_of_mem_take hx, z⟩
          rw [e2]
        · show xSeq _ _ [some (.p (.str s)), some (.p (.str t)), some (.ref 0), some (.p (st1 a)), y4, op y5, op y6] _ = _
          rw [seq_nx q1, seq_nx q2]
          have : (kvL (foldC t (s.take (i + 1)))).length = 13 := by simp [kvL, full]
          rw [ifS_t (S' := .dct false false (kvL (foldC t (s.take (i + 1)))) :: (tail ++ [.lst ((cells a).map P.str)])) (by simp [xLenD, this, cLen, c_LETTERS])]
          rfl
      · refine ⟨_, .nx [some (.p (.str s)), some (.p (.str t)), some (.ref 0), some (.p (st1 a)), some (.ref (tail.length + 1)), op y5', op y6'], .dct false false (kvL (foldC t (s.take (i + 1)))) :: (tail ++ [.lst ((cells a).map P.str)]), rfl, ?_, ?_⟩
        · show xSeq _ _ [some (.p (.str s)), some (.p (.str t)), some (.ref 0), some (.p (st1 a)), y4, op y5, op y6] _ = _
          rw [seq_nx q1, seq_nx q2]
          have : (kvL (foldC t (s.take (i + 1)))).length = (foldC t (s.take (i + 1))).length := by simp [kvL]
          have h13 : ((foldC t (s.take (i + 1))).length : Int) ≠ 13 := by omega
          exact if_no (by simp [xLenD, this, cLen, c_LETTERS, h13])
        · refine ⟨rfl, ?_⟩
          unfold gc
          rw [if_neg (by simp)]
          refine ⟨some (st1 a), y5', y6', some (.ref 1), [.lst ((cells a).map P.str)], ?_, ?_⟩
          · simp
          · simp [keptCells])
  have k3 : b_composition (startE 7 [.p (.str s), .p (.str t)]) [] = some (.rt (.p (.str (comp s t))), S') := by
    unfold b_composition
    rw [seq_nx k1]
    cases fl with
    | nx ρ =>
      obtain ⟨y3, y5, y6, y4, tail, rfl, rfl⟩ := h
      rw [seq_nx e]
      refine ret_p ?_
      have q : s.take (s.map fun c => P.str [c]).length = s := by simp
      rw [q]
      have hl : (foldC t s).length ≤ 13 := by
        have := sub_len (nodup_foldC (s.take s.length)) (sub s.length)
        rw [List.take_length] at this; exact this
      have q2 := sortedD_kvL (L := foldC t s) (a := xVar 2) (ρ := [some (.p (.str s)), some (.p (.str t)), some (.ref 0), op y3, y4, op y5, op y6]) (S := .dct false false (kvL (foldC t s)) :: tail) (l := 0) hl rfl rfl
      have q3 := mjoin_st (l := sortN (foldC t s)) (by rw [sortN_len]; omega)
      rw [sort_foldC hs ht] at q2 q3
      rw [e_Meth]
      simp only [e_C, Option.bind_some, rd_p, isTy, if_true, e_Cons, q2, e_Nil, Option.map_some, rds_cons, rds_nil, rd_frl, q3]
    | rt r =>
      cases (show r = .p (.str (comp s t)) from h)
      exact seq_rt e
    | bk _ => exact False.elim h
    | ct _ => exact False.elim h
  exact pure_p (ps := [.str s, .str t]) rfl k3 S
theorem IsWays.all {s : List Nat} (h : IsWays s) : ∀ a ∈ s, a ∈ c_LETTERS := fun a ha => h.mem ha
theorem composed_ok {s t : List Nat} (hs : IsWays s) (ht : IsWays t) (S : Sto) : f_composed [.p (.str s), .p (.str t)] S = some (.p (.str (comp s t)), S) := by
  refine fin_same rfl ?_
  simp [b_composed, startE, check_ways_ok hs, check_ways_ok ht, composition_ok hs.all ht.all]
theorem comp_seq (s t : List Nat) : inSeq (comp s t) = comp s t := by
  unfold inSeq
  refine ascN_one (filt_asc _) (filt_asc _) fun k => ?_
  rw [List.mem_filter]
  constructor
  · exact fun h => by simpa using h.2
  · exact fun h => ⟨(List.mem_filter.mp h).1, by simpa using h⟩
theorem comp_ways {s t : List Nat} (hs : IsWays s) (ht : IsWays t) : IsWays (comp s t) := by
  refine ⟨?_, comp_seq s t⟩
  obtain ⟨a, ha⟩ := List.exists_mem_of_ne_nil _ hs.1
  obtain ⟨b, hb⟩ := List.exists_mem_of_ne_nil _ ht.1
  have h := (tbl_is a (hs.mem ha) b (ht.mem hb)).2.1
  obtain ⟨c, hc⟩ := List.exists_mem_of_ne_nil _ h
  have : c ∈ comp s t := (mem_comp hs.all ht.all).mpr ⟨a, ha, b, hb, hc⟩
  intro e; rw [e] at this; cases this
end XL
end
section
set_option Elab.async false
set_option linter.all false
set_option autoImplicit false
set_option maxRecDepth 100000
set_option maxHeartbeats 1000000
namespace XL
/-! ### drawn ways -/
theorem st_sortSet (l : List Nat) : sortP (dedupP (l.map st1)) = (sortN (l.foldr (fun c L => if c ∈ L then L else c :: L) [])).map st1 := by
  have key : ∀ l : List Nat, dedupP (l.map st1) = (l.foldr (fun c L => if c ∈ L then L else c :: L) []).map st1 ∧ ∀ c, c ∈ l.foldr (fun c L => if c ∈ L then L else c :: L) [] ↔ c ∈ l := by
    intro l
    induction l with
    | nil => simp [dedupP]
    | cons c l ih =>
      have hm : st1 c ∈ l.map st1 ↔ c ∈ l := by simp [st1]
      have e2 := ih.2 c
      simp only [List.map_cons, dedupP, List.foldr_cons]
      by_cases h : c ∈ l
      · rw [if_pos (hm.mpr h), if_pos (e2.mpr h)]
        refine ⟨ih.1, fun x => ?_⟩
        rw [ih.2 x, List.mem_cons]
        constructor
        · exact .inr
        · rintro (q | q)
          · subst q; exact h
          · exact q
      · rw [if_neg (fun q => h (hm.mp q)), if_neg (fun q => h (e2.mp q))]
        refine ⟨by rw [List.map_cons, ih.1], fun x => ?_⟩
        rw [List.mem_cons, ih.2 x, List.mem_cons]
  rw [(key l).1, sortP_st]
def nub (l : List Nat) : List Nat := l.foldr (fun c L => if c ∈ L then L else c :: L) []
theorem mem_nub {l : List Nat} {c : Nat} : c ∈ nub l ↔ c ∈ l := by
  unfold nub
  induction l with
  | nil => simp
  | cons x l ih =>
    rw [List.foldr_cons]
    split
    · rename_i h
      rw [ih, List.mem_cons]
      constructor
      · exact .inr
      · rintro (q | q)
        · subst q; exact ih.mp (by assumption) |> fun z => by
            have : c ∈ l := by
              have := h
              revert this
              intro this
              exact (show c ∈ l from by
                have hh : c ∈ List.foldr (fun c L => if c ∈ L then L else c :: L) [] l := this
                exact ih.mp hh)
            exact this
        · exact q
    · rw [List.mem_cons, ih, List.mem_cons]
theorem nodup_nub {l : List Nat} : (nub l).Nodup := by
  unfold nub
  induction l with
  | nil => exact List.nodup_nil
  | cons x l ih =>
    rw [List.foldr_cons]
    split
    · exact ih
    · rename_i h; exact List.nodup_cons.mpr ⟨h, ih⟩
/-- the letters of a list, in sequence -/
def waysL (l : List Nat) : List Nat := c_LETTERS.filter fun c => decide (c ∈ l)
theorem sort_nub {l : List Nat} (h : ∀ c ∈ l, c ∈ c_LETTERS) : sortN (nub l) = waysL l := sorted_is nodup_nub fun c => by
  rw [mem_nub]
  constructor
  · exact fun q => ⟨h c q, by simpa using q⟩
  · exact fun q => by simpa using q.2
theorem sortedSet_st {l : List Nat} (h : ∀ c ∈ l, c ∈ c_LETTERS) (hl : l.length ≤ 4000) : uSortedSet (.lst (l.map st1)) = some (.frl ((waysL l).map st1)) := by
  have hk : setOk (l.map st1) = true := by
    unfold setOk
    simp [isStrP, st1, hl]
  have : uSortedSet (.lst (l.map st1)) = some (.frl (sortP (dedupP (l.map st1)))) := if_pos hk
  rw [this, st_sortSet]
  show some (R.frl ((sortN (nub l)).map st1)) = _
  rw [sort_nub h]
theorem waysL_len (l : List Nat) : (waysL l).length ≤ 13 := Nat.le_trans (List.length_filter_le _ _) (by decide)
theorem mem_waysL {l : List Nat} {c : Nat} (h : ∀ c ∈ l, c ∈ c_LETTERS) : c ∈ waysL l ↔ c ∈ l := by
  unfold waysL
  rw [List.mem_filter]
  constructor
  · exact fun q => by simpa using q.2
  · exact fun q => ⟨h c q, by simpa using q⟩
theorem waysL_ways {l : List Nat} (h : ∀ c ∈ l, c ∈ c_LETTERS) (h0 : l ≠ []) : IsWays (waysL l) := by
  refine ⟨?_, ?_⟩
  · obtain ⟨a, ha⟩ := List.exists_mem_of_ne_nil _ h0
    intro e
    have := (mem_waysL h).mpr ha
    rw [e] at this; cases this
  · unfold inSeq
    refine ascN_one (filt_asc _) (filt_asc _) fun k => ?_
    rw [List.mem_filter]
    constructor
    · exact fun q => by simpa using q.2
    · exact fun q => ⟨(List.mem_filter.mp q).1, by simpa using q⟩
theorem IsWays.asc {s : List Nat} (h : IsWays s) : AscN s := by rw [← h.2]; exact filt_asc _
/-- ways are equal if they have the same letters -/
theorem ways_ext {s t : List Nat} (hs : AscN s) (ht : AscN t) (h : ∀ c, c ∈ s ↔ c ∈ t) : s = t := ascN_one hs ht h
theorem some_tw {ns : List Int} {c : Int} {C : Cell} (hT : Tw ns c C) (hc : c + 14 < 1000000) (S : Sto) :
    ∃ s C', f_law_some [scr ns, .ref 0] (C :: S) = some (.p (.str s), C' :: S) ∧ IsWays s ∧ Tw ns (c + 14) C' := by
  have h1 : [P.int 1, .int 1, .int 2, .int 3, .int 4, .int 6, .int 9, .int 12, .int 13] ≠ [] := by simp
  obtain ⟨d, C1, e1, hd, hT1⟩ := pick_tw hT (by omega) [P.int 1, .int 1, .int 2, .int 3, .int 4, .int 6, .int 9, .int 12, .int 13] h1 (by simp) [.lst (c_LETTERS.map st1)]
  obtain ⟨m, rfl, hm0, hm⟩ : ∃ m : Nat, d = .int m ∧ 1 ≤ m ∧ m ≤ 13 := by
    simp only [List.mem_cons, List.not_mem_nil, or_false] at hd
    rcases hd with rfl | rfl | rfl | rfl | rfl | rfl | rfl | rfl | rfl
    · exact ⟨1, rfl, by omega, by omega⟩
    · exact ⟨1, rfl, by omega, by omega⟩
    · exact ⟨2, rfl, by omega, by omega⟩
    · exact ⟨3, rfl, by omega, by omega⟩
    · exact ⟨4, rfl, by omega, by omega⟩
    · exact ⟨6, rfl, by omega, by omega⟩
    · exact ⟨9, rfl, by omega, by omega⟩
    · exact ⟨12, rfl, by omega, by omega⟩
    · exact ⟨13, rfl, by omega, by omega⟩
  have k1 : xPar [2, 3] (xConsB (xCall cListA (xCons (xC (.str [66, 68, 70, 77, 79, 83, 98, 100, 101, 102, 109, 111, 115])) xNil)) (xConsB (xDef f_law_pick (xConsD (xVar 0) (xConsD (xVar 1) (xConsD (xLst (xCons (xC (.int 1)) (xCons (xC (.int 1)) (xCons (xC (.int 2)) (xCons (xC (.int 3)) (xCons (xC (.int 4)) (xCons (xC (.int 6)) (xCons (xC (.int 9)) (xCons (xC (.int 12)) (xCons (xC (.int 13)) xNil)))))))))) xNilD)))) xNilD)) (startE 5 [scr ns, .ref 0]) [C] =
      some (.nx [some (scr ns), some (.ref 0), some (.ref 1), some (.p (.int m)), none], [C1, .lst (c_LETTERS.map st1)]) := by
    have e1' : f_law_pick [scr ns, .ref 0, .p (.lst [P.int 1, .int 1, .int 2, .int 3, .int 4, .int 6, .int 9, .int 12, .int 13])] [C, .lst [.str [66], .str [68], .str [70], .str [77], .str [79], .str [83], .str [98], .str [100], .str [101], .str [102], .str [109], .str [111], .str [115]]] = some (.p (.int m), [C1, .lst (c_LETTERS.map st1)]) := e1
    simp [startE, cListA, e1', setAllD]
  obtain ⟨acc, S', e2, hJ, hlen⟩ := lc_at (it := xRng1 (xVar 3)) (t := .nm 4) (e := xDef f_law_pick (xConsD (xVar 0) (xConsD (xVar 1) (xConsD (xVar 2) xNilD)))) (vs := [4]) (ρ := [some (scr ns), some (.ref 0), some (.ref 1), some (.p (.int m)), none]) (S := [C1, .lst (c_LETTERS.map st1)])
    (rng1 (n := m) rfl (by omega)) (by rw [intsFrom_eq]; simp; omega)
    (fun i acc S => ∃ (C2 : Cell) (l : List Nat), S = [C2, .lst (c_LETTERS.map st1)] ∧ acc = l.map st1 ∧ (∀ c ∈ l, c ∈ c_LETTERS) ∧ Tw ns (c + 1 + i) C2)
    ⟨C1, [], rfl, rfl, by simp, by simpa using hT1⟩
    (fun i d acc S hd hJ => by
      obtain ⟨C2, l, rfl, rfl, hl, hT2⟩ := hJ
      have hi := (List.getElem?_eq_some_iff.mp hd).1
      rw [intsFrom_eq, List.length_map, List.length_range] at hi
      obtain ⟨x, C3, e3, hx, hT3⟩ := pick_ref hT2 (by omega) (c_LETTERS.map st1) (by decide) (by decide) [.lst (c_LETTERS.map st1)] 0 rfl
      obtain ⟨y, hy, rfl⟩ := List.mem_map.mp hx
      refine ⟨[some (scr ns), some (.ref 0), some (.ref 1), some (.p (.int m)), some (.p d)], .p (st1 y), st1 y, [C3, .lst (c_LETTERS.map st1)], rfl, e3, rfl, rfl, C3, l ++ [y], rfl, by simp, ?_, by simpa [Int.add_assoc] using hT3⟩
      intro c hc
      rcases List.mem_append.mp hc with q | q
      · exact hl c q
      · simp at q; subst q; exact hy)
  obtain ⟨C2, l, rfl, rfl, hl, hT2⟩ := hJ
  simp only [intsFrom_eq, List.length_map, List.length_range] at hT2 hlen
  have hne : l ≠ [] := fun q => by subst q; simp at hlen; omega
  refine ⟨waysL l, C2, ?_, waysL_ways hl hne, hT2.mono (by omega)⟩
  have q1 := sortedSet_st hl (by omega)
  have q2 := mjoin_st (l := waysL l) (Nat.le_trans (waysL_len l) (by decide))
  have k2 : b_law_some (startE 5 [scr ns, .ref 0]) [C] = some (.rt (.p (.str (waysL l))), [C2, .lst (c_LETTERS.map st1)]) := by
    unfold b_law_some
    rw [seq_nx k1]
    refine ret_p ?_
    rw [e_Meth]
    simp only [e_C, Option.bind_some, rd_p, isTy, if_true, e_Cons, e_Un, e2, rd_frl, q1, e_Nil, Option.map_some, rds_cons, rds_nil, q2]
  exact tw_p rfl (fun d hd => by
    simp only [List.mem_cons, List.not_mem_nil, or_false] at hd
    rcases hd with rfl | rfl
    · trivial
    · exact Nat.zero_lt_one) k2 S
end XL
end
section
set_option Elab.async false
set_option linter.all false
set_option autoImplicit false
set_option maxRecDepth 100000
set_option maxHeartbeats 1000000
namespace XL
/-! ### what slots hold, wherever the cells lie -/
def Has (ρ : Env) (S : Sto) (i : Nat) : R → Prop
  | .p d => ρ[i]? = some (some (.p d))
  | .frl ds => ∃ l, ρ[i]? = some (some (.ref l)) ∧ S[l]? = some (.lst ds)
  | .frd t kv => ∃ l, ρ[i]? = some (some (.ref l)) ∧ S[l]? = some (.dct false t kv)
  | .ref _ => False
def Hs (ρ : Env) (S : Sto) (vs : List (Nat × R)) : Prop := ∀ x ∈ vs, Has ρ S x.1 x.2
theorem idx_get {α : Type} [DecidableEq α] {l : List α} {x : α} (h : x ∈ l) : l[l.idxOf x]? = some x := by
  induction l with
  | nil => cases h
  | cons y l ih =>
    rw [List.idxOf_cons]
    by_cases c : y = x
    · subst c; simp
    · have h2 : (y == x) = false := by simpa using c
      rw [h2]
      rcases List.mem_cons.mp h with q | q
      · exact absurd q.symm c
      · simpa using ih q
theorem gc_cell {n0 : Nat} {ρ : Env} {S : Sto} {i l : Nat} {c : Cell} (hn : n0 ≤ S.length) (h : ρ[i]? = some (some (.ref l))) (hc : S[l]? = some c) :
    ∃ l', (gc n0 ρ S).1[i]? = some (some (.ref l')) ∧ (gc n0 ρ S).2[l']? = some c := by
  unfold gc
  split
  · exact ⟨l, h, hc⟩
  · refine ⟨renRef n0 (slotRefs n0 ρ) l, by simp [h, renSlot], ?_⟩
    unfold renRef
    split
    · rename_i q
      rw [List.getElem?_append_left (by rw [List.length_take]; omega), List.getElem?_take_of_lt q]; exact hc
    · rename_i q
      have hm := slots_mem (n0 := n0) (ρ := ρ) (l := l) (by omega) (List.mem_of_getElem? h)
      have hg := idx_get hm
      rw [List.getElem?_append_right (by rw [List.length_take]; omega)]
      have : n0 + (slotRefs n0 ρ).idxOf l - (S.take n0).length = (slotRefs n0 ρ).idxOf l := by rw [List.length_take]; omega
      rw [this, keptCells, List.getElem?_map, hg]
      simp [List.getD_eq_getElem?_getD, hc]
theorem gc_p {n0 : Nat} {ρ : Env} {S : Sto} {i : Nat} {d : P} (h : ρ[i]? = some (some (.p d))) : (gc n0 ρ S).1[i]? = some (some (.p d)) := by
  unfold gc
  split
  · exact h
  · simp [h, renSlot]
theorem gc_has {n0 : Nat} {ρ : Env} {S : Sto} {i : Nat} {r : R} (hn : n0 ≤ S.length) (h : Has ρ S i r) : Has (gc n0 ρ S).1 (gc n0 ρ S).2 i r := by
  cases r with
  | p d => exact gc_p h
  | frl ds => obtain ⟨l, h1, h2⟩ := h; exact gc_cell hn h1 h2
  | frd t kv => obtain ⟨l, h1, h2⟩ := h; exact gc_cell hn h1 h2
  | ref _ => exact h
theorem gc_hs {n0 : Nat} {ρ : Env} {S : Sto} {vs : List (Nat × R)} (hn : n0 ≤ S.length) (h : Hs ρ S vs) : Hs (gc n0 ρ S).1 (gc n0 ρ S).2 vs := fun x hx => gc_has hn (h x hx)
theorem gc_len {n0 : Nat} {ρ : Env} {S : Sto} : (gc n0 ρ S).1.length = ρ.length := by
  unfold gc
  split <;> simp
theorem gc_app {ρ : Env} {S1 T : Sto} : ∃ T', (gc S1.length ρ (S1 ++ T)).2 = S1 ++ T' := by
  unfold gc
  split
  · exact ⟨T, rfl⟩
  · exact ⟨keptCells (S1 ++ T) (slotRefs S1.length ρ), by simp⟩
theorem Has.app {ρ : Env} {S : Sto} {i : Nat} {r : R} (h : Has ρ S i r) (T : Sto) : Has ρ (S ++ T) i r := by
  cases r with
  | p d => exact h
  | frl ds => obtain ⟨l, h1, h2⟩ := h; exact ⟨l, h1, by rw [List.getElem?_append_left (List.getElem?_eq_some_iff.mp h2).1]; exact h2⟩
  | frd t kv => obtain ⟨l, h1, h2⟩ := h; exact ⟨l, h1, by rw [List.getElem?_append_left (List.getElem?_eq_some_iff.mp h2).1]; exact h2⟩
  | ref _ => exact h
theorem Has.put {ρ : Env} {S : Sto} {i j : Nat} {r : R} {x : Option D} (h : Has ρ S i r) (hij : j ≠ i) : Has (ρ.set j x) S i r := by
  cases r with
  | p d => show (ρ.set j x)[i]? = _; rw [List.getElem?_set_ne hij]; exact h
  | frl ds => obtain ⟨l, h1, h2⟩ := h; exact ⟨l, by rw [List.getElem?_set_ne hij]; exact h1, h2⟩
  | frd t kv => obtain ⟨l, h1, h2⟩ := h; exact ⟨l, by rw [List.getElem?_set_ne hij]; exact h1, h2⟩
  | ref _ => exact h
theorem Hs.nil {ρ : Env} {S : Sto} : Hs ρ S [] := fun _ h => nomatch h
theorem Hs.cons {ρ : Env} {S : Sto} {i : Nat} {r : R} {vs : List (Nat × R)} (h : Has ρ S i r) (k : Hs ρ S vs) : Hs ρ S ((i, r) :: vs) := fun x hx => by
  rcases List.mem_cons.mp hx with e | e
  · subst e; exact h
  · exact k x e
theorem Hs.get {ρ : Env} {S : Sto} {vs : List (Nat × R)} (h : Hs ρ S vs) {i : Nat} {r : R} (hm : (i, r) ∈ vs) : Has ρ S i r := h (i, r) hm
theorem Hs.app {ρ : Env} {S : Sto} {vs : List (Nat × R)} (h : Hs ρ S vs) (T : Sto) : Hs ρ (S ++ T) vs := fun x hx => (h x hx).app T
theorem Hs.put {ρ : Env} {S : Sto} {vs : List (Nat × R)} {j : Nat} {x : Option D} (h : Hs ρ S vs) (hj : ∀ v ∈ vs, j ≠ v.1) : Hs (ρ.set j x) S vs := fun v hv => (h v hv).put (hj v hv)
theorem Hs.sub {ρ : Env} {S : Sto} {vs ws : List (Nat × R)} (h : Hs ρ S vs) (hs : ∀ w ∈ ws, w ∈ vs) : Hs ρ S ws := fun v hv => h v (hs v hv)
/-- x = e -/
theorem set_frl_has {i : Nat} {e : XE} {ρ : Env} {S S1 : Sto} {ds : List P} (h : e ρ S = some (.frl ds, S1)) (hi : i < ρ.length) :
    xSet i e ρ S = some (.nx (ρ.set i (some (.ref S1.length))), S1 ++ [.lst ds]) ∧ Has (ρ.set i (some (.ref S1.length))) (S1 ++ [.lst ds]) i (.frl ds) :=
  ⟨set_frl h, S1.length, by simp [hi], by simp⟩
theorem set_ref_has {i l : Nat} {e : XE} {ρ : Env} {S S1 : Sto} {ds : List P} (h : e ρ S = some (.ref l, S1)) (hl : S1[l]? = some (.lst ds)) (hi : i < ρ.length) :
    xSet i e ρ S = some (.nx (ρ.set i (some (.ref l))), S1) ∧ Has (ρ.set i (some (.ref l))) S1 i (.frl ds) :=
  ⟨by rw [e_Set, h]; rfl, l, by simp [hi], hl⟩
/-- a for without stores to cells: V i is held ahead of turn i -/
theorem for_hs {it : XI} {t : Tg} {b : XS} {ρ : Env} {S S1 : Sto} {ds : List P} {l : Option Nat} (hi : it ρ S = some (ds, l, S1)) (hl : ∀ k, l = some k → k < S1.length) (n : Nat) (hρ : ρ.length = n) (V : Nat → List (Nat × R)) (h0 : Hs ρ S1 (V 0))
    (step : ∀ i d ρ T, ds[i]? = some d → ρ.length = n → Hs ρ (S1 ++ T) (V i) → ∃ ρ1 ρ2 T2, t.put d ρ = some ρ1 ∧ b ρ1 (S1 ++ T) = some (.nx ρ2, S1 ++ T2) ∧ ρ2.length = n ∧ Hs ρ2 (S1 ++ T2) (V (i + 1))) :
    ∃ ρ' T', xFor it t b ρ S = some (.nx ρ', S1 ++ T') ∧ ρ'.length = n ∧ Hs ρ' (S1 ++ T') (V ds.length) := by
  obtain ⟨ρ', S', e, hn, T', rfl, hV⟩ := for_nx (t := t) (b := b) hi (fun i ρ S => ρ.length = n ∧ ∃ T, S = S1 ++ T ∧ Hs ρ S (V i)) ⟨hρ, [], by simp, h0⟩ (fun i d ρ S hd hI => by
    obtain ⟨hn, T, rfl, hV⟩ := hI
    obtain ⟨ρ1, ρ2, T2, a1, a2, a3, a4⟩ := step i d ρ T hd hn hV
    refine ⟨ρ1, ρ2, S1 ++ T2, a1, a2, ?_, by rw [gc_len]; exact a3, ?_⟩
    · obtain ⟨T', e⟩ := gc_app (ρ := ρ2) (S1 := S1) (T := T2)
      rw [e]
      cases l with
      | none => rfl
      | some k => simp [cellOk, List.getElem?_append_left (hl k rfl)]
    · obtain ⟨T', e⟩ := gc_app (ρ := ρ2) (S1 := S1) (T := T2)
      exact ⟨T', e, gc_hs (by simp) a4⟩)
  exact ⟨ρ', T', e, hn, hV⟩
theorem itA_has {i : Nat} {ρ : Env} {S : Sto} {ds : List P} (h : Has ρ S i (.frl ds)) : ∃ l, xItA (xVar i) ρ S = some (ds, l, S) ∧ ∀ k, l = some k → k < S.length := by
  obtain ⟨l, h1, h2⟩ := h
  refine ⟨some l, by simp [xItA, xIt, h1, h2], fun k e => ?_⟩
  cases e
  exact (List.getElem?_eq_some_iff.mp h2).1
theorem Has.p {ρ : Env} {S : Sto} {i : Nat} {d : P} (h : Has ρ S i (.p d)) : ρ[i]? = some (some (.p d)) := h
/-- what is read of a slot with a list -/
theorem Has.rd {ρ : Env} {S : Sto} {i : Nat} {ds : List P} (h : Has ρ S i (.frl ds)) (T : Sto) : ∃ l, xVar i ρ S = some (.ref l, S) ∧ (R.ref l).rd (S ++ T) = some (.lst ds) ∧ S[l]? = some (.lst ds) := by
  obtain ⟨l, h1, h2⟩ := h
  refine ⟨l, var_ref h1, ?_, h2⟩
  exact rd_ref (by rw [List.getElem?_append_left (List.getElem?_eq_some_iff.mp h2).1]; exact h2)
theorem wpE_get {ρ : Env} {i : Nat} : ∀ {vs : List Nat}, i ∉ vs → (wipeE ρ vs)[i]? = ρ[i]?
  | [], _ => rfl
  | v :: vs, h => by
    show ((wipeE ρ vs).set v none)[i]? = _
    have hv : v ≠ i := fun e => h (by rw [e]; exact List.mem_cons_self)
    rw [List.getElem?_set_ne hv, wpE_get (fun q => h (List.mem_cons_of_mem _ q))]
theorem wpE_len {ρ : Env} : ∀ {vs : List Nat}, (wipeE ρ vs).length = ρ.length
  | [] => rfl
  | v :: vs => by show ((wipeE ρ vs).set v none).length = _; rw [List.length_set, wpE_len (vs := vs)]
/-! ### all rows, all forms -/
def rngI (lo hi : Int) : List Int := (List.range (hi - lo).toNat).map fun (i : Nat) => lo + i
theorem rng2 {a b : XE} {ρ : Env} {S : Sto} {i j : Int} (ha : a ρ S = some (.p (.int i), S)) (hb : b ρ S = some (.p (.int j), S)) (h1 : -1000 ≤ i) (h2 : i ≤ 1000) (h3 : -1000 ≤ j) (h4 : j ≤ 1000) : xRng2 a b ρ S = some ((rngI i j).map P.int, none, S) := by
  simp only [xRng2, ha, hb, Option.bind_some]
  rw [if_pos ⟨by omega, by omega, by omega, by omega⟩, intsFrom_eq, rngI, List.map_map]; rfl
def everyOf (n : Nat) (k : Nat) : List Span := (List.range k).flatMap fun (b : Nat) => (rngI ((b : Int) + 1) (2 * n)).map fun e => ((b : Int), e)
def rowsOf (ev : List Span) : Nat → List (List Span)
  | 0 => [[]]
  | k + 1 => (rowsOf ev k).flatMap fun r => ev.map fun x => r ++ [x]
def lawForms (n : Nat) : List (List Span) := (rowsOf (everyOf n (2 * n)) n).filter fun r => decide (form r = r)
theorem rows_len (ev : List Span) : ∀ k, ∀ r ∈ rowsOf ev k, r.length = k
  | 0, r, h => by simp [rowsOf] at h; subst h; rfl
  | k + 1, r, h => by
    simp only [rowsOf, List.mem_flatMap, List.mem_map] at h
    obtain ⟨q, hq, x, _, rfl⟩ := h
    simp [rows_len ev k q hq]
theorem mem_rows {ev : List Span} : ∀ {k : Nat} {r : List Span}, r ∈ rowsOf ev k ↔ r.length = k ∧ ∀ x ∈ r, x ∈ ev
  | 0, r => by
    simp only [rowsOf, List.mem_singleton]
    constructor
    · rintro rfl; simp
    · intro h; exact List.length_eq_zero_iff.mp h.1
  | k + 1, r => by
    simp only [rowsOf, List.mem_flatMap, List.mem_map]
    constructor
    · rintro ⟨q, hq, x, hx, rfl⟩
      obtain ⟨h1, h2⟩ := mem_rows.mp hq
      refine ⟨by simp [h1], fun y hy => ?_⟩
      rcases List.mem_append.mp hy with z | z
      · exact h2 y z
      · simp at z; subst z; exact hx
    · rintro ⟨h1, h2⟩
      have hne : r ≠ [] := fun e => by subst e; simp at h1
      refine ⟨r.dropLast, mem_rows.mpr ⟨by simp [h1], fun x hx => h2 x (List.dropLast_subset _ hx)⟩, r.getLast hne, h2 _ (List.getLast_mem hne), List.dropLast_concat_getLast hne⟩
theorem mem_every {n k : Nat} {x : Span} : x ∈ everyOf n k ↔ 0 ≤ x.1 ∧ x.1 < k ∧ x.1 < x.2 ∧ x.2 < 2 * n := by
  obtain ⟨a, b⟩ := x
  simp only [everyOf, rngI, List.mem_flatMap, List.mem_map, List.mem_range, Prod.mk.injEq]
  constructor
  · rintro ⟨i, hi, j, ⟨m, hm, rfl⟩, rfl, rfl⟩
    refine ⟨by omega, by omega, by omega, by omega⟩
  · rintro ⟨h1, h2, h3, h4⟩
    exact ⟨a.toNat, by omega, b, ⟨(b - (a + 1)).toNat, by omega, by omega⟩, by omega, rfl⟩
theorem every_succ (n k : Nat) : everyOf n (k + 1) = everyOf n k ++ (rngI ((k : Int) + 1) (2 * n)).map fun e => ((k : Int), e) := by
  unfold everyOf
  rw [fm_succ]
theorem every_len (n : Nat) : ∀ k, (everyOf n k).length ≤ k * (2 * n)
  | 0 => by simp [everyOf]
  | k + 1 => by
    rw [every_succ, List.length_append, List.length_map, rngI, List.length_map, List.length_range, Nat.succ_mul]
    have := every_len n k
    omega
theorem rows_count (ev : List Span) : ∀ k, (rowsOf ev k).length = ev.length ^ k
  | 0 => rfl
  | k + 1 => by
    rw [rowsOf, List.length_flatMap, Nat.pow_succ, ← rows_count ev k]
    simp only [List.length_map]
    generalize rowsOf ev k = l
    induction l with
    | nil => simp
    | cons x l ih => simp [ih, Nat.add_mul, Nat.add_comm]
/-- rows with one span more, of some of the rows -/
def moreRows (ev : List Span) (rs : List (List Span)) : List (List Span) := rs.flatMap fun r => ev.map fun x => r ++ [x]
theorem mem_pr {x : P} {l : List Span} (h : x ∈ l.map pr) : ∃ y ∈ l, x = pr y := by
  obtain ⟨y, hy, e⟩ := List.mem_map.mp h
  exact ⟨y, hy, e.symm⟩
theorem lt_len {ev : List Span} {k n i : Nat} (h : ev.length ≤ 15) (hk : k + 1 ≤ 3) (r : List (List Span)) (hr : r.length ≤ ev.length ^ k) : (moreRows ev r).length ≤ 4000 := by
  have h1 : (moreRows ev r).length = r.length * ev.length := by
    unfold moreRows
    rw [List.length_flatMap]
    simp only [List.length_map]
    clear hr
    induction r with
    | nil => simp
    | cons x l ih => simp [Nat.add_mul, Nat.add_comm, ih]
  have h2 : r.length ≤ 15 ^ k := Nat.le_trans hr (Nat.pow_le_pow_left h k)
  have h3 : (15 : Nat) ^ k ≤ 15 ^ 2 := Nat.pow_le_pow_right (by decide) (by omega)
  rw [h1]
  have : r.length * ev.length ≤ 225 * 15 := Nat.mul_le_mul (Nat.le_trans h2 h3) h
  omega
/-- one row more -/
theorem forms_in {ρ : Env} {S : Sto} {ev : List Span} {r : List Span} {done : List (List Span)} (hρ : ρ.length = 9) (h3 : Has ρ S 3 (.frl (ev.map pr))) (h5 : Has ρ S 5 (.frl (done.map scP))) (h6 : Has ρ S 6 (.p (scP r))) (hev : ev.length ≤ 4000) (hr : r.length ≤ 1000) (hd : done.length + ev.length ≤ 10000) :
    xBin pAdd (xVar 5) (xLc (xItA (xVar 3)) (.nm 8) xTyes (xBin pAdd (xVar 6) (xTup (xCons (xVar 8) xNil))) [8]) ρ S = some (.frl ((done ++ ev.map fun x => r ++ [x]).map scP), S) := by
  obtain ⟨l5, v5, r5, c5⟩ := h5.rd []
  rw [List.append_nil] at r5
  obtain ⟨l3, i3, _⟩ := itA_has h3
  have e : xLc (xItA (xVar 3)) (.nm 8) xTyes (xBin pAdd (xVar 6) (xTup (xCons (xVar 8) xNil))) [8] ρ S = some (.frl ((ev.map fun x => r ++ [x]).map scP), S) := by
    rw [lc_all (fun d => .tup (r.map pr ++ [d])) i3 (fun d hd => by
      obtain ⟨x, hx, rfl⟩ := mem_pr hd
      refine ⟨(wipeE ρ [8]).set 8 (some (.p (pr x))), rfl, .p (.tup (r.map pr ++ [pr x])), ?_, rfl⟩
      have g8 : ((wipeE ρ [8]).set 8 (some (D.p (pr x))))[8]? = some (some (.p (pr x))) := List.getElem?_set_self (by rw [wpE_len]; omega)
      have g6 : ((wipeE ρ [8]).set 8 (some (D.p (pr x))))[6]? = some (some (.p (scP r))) := by
        rw [List.getElem?_set_ne (by decide), wpE_get (by decide)]; exact h6.p
      have hb : r.length + 1 ≤ 1000000 := by omega
      simp [g8, g6, scP, pAdd, hb]) (by rw [List.length_map, big_is]; omega)]
    simp [scP, Function.comp]
  have hb : done.length + ev.length ≤ 1000000 := by omega
  rw [e_Bin, v5]
  simp only [Option.bind_some, e, r5, rd_frl, pAdd]
  rw [if_pos (by simp only [List.length_map]; exact hb)]
  simp
theorem law_forms_ok (n : Nat) (hn : n ≤ 3) (S : Sto) : f_law_forms [.p (.int n)] S = some (.frl ((lawForms n).map scP), S) := by
  have hev : ∀ k ≤ 2 * n, (everyOf n k).length ≤ 36 := fun k hk => by
    have h1 := every_len n k
    have h2 : k * (2 * n) ≤ 6 * 6 := Nat.mul_le_mul (by omega) (by omega)
    omega
  have hev15 : (everyOf n (2 * n)).length ≤ 15 := by
    match n, hn with
    | 0, _ => decide
    | 1, _ => decide
    | 2, _ => decide
    | 3, _ => decide
  have k1 : xPar [3, 4] (xConsB (xLst xNil) (xConsB (xLst (xCons (xTup xNil) xNil)) xNilD)) (startE 9 [.p (.int n)]) [] = some (.nx [some (.p (.int n)), none, none, some (.ref 0), some (.ref 1), none, none, none, none], [.lst ([].map pr), .lst ([[]].map scP)]) := by
    simp [startE, setAllD, scP]
  -- every
  obtain ⟨ρ1, T1, e1, l1, V1⟩ := for_hs (it := xRng1 (xBin pMul (xC (.int 2)) (xVar 0))) (t := .nm 1) (b := xSet 3 (xBin pAdd (xVar 3) (xLc (xRng2 (xBin pAdd (xVar 1) (xC (.int 1))) (xBin pMul (xC (.int 2)) (xVar 0))) (.nm 7) xTyes (xTup (xCons (xVar 1) (xCons (xVar 7) xNil))) [7])))
    (ρ := [some (.p (.int n)), none, none, some (.ref 0), some (.ref 1), none, none, none, none]) (S := [.lst ([].map pr), .lst ([[]].map scP)])
    (rng1 (n := 2 * n) (by rw [e_Bin]; simp only [e_C, Option.bind_some, e_Var, List.getElem?_cons_zero, rd_p]; rw [mul_int _ _ (by omega) (by omega)]; simp) (by omega)) (fun k e => nomatch e) 9 rfl
    (fun i => [(0, .p (.int n)), (3, .frl ((everyOf n i).map pr)), (4, .frl ([[]].map scP))])
    (.cons rfl (.cons ⟨0, rfl, rfl⟩ (.cons ⟨1, rfl, rfl⟩ .nil)))
    (fun i d ρ T hd hl hV => by
      rw [intsFrom_eq] at hd
      obtain ⟨j, hj, rfl⟩ := getMap hd
      have hij : j = i ∧ i < 2 * n := by
        have h2 := (List.getElem?_eq_some_iff.mp hj).1
        rw [List.length_range] at h2
        rw [List.getElem?_range h2] at hj
        exact ⟨(Option.some.inj hj).symm, h2⟩
      obtain ⟨rfl, hi⟩ := hij
      have g0 := (hV.get (i := 0) (r := .p (.int n)) (by simp)).p
      have h3 := hV.get (i := 3) (r := .frl ((everyOf n j).map pr)) (by simp)
      have h4 := hV.get (i := 4) (r := .frl ([[]].map scP)) (by simp)
      have h3' := h3.put (j := 1) (x := some (D.p (P.int (0 + (j : Int))))) (by decide)
      obtain ⟨l3, v3, r3, c3⟩ := h3'.rd []
      rw [List.append_nil] at r3
      have hlc : xLc (xRng2 (xBin pAdd (xVar 1) (xC (.int 1))) (xBin pMul (xC (.int 2)) (xVar 0))) (.nm 7) xTyes (xTup (xCons (xVar 1) (xCons (xVar 7) xNil))) [7] (ρ.set 1 (some (.p (.int (0 + (j : Int)))))) ([.lst ([].map pr), .lst ([[]].map scP)] ++ T) = some (.frl ((((rngI ((j : Int) + 1) (2 * n)).map fun e => ((j : Int), e))).map pr), [.lst ([].map pr), .lst ([[]].map scP)] ++ T) := by
        have g1 : (ρ.set 1 (some (D.p (P.int (0 + (j : Int))))))[1]? = some (some (.p (.int j))) := by
          rw [List.getElem?_set_self (by omega)]; simp
        have g0' : (ρ.set 1 (some (D.p (P.int (0 + (j : Int))))))[0]? = some (some (.p (.int n))) := by
          rw [List.getElem?_set_ne (by decide)]; exact g0
        rw [lc_all (fun d => .tup [.int j, d]) (rng2 (i := (j : Int) + 1) (j := 2 * n) (by rw [bin_p (var_at g1) rfl]; rfl) (by rw [bin_p rfl (var_at g0'), mul_int _ _ (by omega) (by omega)]; rfl) (by omega) (by omega) (by omega) (by omega)) (fun d hd => by
          refine ⟨_, rfl, .p (.tup [.int j, d]), ?_, rfl⟩
          have g1' : ((wipeE (ρ.set 1 (some (D.p (P.int (0 + (j : Int)))))) [7]).set 7 (some (D.p d)))[1]? = some (some (.p (.int j))) := by
            rw [List.getElem?_set_ne (by decide), wpE_get (by decide)]; exact g1
          have g7 : ((wipeE (ρ.set 1 (some (D.p (P.int (0 + (j : Int)))))) [7]).set 7 (some (D.p d)))[7]? = some (some (.p d)) := List.getElem?_set_self (by rw [wpE_len, List.length_set]; omega)
          exact tup2_p (var_at g1') (var_at g7)) (by rw [List.length_map, rngI, List.length_map, List.length_range, big_is]; omega)]
        simp [pr, Function.comp]
      have hb : (everyOf n j).length + (rngI ((j : Int) + 1) (2 * n)).length ≤ 1000000 := by
        have := hev j (by omega)
        rw [rngI, List.length_map, List.length_range]; omega
      obtain ⟨q1, q2⟩ := set_frl_has (i := 3) (e := xBin pAdd (xVar 3) (xLc (xRng2 (xBin pAdd (xVar 1) (xC (.int 1))) (xBin pMul (xC (.int 2)) (xVar 0))) (.nm 7) xTyes (xTup (xCons (xVar 1) (xCons (xVar 7) xNil))) [7])) (ρ := ρ.set 1 (some (.p (.int (0 + (j : Int)))))) (S := [.lst ([].map pr), .lst ([[]].map scP)] ++ T) (S1 := [.lst ([].map pr), .lst ([[]].map scP)] ++ T) (ds := (everyOf n (j + 1)).map pr) (by
          rw [e_Bin, v3]
          simp only [Option.bind_some, hlc, r3, rd_frl, pAdd]
          rw [if_pos (by simp only [List.length_map]; exact hb), every_succ]
          simp) (by rw [List.length_set]; omega)
      refine ⟨_, _, T ++ [.lst ((everyOf n (j + 1)).map pr)], rfl, by rw [q1, List.append_assoc], by simp [hl], ?_⟩
      rw [← List.append_assoc]
      refine .cons ?_ (.cons q2 (.cons ?_ .nil))
      · show ((ρ.set 1 _).set 3 _)[0]? = _
        rw [List.getElem?_set_ne (by decide), List.getElem?_set_ne (by decide)]; exact g0
      · exact (((h4.put (j := 1) (by decide)).put (j := 3) (by decide)).app _))
  -- rows
  rw [intsFrom_eq, List.length_map, List.length_range] at V1
  have hi1 : xRng1 (xVar 0) ρ1 ([.lst ([].map pr), .lst ([[]].map scP)] ++ T1) = some (intsFrom 0 n, none, [.lst ([].map pr), .lst ([[]].map scP)] ++ T1) := rng1 (var_at (V1.get (i := 0) (r := .p (.int n)) (by simp)).p) (by omega)
  obtain ⟨ρ2, T2, e2, l2, V2⟩ := for_hs (t := .nm 2) (b := (xSeq (xSet 5 (xLst xNil))
    (xSeq (xFor (xItA (xVar 4)) (.nm 6)
    (xSet 5 (xBin pAdd (xVar 5) (xLc (xItA (xVar 3)) (.nm 8) xTyes
      (xBin pAdd (xVar 6) (xTup (xCons (xVar 8) xNil))) [8]))))
    (xSet 4 (xVar 5))))) hi1 (fun k e => nomatch e) 9 l1
    (fun i => [(3, .frl ((everyOf n (2 * n)).map pr)), (4, .frl ((rowsOf (everyOf n (2 * n)) i).map scP))])
    (.cons (V1.get (by simp)) (.cons (V1.get (by simp [rowsOf])) .nil))
    (fun i d ρ T hd hl hV => by
      have hi : i < n := by
        have := (List.getElem?_eq_some_iff.mp hd).1
        rw [intsFrom_eq, List.length_map, List.length_range] at this; exact this
      generalize hS0 : [Cell.lst ([].map pr), .lst ([[]].map scP)] ++ T1 = S0 at hV ⊢
      have h3 := hV.get (i := 3) (r := .frl ((everyOf n (2 * n)).map pr)) (by simp)
      have h4 := hV.get (i := 4) (r := .frl ((rowsOf (everyOf n (2 * n)) i).map scP)) (by simp)
      obtain ⟨q1, q2⟩ := set_frl_has (i := 5) (e := xLst xNil) (ρ := ρ.set 2 (some (.p d))) (S := S0 ++ T) (S1 := S0 ++ T) (ds := ([] : List (List Span)).map scP) rfl (by rw [List.length_set]; omega)
      have h3a : Has ((ρ.set 2 (some (.p d))).set 5 (some (.ref (S0 ++ T).length))) (S0 ++ T ++ [.lst (([] : List (List Span)).map scP)]) 3 (.frl ((everyOf n (2 * n)).map pr)) := ((h3.put (by decide)).put (by decide)).app _
      have h4a : Has ((ρ.set 2 (some (.p d))).set 5 (some (.ref (S0 ++ T).length))) (S0 ++ T ++ [.lst (([] : List (List Span)).map scP)]) 4 (.frl ((rowsOf (everyOf n (2 * n)) i).map scP)) := ((h4.put (by decide)).put (by decide)).app _
      obtain ⟨l4, i4, k4⟩ := itA_has h4a
      obtain ⟨ρ3, T3, e3, l3, V3⟩ := for_hs (t := .nm 6) (b := xSet 5 (xBin pAdd (xVar 5) (xLc (xItA (xVar 3)) (.nm 8) xTyes (xBin pAdd (xVar 6) (xTup (xCons (xVar 8) xNil))) [8]))) i4 k4 9 (by simp [hl])
        (fun m => [(3, .frl ((everyOf n (2 * n)).map pr)), (5, .frl ((moreRows (everyOf n (2 * n)) ((rowsOf (everyOf n (2 * n)) i).take m)).map scP))])
        (.cons h3a (.cons q2 .nil))
        (fun m d' ρ' T' hd' hl' hV' => by
          obtain ⟨r, hr, rfl⟩ := getMap hd'
          have tk : (rowsOf (everyOf n (2 * n)) i).take (m + 1) = (rowsOf (everyOf n (2 * n)) i).take m ++ [r] := by rw [List.take_add_one, hr]; rfl
          generalize hS3 : S0 ++ T ++ [Cell.lst (([] : List (List Span)).map scP)] = S3 at hV' ⊢
          have a3 := (hV'.get (i := 3) (r := .frl ((everyOf n (2 * n)).map pr)) (by simp)).put (j := 6) (x := some (D.p (scP r))) (by decide)
          have a5 := (hV'.get (i := 5) (r := .frl ((moreRows (everyOf n (2 * n)) ((rowsOf (everyOf n (2 * n)) i).take m)).map scP)) (by simp)).put (j := 6) (x := some (D.p (scP r))) (by decide)
          have a6 : Has (ρ'.set 6 (some (D.p (scP r)))) (S3 ++ T') 6 (.p (scP r)) := List.getElem?_set_self (by omega)
          have hcnt : ((rowsOf (everyOf n (2 * n)) i).take m).length ≤ (everyOf n (2 * n)).length ^ i := by
            rw [← rows_count]; exact Nat.le_trans (by rw [List.length_take]; omega) (Nat.le_refl _)
          have b1 := lt_len (n := n) (i := i) hev15 (k := i) (by omega) _ hcnt
          have b2 := rows_len _ i r (List.mem_of_getElem? hr)
          have b3 := forms_in (by simp [hl']) a3 a5 a6 (by omega) (by omega) (by omega)
          obtain ⟨z1, z2⟩ := set_frl_has (i := 5) b3 (by simp [hl'])
          refine ⟨_, _, T' ++ [_], rfl, by rw [z1, List.append_assoc], by simp [hl'], ?_⟩
          rw [← List.append_assoc]
          refine .cons ((a3.put (by decide)).app _) (.cons ?_ .nil)
          have : moreRows (everyOf n (2 * n)) ((rowsOf (everyOf n (2 * n)) i).take (m + 1)) = moreRows (everyOf n (2 * n)) ((rowsOf (everyOf n (2 * n)) i).take m) ++ (everyOf n (2 * n)).map fun x => r ++ [x] := by
            rw [tk]; simp [moreRows]
          rw [this]
          exact z2)
      rw [List.length_map, List.take_length] at V3
      have a3 := V3.get (i := 3) (r := .frl ((everyOf n (2 * n)).map pr)) (by simp)
      obtain ⟨l5, g5, c5⟩ := V3.get (i := 5) (r := .frl ((moreRows (everyOf n (2 * n)) (rowsOf (everyOf n (2 * n)) i)).map scP)) (by simp)
      obtain ⟨z1, z2⟩ := set_ref_has (i := 4) (var_ref g5) c5 (by omega)
      refine ⟨_, ρ3.set 4 (some (.ref l5)), T ++ ([.lst (([] : List (List Span)).map scP)] ++ T3), rfl, ?_, by rw [List.length_set]; exact l3, ?_⟩
      · rw [seq_nx q1, seq_nx e3, z1]
        simp [List.append_assoc]
      · have ea : S0 ++ (T ++ ([Cell.lst (([] : List (List Span)).map scP)] ++ T3)) = S0 ++ T ++ [Cell.lst (([] : List (List Span)).map scP)] ++ T3 := by simp [List.append_assoc]
        rw [ea]
        exact .cons (a3.put (by decide)) (.cons z2 .nil))
  rw [intsFrom_eq, List.length_map, List.length_range] at V2
  have h4 := V2.get (i := 4) (r := .frl ((rowsOf (everyOf n (2 * n)) n).map scP)) (by simp)
  obtain ⟨l4, i4, k4⟩ := itA_has h4
  have hfin : xLc (xItA (xVar 4)) (.nm 6) (xB (xBin pEq (xDef f_law_normal (xConsD (xVar 6) xNilD)) (xVar 6))) (xVar 6) [6] ρ2 ([.lst ([].map pr), .lst ([[]].map scP)] ++ T1 ++ T2) = some (.frl ((lawForms n).map scP), [.lst ([].map pr), .lst ([[]].map scP)] ++ T1 ++ T2) := by
    have hrows : ∀ r ∈ rowsOf (everyOf n (2 * n)) n, r.length ≤ 1000 := fun r hr => by rw [rows_len _ _ r hr]; omega
    have hcount : (rowsOf (everyOf n (2 * n)) n).length ≤ 1000000 := by
      rw [rows_count]
      have h2 : (everyOf n (2 * n)).length ^ n ≤ 15 ^ n := Nat.pow_le_pow_left hev15 n
      have h3 : (15 : Nat) ^ n ≤ 15 ^ 3 := Nat.pow_le_pow_right (by decide) hn
      omega
    rw [lc_typed scP (fun r => decide (form r = r)) scP i4 (fun r hr => by
      have g6 : ((wipeE ρ2 [6]).set 6 (some (D.p (scP r))))[6]? = some (some (.p (scP r))) := List.getElem?_set_self (by rw [wpE_len]; omega)
      refine ⟨_, rfl, ?_, fun _ => ⟨.p (scP r), var_at g6, rfl⟩⟩
      have q : xDef f_law_normal (xConsD (xVar 6) xNilD) ((wipeE ρ2 [6]).set 6 (some (D.p (scP r)))) ([.lst ([].map pr), .lst ([[]].map scP)] ++ T1 ++ T2) = some (.p (scP (form r)), [.lst ([].map pr), .lst ([[]].map scP)] ++ T1 ++ T2) :=
        def_p (argD_p (var_at g6) rfl) (law_normal_ok (hrows r hr) _)
      exact B_of (by rw [bin_p q (var_at g6), eq_sc]; rfl)) hcount]
    rfl
  have k3 : b_law_forms (startE 9 [.p (.int n)]) [] = some (.rt (.frl ((lawForms n).map scP)), [.lst ([].map pr), .lst ([[]].map scP)] ++ T1 ++ T2) := by
    unfold b_law_forms
    rw [seq_nx k1, seq_nx e1, seq_nx e2, e_Ret, hfin]
    rfl
  exact pure_frl (ps := [.int n]) rfl k3 S
end XL
end
section
set_option Elab.async false
set_option linter.all false
set_option autoImplicit false
set_option maxRecDepth 100000
set_option maxHeartbeats 1000000
namespace XL
/-! ### the table of compositions -/
def tbL : List (List (List Nat)) := [[[66], [66], [66], [66], [66], [66], [66, 68, 70, 77, 79, 83, 98, 100, 101, 102, 109, 111, 115], [66, 77, 79, 100, 102], [66], [66], [66, 77, 79, 100, 102], [66, 77, 79, 100, 102], [66, 77, 79, 100, 102]], [[66, 68, 77, 79, 83], [68], [68], [68, 79, 83], [68, 79, 83], [68], [68, 70, 98, 109, 111], [68, 70, 79, 83, 100, 101, 102, 111, 115], [68], [68, 79, 83], [68, 70, 111], [68, 70, 111], [68, 70, 111]], [[66, 68, 77, 79, 83], [68], [70], [68, 79, 83], [68, 79, 83], [68], [98], [100, 111, 115], [70], [70, 101, 102], [109], [111], [111]], [[66], [66], [77], [66], [66], [66], [68, 70, 98, 109, 111], [79, 100, 102], [77], [77], [83, 101, 115], [79, 100, 102], [79, 100, 102]], [[66], [66, 68, 77, 79, 83], [68, 79, 83], [66], [66, 77, 79], [66, 77, 79], [68, 70, 98, 109, 111], [79, 100, 102], [79], [79], [68, 70, 111], [68, 70, 79, 83, 100, 101, 102, 111, 115], [79, 100, 102]], [[66], [68], [68], [77], [79], [83], [68, 70, 98, 109, 111], [79, 100, 102], [83], [79], [68, 70, 111], [68, 70, 111], [83, 101, 115]], [[66, 68, 70, 77, 79, 83, 98, 100, 101, 102, 109, 111, 115], [98], [98], [98, 100, 109, 111, 115], [98, 100, 109, 111, 115], [98], [98], [98, 100, 109, 111, 115], [98], [98, 100, 109, 111, 115], [98], [98], [98]], [[66], [66, 68, 70, 77, 79, 83, 98, 100, 101, 102, 109, 111, 115], [98, 100, 109, 111, 115], [66], [66, 77, 79, 100, 102], [66, 77, 79, 100, 102], [98], [100], [100], [100], [98], [98, 100, 109, 111, 115], [100]], [[66], [68], [70], [77], [79], [83], [98], [100], [101], [102], [109], [111], [115]], [[66], [66, 68, 77, 79, 83], [70, 101, 102], [66], [66, 77, 79], [66, 77, 79], [98], [100], [102], [102], [109], [100, 111, 115], [100]], [[66, 68, 77, 79, 83], [98], [98], [70, 101, 102], [100, 111, 115], [109], [98], [100, 111, 115], [109], [100, 111, 115], [98], [98], [109]], [[66, 68, 77, 79, 83], [68, 70, 98, 109, 111], [98, 109, 111], [68, 79, 83], [68, 70, 79, 83, 100, 101, 102, 111, 115], [68, 70, 111], [98], [100, 111, 115], [111], [100, 111, 115], [98], [98, 109, 111], [111]], [[66], [68, 70, 98, 109, 111], [98, 109, 111], [77], [79, 100, 102], [83, 101, 115], [98], [100], [115], [100], [98], [98, 109, 111], [115]]]
def wits : List (Span × Span × Span) := [((4, 5), (2, 3), (0, 1)), ((4, 5), (0, 3), (1, 2)), ((3, 4), (0, 2), (1, 2)), ((3, 4), (1, 2), (0, 1)), ((4, 5), (1, 3), (0, 2)), ((3, 4), (0, 2), (0, 1)), ((4, 5), (0, 1), (2, 3)), ((2, 5), (0, 1), (3, 4)), ((2, 4), (0, 1), (3, 4)), ((3, 4), (0, 1), (2, 3)), ((3, 5), (0, 1), (2, 4)), ((2, 4), (0, 1), (2, 3)), ((2, 3), (0, 1), (4, 5)), ((3, 4), (0, 1), (2, 5)), ((2, 3), (0, 1), (2, 3)), ((3, 4), (0, 1), (2, 4)), ((2, 3), (0, 1), (3, 4)), ((2, 4), (0, 1), (3, 5)), ((2, 3), (0, 1), (2, 4)), ((4, 5), (1, 2), (0, 3)), ((3, 4), (1, 2), (0, 3)), ((3, 5), (1, 2), (0, 4)), ((3, 4), (1, 2), (0, 5)), ((3, 4), (1, 2), (0, 4)), ((2, 3), (0, 1), (0, 1)), ((3, 4), (1, 2), (0, 2)), ((3, 4), (0, 1), (1, 2)), ((2, 3), (0, 1), (1, 2)), ((2, 4), (0, 1), (1, 3)), ((2, 3), (0, 1), (1, 4)), ((2, 3), (0, 1), (1, 3)), ((4, 5), (0, 2), (1, 3)), ((3, 4), (0, 2), (1, 3)), ((3, 5), (0, 2), (1, 4)), ((3, 4), (0, 2), (1, 5)), ((3, 4), (0, 2), (1, 4)), ((3, 4), (0, 1), (0, 2)), ((2, 3), (0, 1), (0, 2)), ((2, 4), (0, 1), (0, 3)), ((2, 3), (0, 1), (0, 4)), ((2, 3), (0, 1), (0, 3)), ((2, 5), (3, 4), (0, 1)), ((0, 5), (3, 4), (1, 2)), ((1, 4), (2, 3), (0, 1)), ((1, 5), (3, 4), (0, 2)), ((0, 4), (2, 3), (0, 1)), ((0, 5), (1, 4), (2, 3)), ((0, 4), (1, 3), (2, 3)), ((0, 4), (2, 3), (1, 2)), ((1, 4), (2, 3), (0, 2)), ((0, 3), (1, 2), (0, 1)), ((0, 5), (2, 4), (1, 3)), ((1, 5), (2, 4), (0, 3)), ((0, 4), (1, 3), (0, 2)), ((0, 4), (1, 3), (1, 2)), ((0, 5), (1, 2), (3, 4)), ((0, 4), (1, 2), (3, 4)), ((0, 3), (1, 2), (4, 5)), ((0, 3), (1, 2), (3, 4)), ((0, 4), (1, 2), (3, 5)), ((0, 5), (2, 3), (1, 4)), ((0, 4), (2, 3), (1, 4)), ((1, 5), (2, 3), (0, 4)), ((0, 4), (1, 2), (0, 3)), ((1, 4), (2, 3), (0, 5)), ((0, 3), (1, 2), (0, 3)), ((1, 4), (2, 3), (0, 4)), ((0, 4), (2, 3), (1, 5)), ((0, 3), (1, 2), (0, 4)), ((0, 3), (1, 2), (1, 2)), ((0, 4), (2, 3), (1, 3)), ((1, 4), (2, 3), (0, 3)), ((0, 3), (1, 2), (0, 2)), ((0, 4), (1, 2), (2, 3)), ((0, 3), (1, 2), (2, 3)), ((0, 3), (1, 2), (2, 4)), ((0, 5), (1, 3), (2, 4)), ((0, 4), (1, 3), (2, 4)), ((0, 4), (1, 3), (2, 5)), ((0, 4), (1, 2), (1, 3)), ((0, 3), (1, 2), (1, 3)), ((0, 3), (1, 2), (1, 4)), ((2, 4), (3, 4), (0, 1)), ((0, 4), (3, 4), (1, 2)), ((1, 3), (2, 3), (0, 1)), ((1, 4), (3, 4), (0, 2)), ((0, 3), (2, 3), (0, 1)), ((0, 4), (1, 4), (2, 3)), ((0, 3), (1, 3), (2, 3)), ((0, 3), (2, 3), (1, 2)), ((1, 3), (2, 3), (0, 2)), ((0, 2), (1, 2), (0, 1)), ((0, 4), (2, 4), (1, 3)), ((1, 4), (2, 4), (0, 3)), ((0, 3), (1, 3), (0, 2)), ((0, 3), (1, 3), (1, 2)), ((0, 2), (1, 2), (3, 4)), ((1, 3), (2, 3), (0, 4)), ((0, 3), (2, 3), (1, 4)), ((0, 2), (1, 2), (0, 3)), ((0, 2), (1, 2), (1, 2)), ((0, 3), (2, 3), (1, 3)), ((0, 2), (1, 2), (0, 2)), ((1, 3), (2, 3), (0, 3)), ((0, 2), (1, 2), (2, 3)), ((0, 3), (1, 3), (2, 4)), ((0, 2), (1, 2), (1, 3)), ((3, 4), (2, 3), (0, 1)), ((3, 4), (0, 3), (1, 2)), ((2, 3), (0, 2), (1, 2)), ((2, 3), (1, 2), (0, 1)), ((3, 4), (1, 3), (0, 2)), ((2, 3), (0, 2), (0, 1)), ((1, 4), (0, 1), (2, 3)), ((1, 3), (0, 1), (2, 3)), ((1, 2), (0, 1), (3, 4)), ((1, 2), (0, 1), (2, 3)), ((1, 3), (0, 1), (2, 4)), ((2, 4), (1, 2), (0, 3)), ((2, 3), (1, 2), (0, 4)), ((2, 3), (1, 2), (0, 3)), ((1, 2), (0, 1), (0, 1)), ((2, 3), (1, 2), (0, 2)), ((1, 3), (0, 1), (1, 2)), ((1, 2), (0, 1), (1, 2)), ((1, 2), (0, 1), (1, 3)), ((2, 4), (0, 2), (1, 3)), ((2, 3), (0, 2), (1, 4)), ((2, 3), (0, 2), (1, 3)), ((1, 3), (0, 1), (0, 2)), ((1, 2), (0, 1), (0, 3)), ((1, 2), (0, 1), (0, 2)), ((3, 5), (2, 4), (0, 1)), ((3, 5), (0, 4), (1, 2)), ((1, 5), (0, 4), (2, 3)), ((2, 4), (0, 3), (1, 2)), ((2, 5), (0, 4), (1, 3)), ((1, 4), (0, 3), (1, 2)), ((1, 4), (0, 3), (2, 3)), ((2, 4), (0, 3), (1, 3)), ((1, 3), (0, 2), (1, 2)), ((2, 4), (1, 3), (0, 1)), ((3, 5), (1, 4), (0, 2)), ((2, 4), (1, 3), (0, 2)), ((2, 5), (1, 4), (0, 3)), ((2, 4), (0, 3), (0, 1)), ((1, 3), (0, 2), (0, 1)), ((1, 4), (0, 3), (0, 2)), ((1, 5), (0, 2), (3, 4)), ((1, 4), (0, 2), (3, 4)), ((1, 3), (0, 2), (4, 5)), ((1, 3), (0, 2), (3, 4)), ((1, 4), (0, 2), (3, 5)), ((2, 5), (1, 3), (0, 4)), ((2, 4), (1, 3), (0, 5)), ((2, 4), (1, 3), (0, 4)), ((1, 3), (0, 2), (0, 2)), ((2, 4), (1, 3), (0, 3)), ((1, 4), (0, 2), (2, 3)), ((1, 3), (0, 2), (2, 3)), ((1, 3), (0, 2), (2, 4)), ((1, 5), (0, 3), (2, 4)), ((1, 4), (0, 3), (2, 4)), ((2, 5), (0, 3), (1, 4)), ((1, 4), (0, 2), (1, 3)), ((2, 4), (0, 3), (1, 5)), ((1, 3), (0, 2), (1, 3)), ((2, 4), (0, 3), (1, 4)), ((1, 4), (0, 3), (2, 5)), ((1, 3), (0, 2), (1, 4)), ((1, 4), (0, 2), (0, 3)), ((1, 3), (0, 2), (0, 4)), ((1, 3), (0, 2), (0, 3)), ((2, 4), (2, 3), (0, 1)), ((0, 4), (0, 3), (1, 2)), ((0, 3), (0, 2), (1, 2)), ((1, 3), (1, 2), (0, 1)), ((1, 4), (1, 3), (0, 2)), ((0, 3), (0, 2), (0, 1)), ((0, 4), (0, 1), (2, 3)), ((0, 3), (0, 1), (2, 3)), ((0, 2), (0, 1), (3, 4)), ((0, 2), (0, 1), (2, 3)), ((0, 3), (0, 1), (2, 4)), ((1, 4), (1, 2), (0, 3)), ((1, 3), (1, 2), (0, 4)), ((1, 3), (1, 2), (0, 3)), ((0, 2), (0, 1), (0, 1)), ((1, 3), (1, 2), (0, 2)), ((0, 3), (0, 1), (1, 2)), ((0, 2), (0, 1), (1, 2)), ((0, 2), (0, 1), (1, 3)), ((0, 4), (0, 2), (1, 3)), ((0, 3), (0, 2), (1, 3)), ((0, 3), (0, 2), (1, 4)), ((0, 3), (0, 1), (0, 2)), ((0, 2), (0, 1), (0, 2)), ((0, 2), (0, 1), (0, 3)), ((2, 3), (4, 5), (0, 1)), ((0, 3), (4, 5), (1, 2)), ((0, 2), (3, 4), (1, 2)), ((1, 2), (3, 4), (0, 1)), ((1, 3), (4, 5), (0, 2)), ((0, 2), (3, 4), (0, 1)), ((0, 1), (4, 5), (2, 3)), ((1, 2), (4, 5), (0, 3)), ((0, 1), (2, 3), (0, 1)), ((1, 2), (3, 4), (0, 2)), ((0, 1), (3, 4), (1, 2)), ((0, 2), (4, 5), (1, 3)), ((0, 1), (3, 4), (0, 2)), ((0, 1), (2, 5), (3, 4)), ((0, 1), (2, 4), (3, 4)), ((0, 1), (3, 4), (2, 3)), ((1, 2), (3, 4), (0, 3)), ((0, 1), (2, 3), (1, 2)), ((0, 2), (3, 4), (1, 3)), ((0, 1), (2, 3), (0, 2)), ((0, 1), (3, 5), (2, 4)), ((1, 2), (3, 5), (0, 4)), ((0, 1), (2, 4), (1, 3)), ((0, 2), (3, 5), (1, 4)), ((0, 1), (2, 4), (0, 3)), ((0, 1), (2, 4), (2, 3)), ((0, 1), (2, 3), (4, 5)), ((0, 1), (3, 4), (2, 5)), ((1, 2), (3, 4), (0, 5)), ((0, 1), (2, 3), (1, 4)), ((0, 2), (3, 4), (1, 5)), ((0, 1), (2, 3), (0, 4)), ((0, 1), (2, 3), (2, 3)), ((0, 1), (3, 4), (2, 4)), ((1, 2), (3, 4), (0, 4)), ((0, 1), (2, 3), (1, 3)), ((0, 2), (3, 4), (1, 4)), ((0, 1), (2, 3), (0, 3)), ((0, 1), (2, 3), (3, 4)), ((0, 1), (2, 4), (3, 5)), ((0, 1), (2, 3), (2, 4)), ((3, 4), (2, 5), (0, 1)), ((3, 4), (0, 5), (1, 2)), ((1, 4), (0, 5), (2, 3)), ((1, 3), (0, 4), (2, 3)), ((2, 3), (0, 4), (1, 2)), ((2, 4), (0, 5), (1, 3)), ((1, 3), (0, 4), (1, 2)), ((1, 2), (0, 5), (3, 4)), ((2, 3), (0, 5), (1, 4)), ((1, 2), (0, 3), (1, 2)), ((2, 3), (0, 4), (1, 3)), ((1, 2), (0, 4), (2, 3)), ((1, 3), (0, 5), (2, 4)), ((1, 2), (0, 4), (1, 3)), ((1, 2), (0, 4), (3, 4)), ((2, 3), (0, 4), (1, 4)), ((1, 2), (0, 3), (2, 3)), ((1, 3), (0, 4), (2, 4)), ((1, 2), (0, 3), (1, 3)), ((2, 3), (1, 4), (0, 1)), ((3, 4), (1, 5), (0, 2)), ((2, 3), (1, 4), (0, 2)), ((2, 4), (1, 5), (0, 3)), ((2, 3), (1, 5), (0, 4)), ((2, 3), (1, 4), (0, 3)), ((2, 3), (0, 4), (0, 1)), ((1, 2), (0, 3), (0, 1)), ((1, 3), (0, 4), (0, 2)), ((1, 2), (0, 4), (0, 3)), ((1, 2), (0, 3), (0, 2)), ((1, 2), (0, 3), (4, 5)), ((2, 3), (1, 4), (0, 5)), ((1, 2), (0, 3), (0, 3)), ((2, 3), (1, 4), (0, 4)), ((1, 2), (0, 3), (3, 4)), ((1, 2), (0, 4), (3, 5)), ((2, 3), (0, 4), (1, 5)), ((1, 2), (0, 3), (2, 4)), ((1, 3), (0, 4), (2, 5)), ((1, 2), (0, 3), (1, 4)), ((1, 2), (0, 3), (0, 4)), ((2, 3), (2, 3), (0, 1)), ((0, 3), (0, 3), (1, 2)), ((0, 2), (0, 2), (1, 2)), ((1, 2), (1, 2), (0, 1)), ((1, 3), (1, 3), (0, 2)), ((0, 2), (0, 2), (0, 1)), ((0, 1), (0, 1), (2, 3)), ((1, 2), (1, 2), (0, 3)), ((0, 1), (0, 1), (0, 1)), ((1, 2), (1, 2), (0, 2)), ((0, 1), (0, 1), (1, 2)), ((0, 2), (0, 2), (1, 3)), ((0, 1), (0, 1), (0, 2)), ((3, 4), (2, 4), (0, 1)), ((3, 4), (0, 4), (1, 2)), ((1, 4), (0, 4), (2, 3)), ((2, 3), (0, 3), (1, 2)), ((2, 4), (0, 4), (1, 3)), ((1, 3), (0, 3), (1, 2)), ((1, 3), (0, 3), (2, 3)), ((1, 2), (0, 2), (1, 2)), ((2, 3), (0, 3), (1, 3)), ((2, 3), (1, 3), (0, 1)), ((3, 4), (1, 4), (0, 2)), ((2, 3), (1, 3), (0, 2)), ((2, 4), (1, 4), (0, 3)), ((2, 3), (0, 3), (0, 1)), ((1, 2), (0, 2), (0, 1)), ((1, 3), (0, 3), (0, 2)), ((1, 2), (0, 2), (3, 4)), ((2, 3), (1, 3), (0, 4)), ((1, 2), (0, 2), (0, 2)), ((2, 3), (1, 3), (0, 3)), ((1, 2), (0, 2), (2, 3)), ((2, 3), (0, 3), (1, 4)), ((1, 3), (0, 3), (2, 4)), ((1, 2), (0, 2), (1, 3)), ((1, 2), (0, 2), (0, 3)), ((2, 3), (3, 4), (0, 1)), ((0, 3), (3, 4), (1, 2)), ((1, 2), (2, 3), (0, 1)), ((1, 3), (3, 4), (0, 2)), ((0, 2), (2, 3), (0, 1)), ((0, 1), (1, 4), (2, 3)), ((0, 1), (1, 3), (2, 3)), ((0, 2), (2, 3), (1, 2)), ((0, 1), (1, 2), (0, 1)), ((1, 2), (2, 3), (0, 2)), ((1, 2), (2, 4), (0, 3)), ((0, 2), (2, 4), (1, 3)), ((0, 1), (1, 3), (0, 2)), ((0, 1), (1, 3), (1, 2)), ((0, 1), (1, 2), (3, 4)), ((1, 2), (2, 3), (0, 4)), ((0, 2), (2, 3), (1, 4)), ((0, 1), (1, 2), (0, 3)), ((0, 1), (1, 2), (1, 2)), ((1, 2), (2, 3), (0, 3)), ((0, 2), (2, 3), (1, 3)), ((0, 1), (1, 2), (0, 2)), ((0, 1), (1, 2), (2, 3)), ((0, 1), (1, 3), (2, 4)), ((0, 1), (1, 2), (1, 3)), ((2, 4), (3, 5), (0, 1)), ((0, 4), (3, 5), (1, 2)), ((1, 3), (2, 4), (0, 1)), ((1, 4), (3, 5), (0, 2)), ((0, 3), (2, 4), (0, 1)), ((0, 4), (1, 5), (2, 3)), ((0, 3), (1, 4), (2, 3)), ((0, 2), (1, 5), (3, 4)), ((0, 2), (1, 4), (2, 3)), ((0, 3), (1, 5), (2, 4)), ((0, 2), (1, 4), (3, 4)), ((0, 2), (1, 3), (2, 3)), ((0, 3), (1, 4), (2, 4)), ((0, 3), (2, 4), (1, 2)), ((1, 3), (2, 4), (0, 2)), ((0, 2), (1, 3), (0, 1)), ((0, 4), (2, 5), (1, 3)), ((0, 3), (2, 4), (1, 3)), ((1, 4), (2, 5), (0, 3)), ((0, 3), (1, 4), (0, 2)), ((1, 3), (2, 5), (0, 4)), ((0, 2), (1, 3), (0, 2)), ((1, 3), (2, 4), (0, 3)), ((0, 3), (2, 5), (1, 4)), ((0, 2), (1, 4), (0, 3)), ((0, 3), (1, 4), (1, 2)), ((0, 2), (1, 3), (1, 2)), ((0, 2), (1, 4), (1, 3)), ((0, 2), (1, 3), (4, 5)), ((1, 3), (2, 4), (0, 5)), ((0, 3), (2, 4), (1, 5)), ((0, 2), (1, 3), (0, 4)), ((0, 2), (1, 3), (1, 3)), ((1, 3), (2, 4), (0, 4)), ((0, 3), (2, 4), (1, 4)), ((0, 2), (1, 3), (0, 3)), ((0, 2), (1, 3), (3, 4)), ((0, 2), (1, 4), (3, 5)), ((0, 2), (1, 3), (2, 4)), ((0, 3), (1, 4), (2, 5)), ((0, 2), (1, 3), (1, 4)), ((2, 3), (2, 4), (0, 1)), ((0, 3), (0, 4), (1, 2)), ((0, 2), (0, 3), (1, 2)), ((0, 1), (0, 4), (2, 3)), ((0, 1), (0, 3), (1, 2)), ((0, 2), (0, 4), (1, 3)), ((0, 1), (0, 3), (2, 3)), ((0, 1), (0, 2), (1, 2)), ((0, 2), (0, 3), (1, 3)), ((1, 2), (1, 3), (0, 1)), ((1, 3), (1, 4), (0, 2)), ((1, 2), (1, 4), (0, 3)), ((1, 2), (1, 3), (0, 2)), ((0, 2), (0, 3), (0, 1)), ((0, 1), (0, 2), (0, 1)), ((0, 1), (0, 3), (0, 2)), ((0, 1), (0, 2), (3, 4)), ((1, 2), (1, 3), (0, 4)), ((0, 1), (0, 2), (0, 2)), ((1, 2), (1, 3), (0, 3)), ((0, 1), (0, 2), (2, 3)), ((0, 1), (0, 3), (2, 4)), ((0, 1), (0, 2), (1, 3)), ((0, 2), (0, 3), (1, 4)), ((0, 1), (0, 2), (0, 3))]
def lc1 (x y : Span) : Nat := (letter x y).headD 0
theorem letter_lc1 (x y : Span) : letter x y = [lc1 x y] := by
  unfold lc1 letter
  repeat' split
  all_goals rfl
theorem lc1_letter (x y : Span) : lc1 x y ∈ c_LETTERS := (letter_ways x y).mem (by rw [letter_lc1]; simp)
def mk (a b : Nat) : List Nat := (tbL.getD (lettersC.idxOf a) []).getD (lettersC.idxOf b) []
theorem tbl_mk : ∀ a ∈ c_LETTERS, ∀ b ∈ c_LETTERS, tbl a b = mk a b := by decide +kernel
def sp6 : List Span := everyOf 3 6
theorem sound6 : ∀ x ∈ sp6, ∀ y ∈ sp6, ∀ z ∈ sp6, lc1 x z ∈ mk (lc1 x y) (lc1 y z) := by decide +kernel
def triples : List (Nat × Nat × Nat) := c_LETTERS.flatMap fun a => c_LETTERS.flatMap fun b => (mk a b).map fun c => (a, b, c)
theorem wits_are : wits.map (fun w => (lc1 w.1 w.2.1, lc1 w.2.1 w.2.2, lc1 w.1 w.2.2)) = triples := by decide +kernel
theorem wits_forms : ∀ w ∈ wits, form [w.1, w.2.1, w.2.2] = [w.1, w.2.1, w.2.2] ∧ w.1 ∈ sp6 ∧ w.2.1 ∈ sp6 ∧ w.2.2 ∈ sp6 := by decide +kernel
theorem mk_e : ∀ a ∈ c_LETTERS, mk a 101 = [a] ∧ mk 101 a = [a] ∧ 101 ∈ mk a (convC a) := by decide +kernel
theorem mk_conv : ∀ a ∈ c_LETTERS, ∀ b ∈ c_LETTERS, ∀ c ∈ c_LETTERS, c ∈ mk a b ↔ convC c ∈ mk (convC b) (convC a) := by decide +kernel
theorem mk_assoc : ∀ a ∈ c_LETTERS, ∀ b ∈ c_LETTERS, ∀ c ∈ c_LETTERS, ∀ d ∈ c_LETTERS, ((mk a b).any fun x => decide (d ∈ mk x c)) = ((mk b c).any fun y => decide (d ∈ mk a y)) := by decide +kernel
theorem conv_conv : ∀ a ∈ c_LETTERS, convC (convC a) = a ∧ convC a ∈ c_LETTERS := by decide +kernel
end XL
end
section
set_option Elab.async false
set_option linter.all false
set_option autoImplicit false
set_option maxRecDepth 100000
set_option maxHeartbeats 1000000
namespace XL
theorem rk_bound {x : Int} {l : List Int} (h : x ∈ l) : rk x l < l.length := by
  rw [rk_cnt]
  refine Nat.lt_of_lt_of_le (cnt_len (ends_mem.mpr h)) ?_
  have : ∀ l : List Int, (endsOf l).length ≤ l.length := by
    intro l
    induction l with
    | nil => simp [endsOf]
    | cons y l ih =>
      have h2 : ∀ (m : List Int), (insS y m).length ≤ m.length + 1 := by
        intro m
        induction m with
        | nil => simp [insS]
        | cons z m ih2 => unfold insS; split <;> (try split) <;> simp <;> omega
      show (insS y (endsOf l)).length ≤ _
      have := h2 (endsOf l)
      simp; omega
  exact this l
theorem form_in {sc : List Span} (hv : ∀ x ∈ sc, x.1 < x.2) {x : Span} (hx : x ∈ form sc) : 0 ≤ x.1 ∧ x.1 < x.2 ∧ x.2 < 2 * sc.length := by
  obtain ⟨y, hy, rfl⟩ := List.mem_map.mp hx
  obtain ⟨h1, h2⟩ := mem_ends hy
  have b1 := rk_lt h1 (hv y hy)
  have b2 := rk_bound h2
  rw [endsL_len] at b2
  refine ⟨by omega, by omega, by omega⟩
theorem sp6_form {x y z : Span} (hx : x.1 < x.2) (hy : y.1 < y.2) (hz : z.1 < z.2) : ∃ x' ∈ sp6, ∃ y' ∈ sp6, ∃ z' ∈ sp6, letter x' y' = letter x y ∧ letter y' z' = letter y z ∧ letter x' z' = letter x z := by
  have hv : ∀ w ∈ [x, y, z], w.1 < w.2 := by
    intro w hw
    simp only [List.mem_cons, List.not_mem_nil, or_false] at hw
    rcases hw with rfl | rfl | rfl <;> assumption
  have mem : ∀ w ∈ form [x, y, z], w ∈ sp6 := fun w hw => by
    obtain ⟨h1, h2, h3⟩ := form_in hv hw
    have : ([x, y, z] : List Span).length = 3 := rfl
    rw [this] at h3
    exact mem_every.mpr ⟨h1, by omega, h2, h3⟩
  refine ⟨_, mem _ (List.mem_map.mpr ⟨x, by simp, rfl⟩), _, mem _ (List.mem_map.mpr ⟨y, by simp, rfl⟩), _, mem _ (List.mem_map.mpr ⟨z, by simp, rfl⟩), ?_, ?_, ?_⟩
  · exact letter_form (by simp) (by simp)
  · exact letter_form (by simp) (by simp)
  · exact letter_form (by simp) (by simp)
/-- the table allows what is -/
theorem tbl_sound {x y z : Span} (hx : x.1 < x.2) (hy : y.1 < y.2) (hz : z.1 < z.2) : lc1 x z ∈ tbl (lc1 x y) (lc1 y z) := by
  obtain ⟨x', hx', y', hy', z', hz', e1, e2, e3⟩ := sp6_form hx hy hz
  have := sound6 x' hx' y' hy' z' hz'
  rw [tbl_mk _ (lc1_letter x y) _ (lc1_letter y z)]
  unfold lc1 at this ⊢
  rw [e1, e2, e3] at this
  exact this
theorem tbl_wit {a b c : Nat} (ha : a ∈ c_LETTERS) (hb : b ∈ c_LETTERS) (h : c ∈ tbl a b) : ∃ x y z : Span, [x, y, z] ∈ lawForms 3 ∧ lc1 x y = a ∧ lc1 y z = b ∧ lc1 x z = c := by
  rw [tbl_mk a ha b hb] at h
  have : (a, b, c) ∈ triples := List.mem_flatMap.mpr ⟨a, ha, List.mem_flatMap.mpr ⟨b, hb, List.mem_map.mpr ⟨c, h, rfl⟩⟩⟩
  rw [← wits_are] at this
  obtain ⟨w, hw, e⟩ := List.mem_map.mp this
  obtain ⟨f1, f2, f3, f4⟩ := wits_forms w hw
  simp only [Prod.mk.injEq] at e
  refine ⟨w.1, w.2.1, w.2.2, ?_, e.1, e.2.1, e.2.2⟩
  unfold lawForms
  rw [List.mem_filter]
  refine ⟨mem_rows.mpr ⟨rfl, fun x hx => ?_⟩, by simpa using f1⟩
  simp only [List.mem_cons, List.not_mem_nil, or_false] at hx
  rcases hx with rfl | rfl | rfl <;> assumption
theorem lawForms_in {n : Nat} {f : List Span} (h : f ∈ lawForms n) : f.length = n ∧ form f = f ∧ ∀ x ∈ f, 0 ≤ x.1 ∧ x.1 < x.2 ∧ x.2 < 2 * n := by
  unfold lawForms at h
  rw [List.mem_filter] at h
  obtain ⟨h1, h2⟩ := mem_rows.mp h.1
  refine ⟨h1, by simpa using h.2, fun x hx => ?_⟩
  obtain ⟨a, b, c, d⟩ := mem_every.mp (h2 x hx)
  exact ⟨a, c, d⟩
/-! ways as sets -/
theorem mem_conv {s : List Nat} (hs : ∀ a ∈ s, a ∈ c_LETTERS) {c : Nat} : c ∈ conv s ↔ c ∈ c_LETTERS ∧ convC c ∈ s := by
  unfold conv
  rw [mem_sortN, List.mem_map]
  constructor
  · rintro ⟨a, ha, rfl⟩
    have := conv_conv a (hs a ha)
    exact ⟨this.2, by rw [this.1]; exact ha⟩
  · rintro ⟨h1, h2⟩
    exact ⟨convC c, h2, (conv_conv c h1).1⟩
theorem conv_asc {s : List Nat} (hs : ∀ a ∈ s, a ∈ c_LETTERS) (hn : s.Nodup) : AscN (conv s) := by
  refine sortN_asc ?_
  have : ∀ (l : List Nat), (∀ a ∈ l, a ∈ c_LETTERS) → l.Nodup → (l.map convC).Nodup := by
    intro l
    induction l with
    | nil => intro _ _; exact List.nodup_nil
    | cons x l ih =>
      intro h1 h2
      obtain ⟨h3, h4⟩ := List.nodup_cons.mp h2
      refine List.nodup_cons.mpr ⟨fun q => ?_, ih (fun a ha => h1 a (List.mem_cons_of_mem _ ha)) h4⟩
      obtain ⟨y, hy, e⟩ := List.mem_map.mp q
      have a1 := (conv_conv y (h1 y (List.mem_cons_of_mem _ hy))).1
      have a2 := (conv_conv x (h1 x List.mem_cons_self)).1
      rw [e, a2] at a1
      subst a1
      exact h3 hy
  exact this s hs hn
theorem AscN.nodup {l : List Nat} (h : AscN l) : l.Nodup := h.imp (fun q => Nat.ne_of_lt q)
theorem conv_ways {s : List Nat} (h : IsWays s) : IsWays (conv s) := by
  refine ⟨?_, ?_⟩
  · obtain ⟨a, ha⟩ := List.exists_mem_of_ne_nil _ h.1
    have : convC a ∈ conv s := (mem_conv h.all).mpr ⟨(conv_conv a (h.mem ha)).2, by rw [(conv_conv a (h.mem ha)).1]; exact ha⟩
    intro e; rw [e] at this; cases this
  · refine ascN_one (filt_asc _) (conv_asc h.all h.asc.nodup) fun k => ?_
    rw [inSeq, List.mem_filter]
    simp only [decide_eq_true_eq]
    constructor
    · exact fun q => q.2
    · exact fun q => ⟨((mem_conv h.all).mp q).1, q⟩
theorem comp_e {s : List Nat} (h : IsWays s) : comp s [101] = s ∧ comp [101] s = s := by
  have he : (101 : Nat) ∈ c_LETTERS := by decide
  have hee : ∀ b ∈ [(101 : Nat)], b ∈ c_LETTERS := fun b hb => by simp at hb; subst hb; exact he
  constructor
  · refine ascN_one (filt_asc _) h.asc fun k => ?_
    show k ∈ comp s [101] ↔ _
    rw [mem_comp h.all hee]
    constructor
    · rintro ⟨a, ha, b, hb, q⟩
      simp only [List.mem_singleton] at hb
      subst hb
      rw [tbl_mk a (h.mem ha) _ he, (mk_e a (h.mem ha)).1] at q
      simp at q; subst q; exact ha
    · intro q
      exact ⟨k, q, 101, by simp, by rw [tbl_mk k (h.mem q) _ he, (mk_e k (h.mem q)).1]; simp⟩
  · refine ascN_one (filt_asc _) h.asc fun k => ?_
    show k ∈ comp [101] s ↔ _
    rw [mem_comp hee h.all]
    constructor
    · rintro ⟨b, hb, a, ha, q⟩
      simp only [List.mem_singleton] at hb
      subst hb
      rw [tbl_mk _ he a (h.mem ha), (mk_e a (h.mem ha)).2.1] at q
      simp at q; subst q; exact ha
    · intro q
      exact ⟨101, by simp, k, q, by rw [tbl_mk _ he k (h.mem q), (mk_e k (h.mem q)).2.1]; simp⟩
theorem mem_tbl_conv {a b c : Nat} (ha : a ∈ c_LETTERS) (hb : b ∈ c_LETTERS) (hc : c ∈ c_LETTERS) : c ∈ tbl a b ↔ convC c ∈ tbl (convC b) (convC a) := by
  rw [tbl_mk a ha b hb, tbl_mk _ (conv_conv b hb).2 _ (conv_conv a ha).2]
  exact mk_conv a ha b hb c hc
theorem conv_comp {s t : List Nat} (hs : IsWays s) (ht : IsWays t) : conv (comp s t) = comp (conv t) (conv s) := by
  have hc := comp_ways hs ht
  refine ascN_one (conv_ways hc).asc (filt_asc _) fun k => ?_
  show _ ↔ k ∈ comp (conv t) (conv s)
  rw [mem_conv hc.all, mem_comp (conv_ways ht).all (conv_ways hs).all, mem_comp hs.all ht.all]
  constructor
  · rintro ⟨hk, a, ha, b, hb, q⟩
    have qa := conv_conv a (hs.mem ha)
    have qb := conv_conv b (ht.mem hb)
    refine ⟨convC b, (mem_conv ht.all).mpr ⟨qb.2, by rw [qb.1]; exact hb⟩, convC a, (mem_conv hs.all).mpr ⟨qa.2, by rw [qa.1]; exact ha⟩, ?_⟩
    have := (mem_tbl_conv (hs.mem ha) (ht.mem hb) (conv_conv k hk).2).mp q
    rw [(conv_conv k hk).1] at this
    exact this
  · rintro ⟨b, hb, a, ha, q⟩
    obtain ⟨b1, b2⟩ := (mem_conv ht.all).mp hb
    obtain ⟨a1, a2⟩ := (mem_conv hs.all).mp ha
    have hk := (tbl_is b b1 a a1).2.2 k q
    refine ⟨hk, convC a, a2, convC b, b2, ?_⟩
    exact (mem_tbl_conv b1 a1 hk).mp q
theorem conv2 {s : List Nat} (hs : IsWays s) : conv (conv s) = s := by
  refine ascN_one (conv_ways (conv_ways hs)).asc hs.asc fun k => ?_
  rw [mem_conv (conv_ways hs).all, mem_conv hs.all]
  constructor
  · rintro ⟨a, b, c⟩; rw [(conv_conv k a).1] at c; exact c
  · intro q; exact ⟨hs.mem q, (conv_conv k (hs.mem q)).2, by rw [(conv_conv k (hs.mem q)).1]; exact q⟩
theorem comp_assoc {s t u : List Nat} (hs : IsWays s) (ht : IsWays t) (hu : IsWays u) : comp (comp s t) u = comp s (comp t u) := by
  have h1 := comp_ways hs ht
  have h2 := comp_ways ht hu
  refine ascN_one (filt_asc _) (filt_asc _) fun d => ?_
  show d ∈ comp (comp s t) u ↔ d ∈ comp s (comp t u)
  rw [mem_comp h1.all hu.all, mem_comp hs.all h2.all]
  have key : ∀ a ∈ s, ∀ b ∈ t, ∀ c ∈ u, d ∈ c_LETTERS → ((∃ x ∈ tbl a b, d ∈ tbl x c) ↔ ∃ y ∈ tbl b c, d ∈ tbl a y) := by
    intro a ha b hb c hc hd
    have ha := hs.mem ha
    have hb := ht.mem hb
    have hc := hu.mem hc
    have := mk_assoc a ha b hb c hc d hd
    rw [Bool.eq_iff_iff, List.any_eq_true, List.any_eq_true] at this
    simp only [decide_eq_true_eq] at this
    rw [tbl_mk a ha b hb, tbl_mk b hb c hc]
    constructor
    · rintro ⟨x, hx, q⟩
      have hxl := (tbl_is a ha b hb).2.2 x (by rw [tbl_mk a ha b hb]; exact hx)
      rw [tbl_mk x hxl c hc] at q
      obtain ⟨y, hy, q2⟩ := this.mp ⟨x, hx, q⟩
      have hyl := (tbl_is b hb c hc).2.2 y (by rw [tbl_mk b hb c hc]; exact hy)
      exact ⟨y, hy, by rw [tbl_mk a ha y hyl]; exact q2⟩
    · rintro ⟨y, hy, q⟩
      have hyl := (tbl_is b hb c hc).2.2 y (by rw [tbl_mk b hb c hc]; exact hy)
      rw [tbl_mk a ha y hyl] at q
      obtain ⟨x, hx, q2⟩ := this.mpr ⟨y, hy, q⟩
      have hxl := (tbl_is a ha b hb).2.2 x (by rw [tbl_mk a ha b hb]; exact hx)
      exact ⟨x, hx, by rw [tbl_mk x hxl c hc]; exact q2⟩
  constructor
  · rintro ⟨x, hx, c, hc, q⟩
    obtain ⟨a, ha, b, hb, z⟩ := (mem_comp hs.all ht.all).mp hx
    have hxl := (tbl_is a (hs.mem ha) b (ht.mem hb)).2.2 x z
    obtain ⟨y, hy, w⟩ := (key a ha b hb c hc ((tbl_is x hxl c (hu.mem hc)).2.2 d q)).mp ⟨x, z, q⟩
    exact ⟨a, ha, y, (mem_comp ht.all hu.all).mpr ⟨b, hb, c, hc, hy⟩, w⟩
  · rintro ⟨a, ha, y, hy, q⟩
    obtain ⟨b, hb, c, hc, z⟩ := (mem_comp ht.all hu.all).mp hy
    have hyl := (tbl_is b (ht.mem hb) c (hu.mem hc)).2.2 y z
    obtain ⟨x, hx, w⟩ := (key a ha b hb c hc ((tbl_is a (hs.mem ha) y hyl).2.2 d q)).mpr ⟨y, z, q⟩
    exact ⟨x, (mem_comp hs.all ht.all).mpr ⟨a, ha, b, hb, hx⟩, c, hc, w⟩
theorem comp_union {s u t : List Nat} (hs : IsWays s) (hu : IsWays u) (ht : IsWays t) : comp (waysL (s ++ u)) t = waysL (comp s t ++ comp u t) := by
  have h1 : ∀ c ∈ s ++ u, c ∈ c_LETTERS := fun c hc => by
    rcases List.mem_append.mp hc with q | q
    · exact hs.mem q
    · exact hu.mem q
  have h2 : ∀ c ∈ comp s t ++ comp u t, c ∈ c_LETTERS := fun c hc => by
    rcases List.mem_append.mp hc with q | q
    · exact (comp_ways hs ht).mem q
    · exact (comp_ways hu ht).mem q
  have h3 : ∀ c ∈ waysL (s ++ u), c ∈ c_LETTERS := fun c hc => (List.mem_filter.mp hc).1
  refine ascN_one (filt_asc _) (filt_asc _) fun d => ?_
  show d ∈ comp (waysL (s ++ u)) t ↔ d ∈ waysL (comp s t ++ comp u t)
  rw [mem_comp h3 ht.all, mem_waysL h2, List.mem_append, mem_comp hs.all ht.all, mem_comp hu.all ht.all]
  constructor
  · rintro ⟨a, ha, q⟩
    rcases List.mem_append.mp ((mem_waysL h1).mp ha) with z | z
    · exact .inl ⟨a, z, q⟩
    · exact .inr ⟨a, z, q⟩
  · rintro (⟨a, ha, q⟩ | ⟨a, ha, q⟩)
    · exact ⟨a, (mem_waysL h1).mpr (List.mem_append.mpr (.inl ha)), q⟩
    · exact ⟨a, (mem_waysL h1).mpr (List.mem_append.mpr (.inr ha)), q⟩
theorem e_in_comp {s : List Nat} (hs : IsWays s) : 101 ∈ comp s (conv s) := by
  obtain ⟨a, ha⟩ := List.exists_mem_of_ne_nil _ hs.1
  have h := conv_conv a (hs.mem ha)
  refine (mem_comp hs.all (conv_ways hs).all).mpr ⟨a, ha, convC a, (mem_conv hs.all).mpr ⟨h.2, by rw [h.1]; exact ha⟩, ?_⟩
  rw [tbl_mk a (hs.mem ha) _ h.2]
  exact (mk_e a (hs.mem ha)).2.2
theorem comp_bB : comp [98] [66] = c_LETTERS ∧ comp [109] [77] = [70, 101, 102] ∧ comp [100] [100] = [100] := by decide +kernel
end XL
end
section
set_option Elab.async false
set_option linter.all false
set_option autoImplicit false
set_option maxRecDepth 100000
set_option maxHeartbeats 1000000
namespace XL
/-- the letters that come in forms -/
def dueIn (fs : List (List Span)) (s t : List Nat) : List Nat :=
  (fs.filter fun f => decide (lc1 (f.getD 0 (0, 1)) (f.getD 1 (0, 1)) ∈ s) && decide (lc1 (f.getD 1 (0, 1)) (f.getD 2 (0, 1)) ∈ t)).map fun f => lc1 (f.getD 0 (0, 1)) (f.getD 2 (0, 1))
theorem due_comp {s t : List Nat} (hs : IsWays s) (ht : IsWays t) {L : List Nat} (hn : L.Nodup) (hL : ∀ c, c ∈ L ↔ c ∈ dueIn (lawForms 3) s t) : sortN L = comp s t := by
  refine ascN_one (sortN_asc hn) (filt_asc _) fun k => ?_
  show _ ↔ k ∈ comp s t
  rw [mem_sortN, hL, mem_comp hs.all ht.all]
  unfold dueIn
  rw [List.mem_map]
  constructor
  · rintro ⟨f, hf, rfl⟩
    rw [List.mem_filter] at hf
    obtain ⟨h1, h2⟩ := hf
    simp only [Bool.and_eq_true, decide_eq_true_eq] at h2
    obtain ⟨hl, _, hv⟩ := lawForms_in h1
    match f, hl with
    | [x, y, z], _ => exact ⟨_, h2.1, _, h2.2, tbl_sound (hv x (by simp)).2.1 (hv y (by simp)).2.1 (hv z (by simp)).2.1⟩
  · rintro ⟨a, ha, b, hb, q⟩
    obtain ⟨x, y, z, hf, rfl, rfl, rfl⟩ := tbl_wit (hs.mem ha) (ht.mem hb) q
    refine ⟨[x, y, z], ?_, rfl⟩
    rw [List.mem_filter]
    exact ⟨hf, by simpa using ⟨ha, hb⟩⟩
def env03 (ns : List Int) (y3 : Option P) (s t u : List Nat) : Env := [some (scr ns), some (.ref 0), some (.ref 1), op y3, none, none, some (.p (.str s)), some (.p (.str t)), some (.p (.str u)), none]
theorem due_loop {ns : List Int} {s t u : List Nat} {C : Cell} (hs : IsWays s) (ht : IsWays t) :
    ∃ (y3 : Option P) (L : List Nat), xFor (xItA (xDef f_law_forms (xConsD (xC (.int 3)) xNilD))) (.nm 3)
    (xIfS (xTand (xB (xBin pIn (xDef f_law_letter (xConsD (xBin pIx (xVar 3) (xC (.int 0))) (xConsD (xBin pIx (xVar 3) (xC (.int 1))) xNilD))) (xVar 6))) (xB (xBin pIn (xDef f_law_letter (xConsD (xBin pIx (xVar 3) (xC (.int 1))) (xConsD (xBin pIx (xVar 3) (xC (.int 2))) xNilD))) (xVar 7))))
    (xPutD (xC (.bl true)) (xVar 2) (xDef f_law_letter (xConsD (xBin pIx (xVar 3) (xC (.int 0))) (xConsD (xBin pIx (xVar 3) (xC (.int 2))) xNilD))))
    xPass) (env03 ns none s t u) [C, .dct false false (kvL [])] = some (.nx (env03 ns y3 s t u), [C, .dct false false (kvL L)]) ∧ L.Nodup ∧ L.length ≤ 13 ∧ ∀ c, c ∈ L ↔ c ∈ dueIn (lawForms 3) s t := by
  have hi : xItA (xDef f_law_forms (xConsD (xC (.int 3)) xNilD)) (env03 ns none s t u) [C, .dct false false (kvL [])] = some ((lawForms 3).map scP, none, [C, .dct false false (kvL [])]) :=
    itA_frl (def_p (argD_p rfl rfl) (law_forms_ok 3 (by decide) _))
  obtain ⟨ρ', S', e, y3, L, rfl, rfl, h1, h2, h3⟩ := for_keep (t := .nm 3) (b := (xIfS (xTand (xB (xBin pIn (xDef f_law_letter (xConsD (xBin pIx (xVar 3) (xC (.int 0))) (xConsD (xBin pIx (xVar 3) (xC (.int 1))) xNilD))) (xVar 6))) (xB (xBin pIn (xDef f_law_letter (xConsD (xBin pIx (xVar 3) (xC (.int 1))) (xConsD (xBin pIx (xVar 3) (xC (.int 2))) xNilD))) (xVar 7))))
    (xPutD (xC (.bl true)) (xVar 2) (xDef f_law_letter (xConsD (xBin pIx (xVar 3) (xC (.int 0))) (xConsD (xBin pIx (xVar 3) (xC (.int 2))) xNilD))))
    xPass)) hi (fun i ρ S => ∃ (y3 : Option P) (L : List Nat), ρ = env03 ns y3 s t u ∧ S = [C, .dct false false (kvL L)] ∧ L.Nodup ∧ (∀ c ∈ L, c ∈ c_LETTERS) ∧ ∀ c, c ∈ L ↔ c ∈ dueIn ((lawForms 3).take i) s t)
    ⟨none, [], rfl, rfl, List.nodup_nil, by simp, by simp [dueIn]⟩
    (fun i d ρ S hd hI => by
      obtain ⟨y3, L, rfl, rfl, h1, h2, h3⟩ := hI
      obtain ⟨f, hf, rfl⟩ := getMap hd
      have tk : (lawForms 3).take (i + 1) = (lawForms 3).take i ++ [f] := by rw [List.take_add_one, hf]; rfl
      obtain ⟨hl, _, hv⟩ := lawForms_in (List.mem_of_getElem? hf)
      match f, hl with
      | [x, y, z], _ =>
      have hx := (hv x (by simp)).2.1
      have hy := (hv y (by simp)).2.1
      have hz := (hv z (by simp)).2.1
      have q1 := fun S => law_letter_ok x y hx hy S
      have q2 := fun S => law_letter_ok y z hy hz S
      have q3 := fun S => law_letter_ok x z hx hz S
      have sc3 : scP [x, y, z] = .tup [pr x, pr y, pr z] := rfl
      have hb := sub_len h1 h2
      by_cases c1 : lc1 x y ∈ s ∧ lc1 y z ∈ t
      · refine ⟨_, env03 ns (some (scP [x, y, z])) s t u, [C, .dct false false (kvL (insL L (lc1 x z)))], rfl, ?_, by simp, some (scP [x, y, z]), insL L (lc1 x z), rfl, rfl, nodup_insL h1, ?_, ?_⟩
        · rw [ifS_t (S' := [C, .dct false false (kvL L)])]
          · have hb2 : (kvL L).length < 1000000 := by unfold kvL; rw [List.length_map]; omega
            simp [xPutD, env03, sc3, q3, letter_lc1, keyOkP, hb2, ← put_kvL, st1]
          · simp [env03, sc3, q1, q2, letter_lc1, pIn, c1.1, c1.2]
        · intro c hc
          rcases mem_insL.mp hc with q | q
          · exact h2 c q
          · subst q; exact lc1_letter x z
        · intro c
          rw [mem_insL, h3, tk]
          simp [dueIn, List.filter_append, c1.1, c1.2]
      · refine ⟨_, env03 ns (some (scP [x, y, z])) s t u, [C, .dct false false (kvL L)], rfl, ?_, by simp, some (scP [x, y, z]), L, rfl, rfl, h1, h2, ?_⟩
        · refine if_no ?_
          by_cases c2 : lc1 x y ∈ s
          · have c3 : lc1 y z ∉ t := fun q => c1 ⟨c2, q⟩
            simp [env03, sc3, q1, q2, letter_lc1, pIn, c2, c3]
          · simp [env03, sc3, q1, q2, letter_lc1, pIn, c2]
        · intro c
          rw [h3, tk]
          have : (decide (lc1 x y ∈ s) && decide (lc1 y z ∈ t)) = false := by
            rw [Bool.and_eq_false_iff]; simp only [decide_eq_false_iff_not]
            by_cases c2 : lc1 x y ∈ s
            · exact .inr fun q => c1 ⟨c2, q⟩
            · exact .inl c2
          simp [dueIn, List.filter_append, this])
  rw [List.length_map, List.take_length] at h3
  exact ⟨y3, L, e, h1, sub_len h1 h2, h3⟩
theorem ne_ways {s t : List Nat} (hs : IsWays s) (ht : IsWays t) : pNe (.str s) (.str t) = some (.p (.bl (!decide (s = t)))) := ne_str hs.small ht.small
theorem eq_ways {s t : List Nat} (hs : IsWays s) (ht : IsWays t) : pEq (.str s) (.str t) = some (.p (.bl (decide (s = t)))) := eq_str hs.small ht.small
/-- sorted(set(list(s + t))) as a text -/
theorem join_union {a : XE} {ρ : Env} {S : Sto} {l : List Nat} (hl : ∀ c ∈ l, c ∈ c_LETTERS) (hn : l.length ≤ 1000) (ha : a ρ S = some (.p (.str l), S)) :
    xMeth .str mJoin (xC (.str [])) (xCons (xUn uSortedSet (xCall cListA (xCons a xNil))) xNil) ρ S = some (.p (.str (waysL l)), S) := by
  have h1 : cListA [.str l] = some (.frl (l.map st1)) := by
    have : l.length ≤ big := by rw [big_is]; omega
    simp only [cListA]; rw [if_pos this]; rfl
  have h2 := sortedSet_st hl (by omega)
  have h3 := mjoin_st (l := waysL l) (Nat.le_trans (waysL_len l) (by decide))
  simp only [e_Meth, e_C, Option.bind_some, rd_p, isTy, if_true, e_Cons, e_Un, e_Call, ha, e_Nil, Option.map_some, rds_cons, rds_nil, h1, rd_frl, h2, h3]
theorem law_is_k03 (ns : List Int) (hl : ns.length ≤ 63) : ∃ S, f_law_k03 [.p (.lst (ns.map P.int))] [] = some (.p (.bl true), S) := by
  refine yes_law rfl ?_
  show Yes b_law_k03 [some (scr ns), none, none, none, none, none, none, none, none, none] []
  unfold b_law_k03
  refine yes_setl (def_p (argD_p rfl rfl) (law_town_ok hl _)) ?_
  dsimp only [List.set, List.length, List.nil_append, List.append_eq]
  -- three ways
  obtain ⟨s, C1, e1, hs, hT1⟩ := some_tw (tw_new (ns := ns)) (by omega) []
  obtain ⟨t, C2, e2, ht, hT2⟩ := some_tw hT1 (by omega) []
  obtain ⟨u, C3, e3, hu, hT3⟩ := some_tw hT2 (by omega) []
  have k1 : xUnpL [6, 7, 8] (xLc (xRng1 (xC (.int 3))) (.nm 9) xTyes (xDef f_law_some (xConsD (xVar 0) (xConsD (xVar 1) xNilD))) [9]) [some (scr ns), some (.ref 0), none, none, none, none, none, none, none, none] [.lst (.int 0 :: ns.map P.int)] =
      some (.nx [some (scr ns), some (.ref 0), none, none, none, none, some (.p (.str s)), some (.p (.str t)), some (.p (.str u)), none], [C3]) := by
    have q : xLc (xRng1 (xC (.int 3))) (.nm 9) xTyes (xDef f_law_some (xConsD (xVar 0) (xConsD (xVar 1) xNilD))) [9] [some (scr ns), some (.ref 0), none, none, none, none, none, none, none, none] [.lst (.int 0 :: ns.map P.int)] = some (.frl [.str s, .str t, .str u], [C3]) := by
      simp [xLc, xRng1, intsFrom, lcGo, wipeE, e1, e2, e3, cellOk]
    simp [xUnpL, q, setAll]
  refine yes_nx k1 ?_
  refine yes_setd rfl ?_
  dsimp only [List.set, List.length, List.nil_append, List.append_eq, List.cons_append]
  obtain ⟨y3, L, e4, hL1, hL2, hL3⟩ := due_loop (ns := ns) (s := s) (t := t) (u := u) (C := C3) hs ht
  refine yes_nx e4 ?_
  have hst := comp_ways hs ht
  refine yes_set (d := .str (comp s t)) (S1 := [C3, .dct false false (kvL L)]) (def_p (argD_p rfl (argD_p rfl rfl)) (composed_ok hs ht _)) ?_
  unfold env03
  dsimp only [List.set]
  generalize hρ : [some (scr ns), some (.ref 0), some (.ref 1), op y3, some (.p (.str (comp s t))), none, some (.p (.str s)), some (.p (.str t)), some (.p (.str u)), none] = ρ
  have v2 : xVar 2 ρ [C3, .dct false false (kvL L)] = some (.ref 1, [C3, .dct false false (kvL L)]) := by subst hρ; rfl
  have v4 : ∀ S, xVar 4 ρ S = some (.p (.str (comp s t)), S) := by subst hρ; intro S; rfl
  have v6 : ∀ S, xVar 6 ρ S = some (.p (.str s), S) := by subst hρ; intro S; rfl
  have v7 : ∀ S, xVar 7 ρ S = some (.p (.str t), S) := by subst hρ; intro S; rfl
  have v8 : ∀ S, xVar 8 ρ S = some (.p (.str u), S) := by subst hρ; intro S; rfl
  have dj : xMeth .str mJoin (xC (.str [])) (xCons (xSortedD (xVar 2)) xNil) ρ [C3, .dct false false (kvL L)] = some (.p (.str (comp s t)), [C3, .dct false false (kvL L)]) := by
    have q2 := sortedD_kvL (L := L) (a := xVar 2) hL2 v2 rfl
    have q3 := mjoin_st (l := sortN L) (by rw [sortN_len]; omega)
    rw [due_comp hs ht hL1 hL3] at q2 q3
    simp only [e_Meth, e_C, Option.bind_some, rd_p, isTy, if_true, e_Cons, q2, e_Nil, Option.map_some, rds_cons, rds_nil, rd_frl, q3]
  generalize hS : [C3, Cell.dct false false (kvL L)] = S at dj v2 ⊢
  -- found
  refine yes_no (S1 := S) (tor_f (S1 := S) (B_of (by rw [bin_p (v4 S) dj, ne_ways hst hst]; simp)) (B_of (by
    rw [bin_p (def_p (argD_p (v4 S) rfl) (is_ways_str hst.small S)) rfl]; simp [pIsNot, hst]))) ?_
  have he : IsWays [101] := by decide
  refine yes_no (S1 := S) (tor_f (S1 := S) (B_of (by
    rw [bin_p (def_p (argD_p (v6 S) (argD_p rfl rfl)) (composed_ok hs he S)) (v6 S), (comp_e hs).1, ne_ways hs hs]; simp)) (B_of (by
    rw [bin_p (def_p (argD_p rfl (argD_p (v6 S) rfl)) (composed_ok he hs S)) (v6 S), (comp_e hs).2, ne_ways hs hs]; simp))) ?_
  have hcs := conv_ways hs
  have hct := conv_ways ht
  have hcc := conv_ways hst
  refine yes_no (S1 := S) (tor_f (S1 := S) (B_of (by
    rw [bin_p (def_p (argD_p (v4 S) rfl) (converse_ok hst S)) (def_p (argD_p (def_p (argD_p (v7 S) rfl) (converse_ok ht S)) (argD_p (def_p (argD_p (v6 S) rfl) (converse_ok hs S)) rfl)) (composed_ok hct hcs S)), ← conv_comp hs ht, ne_ways hcc hcc]; simp)) (B_of (by
    rw [bin_p (def_p (argD_p (def_p (argD_p (v6 S) rfl) (converse_ok hs S)) rfl) (converse_ok hcs S)) (v6 S), conv2 hs, ne_ways hs hs]; simp))) ?_
  have htu := comp_ways ht hu
  have hstu := comp_ways hst hu
  refine yes_no (S1 := S) (B_of (by
    rw [bin_p (def_p (argD_p (def_p (argD_p (v6 S) (argD_p (v7 S) rfl)) (composed_ok hs ht S)) (argD_p (v8 S) rfl)) (composed_ok hst hu S)) (def_p (argD_p (v6 S) (argD_p (def_p (argD_p (v7 S) (argD_p (v8 S) rfl)) (composed_ok ht hu S)) rfl)) (composed_ok hs htu S)), ← comp_assoc hs ht hu, ne_ways hstu hstu]; simp)) ?_
  -- both
  have hsu : ∀ c ∈ s ++ u, c ∈ c_LETTERS := fun c hc => by
    rcases List.mem_append.mp hc with q | q
    · exact hs.mem q
    · exact hu.mem q
  have hut := comp_ways hu ht
  have hfu : ∀ c ∈ comp s t ++ comp u t, c ∈ c_LETTERS := fun c hc => by
    rcases List.mem_append.mp hc with q | q
    · exact hst.mem q
    · exact hut.mem q
  have lsu : (s ++ u).length ≤ 1000 := by rw [List.length_append]; have := hs.len; have := hu.len; omega
  have lfu : (comp s t ++ comp u t).length ≤ 1000 := by rw [List.length_append]; have := hst.len; have := hut.len; omega
  have add_str : ∀ (a b : List Nat), (a ++ b).length ≤ 1000 → pAdd (.str a) (.str b) = some (.p (.str (a ++ b))) := fun a b h => by
    rw [List.length_append] at h
    exact if_pos (show a.length + b.length ≤ 1000000 by omega)
  have hboth := waysL_ways hsu (by intro q; exact hs.1 (List.append_eq_nil_iff.mp q).1)
  have hdue := waysL_ways hfu (by intro q; exact hst.1 (List.append_eq_nil_iff.mp q).1)
  refine yes_set (d := .str (waysL (s ++ u))) (S1 := S) (join_union hsu lsu (by rw [bin_p (v6 S) (v8 S), add_str _ _ lsu]; rfl)) ?_
  have w4 : xVar 4 (ρ.set 5 (some (.p (.str (waysL (s ++ u)))))) S = some (.p (.str (comp s t)), S) := by subst hρ; rfl
  have w7 : ∀ S, xVar 7 (ρ.set 5 (some (.p (.str (waysL (s ++ u)))))) S = some (.p (.str t), S) := by subst hρ; intro S; rfl
  have w8 : ∀ S, xVar 8 (ρ.set 5 (some (.p (.str (waysL (s ++ u)))))) S = some (.p (.str u), S) := by subst hρ; intro S; rfl
  refine yes_set (d := .str (waysL (comp s t ++ comp u t))) (S1 := S) (join_union hfu lfu (by rw [bin_p w4 (def_p (argD_p (w8 S) (argD_p (w7 S) rfl)) (composed_ok hu ht S)), add_str _ _ lfu]; rfl)) ?_
  generalize hρ2 : (ρ.set 5 (some (D.p (.str (waysL (s ++ u)))))).set 2 (some (.p (.str (waysL (comp s t ++ comp u t))))) = ρ2
  have z2 : ∀ S, xVar 2 ρ2 S = some (.p (.str (waysL (comp s t ++ comp u t))), S) := by subst hρ2; subst hρ; intro S; rfl
  have z5 : ∀ S, xVar 5 ρ2 S = some (.p (.str (waysL (s ++ u))), S) := by subst hρ2; subst hρ; intro S; rfl
  have z6 : ∀ S, xVar 6 ρ2 S = some (.p (.str s), S) := by subst hρ2; subst hρ; intro S; rfl
  have z7 : ∀ S, xVar 7 ρ2 S = some (.p (.str t), S) := by subst hρ2; subst hρ; intro S; rfl
  refine yes_no (S1 := S) (tor_f (S1 := S) (B_of (by
    rw [bin_p (def_p (argD_p (z5 S) (argD_p (z7 S) rfl)) (composed_ok hboth ht S)) (z2 S), comp_union hs hu ht, ne_ways hdue hdue]; simp)) (B_of (by
    rw [bin_p rfl (def_p (argD_p (z6 S) (argD_p (def_p (argD_p (z6 S) rfl) (converse_ok hs S)) rfl)) (composed_ok hs hcs S))]
    simp [pNotIn, e_in_comp hs]))) ?_
  have i1 : IsWays [98] := by decide
  have i2 : IsWays [66] := by decide
  have i3 : IsWays [109] := by decide
  have i4 : IsWays [77] := by decide
  have i5 : IsWays [100] := by decide
  have i6 : IsWays c_LETTERS := by decide
  have i7 : IsWays [70, 101, 102] := by decide
  refine yes_ret (S1 := S) ?_
  have r1 : xBin pEq (xDef f_composed (xConsD (xC (.str [98])) (xConsD (xC (.str [66])) xNilD))) (xC (.str [66, 68, 70, 77, 79, 83, 98, 100, 101, 102, 109, 111, 115])) ρ2 S = some (.p (.bl true), S) := by
    rw [bin_p (def_p (argD_p rfl (argD_p rfl rfl)) (composed_ok i1 i2 S)) rfl, comp_bB.1]
    show (pEq (.str c_LETTERS) (.str c_LETTERS)).map _ = _
    rw [eq_ways i6 i6]; simp
  have r2 : xBin pEq (xDef f_composed (xConsD (xC (.str [109])) (xConsD (xC (.str [77])) xNilD))) (xC (.str [70, 101, 102])) ρ2 S = some (.p (.bl true), S) := by
    rw [bin_p (def_p (argD_p rfl (argD_p rfl rfl)) (composed_ok i3 i4 S)) rfl, comp_bB.2.1, eq_ways i7 i7]; simp
  have r3 : xBin pEq (xDef f_composed (xConsD (xC (.str [100])) (xConsD (xC (.str [100])) xNilD))) (xC (.str [100])) ρ2 S = some (.p (.bl true), S) := by
    rw [bin_p (def_p (argD_p rfl (argD_p rfl rfl)) (composed_ok i5 i5 S)) rfl, comp_bB.2.2, eq_ways i5 i5]; simp
  simp only [e_And, r1, r2, r3, Option.bind_some]
end XL
end
open PySem PySem.W PyProof.Rows in
set_option maxRecDepth 100000 in
set_option maxHeartbeats 0 in
theorem PySem.Challenge.cw_spansure_k03_whole_compositions_holds : PySem.Challenge.rw_spansure_k03_whole_compositions.Holds := by
  w_on; o_law; k_head; (case hw => w_witness2)
  k_fill
  refine XL.law_walk (l := PySem.Challenge.rw_spansure_k03_whole_compositions) (k := 4) (n := 63) (f := XL.f_law_k03) rfl (by decide) rfl ⟨rfl, by decide, by decide⟩ (fun w h Y => PySem.W.kIn_of Y) (fun P => ?L) ?F (fun ns hl => XL.law_is_k03 ns hl)
  case L => (first | rfl | kernel_rfl | decide +kernel)
  case F =>
    intro w mg fa h KX G hmg
    refine' K03.fin KX hmg rfl ?T ?F0 ?F1 ?F2 ?F3 ?F4 ?F5 ?F6 ?F7 ?F8 ?F9 ?F10 ?F11 ?F12 ?F13
    case T =>
      constructor
      · refine' PySem.W.mg_none_of KX G ?_
        k_is
      · refine' PySem.W.mg_none_of KX G ?_
        k_is
      · refine' PySem.W.mg_none_of KX G ?_
        k_is
      · refine' PySem.W.mg_none_of KX G ?_
        k_is
      · refine' PySem.W.mg_none_of KX G ?_
        k_is
      · refine' PySem.W.mg_none_of KX G ?_
        k_is
      · refine' PySem.W.mg_none_of KX G ?_
        k_is
      · refine' PySem.W.mg_none_of KX G ?_
        k_is
      · refine' PySem.W.mg_none_of KX G ?_
        k_is
      · refine' XL.str_at KX G ?a ?e
        (case a => k_is)
        (case e => rfl)
      · refine' XL.tab_at KX G ?a ?l ?kl ?lo ?te
        (case a => k_is)
        (case l => k_is)
        (case kl => exact ⟨⟨_, _, rfl, rfl⟩, ⟨⟨_, _, rfl, rfl⟩, ⟨⟨_, _, rfl, rfl⟩, ⟨⟨_, _, rfl, rfl⟩, ⟨⟨_, _, rfl, rfl⟩, ⟨⟨_, _, rfl, rfl⟩, ⟨⟨_, _, rfl, rfl⟩, trivial⟩⟩⟩⟩⟩⟩⟩)
        (case lo => rfl)
        (case te => exact ⟨_, _, _, rfl, ⟨_, _, rfl, rfl⟩, (XL.KRep.str rfl), ⟨_, _, _, rfl, ⟨_, _, rfl, rfl⟩, (XL.KRep.str rfl), ⟨_, _, _, rfl, ⟨_, _, rfl, rfl⟩, (XL.KRep.str rfl), ⟨_, _, _, rfl, ⟨_, _, rfl, rfl⟩, (XL.KRep.str rfl), ⟨_, _, _, rfl, ⟨_, _, rfl, rfl⟩, (XL.KRep.str rfl), ⟨_, _, _, rfl, ⟨_, _, rfl, rfl⟩, (XL.KRep.str rfl), ⟨_, _, _, rfl, ⟨_, _, rfl, rfl⟩, (XL.KRep.str rfl), rfl⟩⟩⟩⟩⟩⟩⟩)
      · refine' XL.tab_at KX G ?a ?l ?kl ?lo ?te
        (case a => k_is)
        (case l => k_is)
        (case kl => exact ⟨⟨_, _, rfl, rfl⟩, ⟨⟨_, _, rfl, rfl⟩, ⟨⟨_, _, rfl, rfl⟩, ⟨⟨_, _, rfl, rfl⟩, ⟨⟨_, _, rfl, rfl⟩, ⟨⟨_, _, rfl, rfl⟩, ⟨⟨_, _, rfl, rfl⟩, ⟨⟨_, _, rfl, rfl⟩, ⟨⟨_, _, rfl, rfl⟩, ⟨⟨_, _, rfl, rfl⟩, ⟨⟨_, _, rfl, rfl⟩, ⟨⟨_, _, rfl, rfl⟩, ⟨⟨_, _, rfl, rfl⟩, trivial⟩⟩⟩⟩⟩⟩⟩⟩⟩⟩⟩⟩⟩)
        (case lo => rfl)
        (case te => exact ⟨_, _, _, rfl, ⟨_, _, rfl, rfl⟩, (XL.KRep.str rfl), ⟨_, _, _, rfl, ⟨_, _, rfl, rfl⟩, (XL.KRep.str rfl), ⟨_, _, _, rfl, ⟨_, _, rfl, rfl⟩, (XL.KRep.str rfl), ⟨_, _, _, rfl, ⟨_, _, rfl, rfl⟩, (XL.KRep.str rfl), ⟨_, _, _, rfl, ⟨_, _, rfl, rfl⟩, (XL.KRep.str rfl), ⟨_, _, _, rfl, ⟨_, _, rfl, rfl⟩, (XL.KRep.str rfl), ⟨_, _, _, rfl, ⟨_, _, rfl, rfl⟩, (XL.KRep.str rfl), ⟨_, _, _, rfl, ⟨_, _, rfl, rfl⟩, (XL.KRep.str rfl), ⟨_, _, _, rfl, ⟨_, _, rfl, rfl⟩, (XL.KRep.str rfl), ⟨_, _, _, rfl, ⟨_, _, rfl, rfl⟩, (XL.KRep.str rfl), ⟨_, _, _, rfl, ⟨_, _, rfl, rfl⟩, (XL.KRep.str rfl), ⟨_, _, _, rfl, ⟨_, _, rfl, rfl⟩, (XL.KRep.str rfl), ⟨_, _, _, rfl, ⟨_, _, rfl, rfl⟩, (XL.KRep.str rfl), rfl⟩⟩⟩⟩⟩⟩⟩⟩⟩⟩⟩⟩⟩)
    case F0 =>
      refine' XL.fun_at KX G ?a ?l ?c ?k (fun us hl => match us, hl with | [_], _ => rfl)
      (case a => k_is)
      (case l => k_is)
      (case c => k_is)
      (case k => k_is)
    case F1 =>
      refine' XL.fun_at KX G ?a ?l ?c ?k (fun us hl => match us, hl with | [_], _ => rfl)
      (case a => k_is)
      (case l => k_is)
      (case c => k_is)
      (case k => k_is)
    case F2 =>
      refine' XL.fun_at KX G ?a ?l ?c ?k (fun us hl => match us, hl with | [_], _ => rfl)
      (case a => k_is)
      (case l => k_is)
      (case c => k_is)
      (case k => k_is)
    case F3 =>
      refine' XL.fun_at KX G ?a ?l ?c ?k (fun us hl => match us, hl with | [_], _ => rfl)
      (case a => k_is)
      (case l => k_is)
      (case c => k_is)
      (case k => k_is)
    case F4 =>
      refine' XL.fun_at KX G ?a ?l ?c ?k (fun us hl => match us, hl with | [_], _ => rfl)
      (case a => k_is)
      (case l => k_is)
      (case c => k_is)
      (case k => k_is)
    case F5 =>
      refine' XL.fun_at KX G ?a ?l ?c ?k (fun us hl => match us, hl with | [_, _], _ => rfl)
      (case a => k_is)
      (case l => k_is)
      (case c => k_is)
      (case k => k_is)
    case F6 =>
      refine' XL.fun_at KX G ?a ?l ?c ?k (fun us hl => match us, hl with | [_, _], _ => rfl)
      (case a => k_is)
      (case l => k_is)
      (case c => k_is)
      (case k => k_is)
    case F7 =>
      refine' XL.fun_at KX G ?a ?l ?c ?k (fun us hl => match us, hl with | [_, _, _], _ => rfl)
      (case a => k_is)
      (case l => k_is)
      (case c => k_is)
      (case k => k_is)
    case F8 =>
      refine' XL.fun_at KX G ?a ?l ?c ?k (fun us hl => match us, hl with | [_, _, _], _ => rfl)
      (case a => k_is)
      (case l => k_is)
      (case c => k_is)
      (case k => k_is)
    case F9 =>
      refine' XL.fun_at KX G ?a ?l ?c ?k (fun us hl => match us, hl with | [_, _], _ => rfl)
      (case a => k_is)
      (case l => k_is)
      (case c => k_is)
      (case k => k_is)
    case F10 =>
      refine' XL.fun_at KX G ?a ?l ?c ?k (fun us hl => match us, hl with | [_], _ => rfl)
      (case a => k_is)
      (case l => k_is)
      (case c => k_is)
      (case k => k_is)
    case F11 =>
      refine' XL.fun_at KX G ?a ?l ?c ?k (fun us hl => match us, hl with | [_], _ => rfl)
      (case a => k_is)
      (case l => k_is)
      (case c => k_is)
      (case k => k_is)
    case F12 =>
      refine' XL.fun_at KX G ?a ?l ?c ?k (fun us hl => match us, hl with | [_, _], _ => rfl)
      (case a => k_is)
      (case l => k_is)
      (case c => k_is)
      (case k => k_is)
    case F13 =>
      refine' XL.fun_at KX G ?a ?l ?c ?k (fun us hl => match us, hl with | [_], _ => rfl)
      (case a => k_is)
      (case l => k_is)
      (case c => k_is)
      (case k => k_is)
