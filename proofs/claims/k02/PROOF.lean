import PyProof.Rows.All
import Wide.All
import OpenK.AllK
import Wide.FinOn
import HandS.ForMost
import HandS.TupAny
import HandS.TupMul
import HandS.TupLe
import HandS.IsInst
import HandS.Deep
import HandS.More
import HandS.Style
import KE.SortData
import KE.DataCmp
import HandS.Strs
import HandS.SetFor
import HandS.TupSets
import HandS.StrMore
import HandS.Conv
import PySem.Challenge.RW_spansure_k02_whole_ways
set_option Elab.async false
set_option linter.all false
set_option maxRecDepth 100000
section
set_option autoImplicit false
set_option linter.all false
namespace XL
/-- plain data: None, truths, ints, texts (their codes), tuples, lists that nobody changes -/
inductive P where
  | non
  | bl (b : Bool)
  | int (i : Int)
  | str (s : List Nat)
  | tup (ds : List P)
  | lst (ds : List P)
mutual
def P.beq : P → P → Bool
  | .non, .non => true
  | .bl a, .bl b => a == b
  | .int i, .int j => decide (i = j)
  | .str s, .str t => decide (s = t)
  | .tup xs, .tup ys => P.beqs xs ys
  | .lst xs, .lst ys => P.beqs xs ys
  | _, _ => false
def P.beqs : List P → List P → Bool
  | [], [] => true
  | x :: xs, y :: ys => P.beq x y && P.beqs xs ys
  | _, _ => false
end
mutual
theorem P.beq_eq : ∀ (a b : P), P.beq a b = true → a = b
  | .non, b, h => by cases b <;> simp_all [P.beq]
  | .bl x, b, h => by cases b <;> simp_all [P.beq]
  | .int x, b, h => by cases b <;> simp_all [P.beq]
  | .str x, b, h => by cases b <;> simp_all [P.beq]
  | .tup xs, b, h => by
    cases b <;> simp [P.beq] at h
    rename_i ys
    rw [P.beqs_eq xs ys h]
  | .lst xs, b, h => by
    cases b <;> simp [P.beq] at h
    rename_i ys
    rw [P.beqs_eq xs ys h]
theorem P.beqs_eq : ∀ (a b : List P), P.beqs a b = true → a = b
  | [], b, h => by cases b <;> simp_all [P.beqs]
  | x :: xs, b, h => by
    cases b with
    | nil => simp [P.beqs] at h
    | cons y ys =>
      simp [P.beqs] at h
      rw [P.beq_eq x y h.1, P.beqs_eq xs ys h.2]
end
mutual
theorem P.beq_refl : ∀ (a : P), P.beq a a = true
  | .non => by simp [P.beq]
  | .bl x => by simp [P.beq]
  | .int x => by simp [P.beq]
  | .str x => by simp [P.beq]
  | .tup xs => by simp [P.beq, P.beqs_refl xs]
  | .lst xs => by simp [P.beq, P.beqs_refl xs]
theorem P.beqs_refl : ∀ (a : List P), P.beqs a a = true
  | [] => by simp [P.beqs]
  | x :: xs => by simp [P.beqs, P.beq_refl x, P.beqs_refl xs]
end
instance : DecidableEq P := fun a b => if h : P.beq a b = true then .isTrue (P.beq_eq a b h) else .isFalse fun e => h (e ▸ P.beq_refl a)

/-- depth at most n, codes of texts in range -/
def P.fit : Nat → P → Bool
  | _, .non => true
  | _, .bl _ => true
  | _, .int _ => true
  | _, .str s => s.all fun c => decide (c < 1114112)
  | 0, .tup _ => false
  | n + 1, .tup ds => ds.all (P.fit n)
  | 0, .lst _ => false
  | n + 1, .lst ds => ds.all (P.fit n)

/-! Python: a == b -/
mutual
def P.pyeq : P → P → Bool
  | .non, .non => true
  | .bl a, .bl b => a == b
  | .bl a, .int j => decide ((if a then 1 else 0) = j)
  | .int i, .bl b => decide (i = (if b then 1 else 0))
  | .int i, .int j => decide (i = j)
  | .str s, .str t => decide (s = t)
  | .tup xs, .tup ys => P.pyeqs xs ys
  | .lst xs, .lst ys => P.pyeqs xs ys
  | _, _ => false
def P.pyeqs : List P → List P → Bool
  | [], [] => true
  | x :: xs, y :: ys => P.pyeq x y && P.pyeqs xs ys
  | _, _ => false
end

/-- what a variable holds -/
inductive D where
  | p (d : P)
  | ref (l : Nat)
deriving DecidableEq
/-- what stands in a cell -/
inductive Cell where
  | lst (ds : List P)
  | dct (locked : Bool) (kvs : List (P × P))
deriving DecidableEq
/-- what an expression gives: data, a cell, a new list, a new dict -/
inductive R where
  | p (d : P)
  | ref (l : Nat)
  | frl (ds : List P)
  | frd (kvs : List (P × P))
deriving DecidableEq
abbrev Env := List (Option D)
abbrev Sto := List Cell
abbrev XE := Env → Sto → Option (R × Sto)
abbrev XT := Env → Sto → Option (Bool × Sto)
abbrev XA := Env → Sto → Option (List R × Sto)
abbrev XI := Env → Sto → Option (List P × Option Nat × Sto)
abbrev XF := List D → Sto → Option (R × Sto)
inductive Fl where
  | nx (ρ : Env)
  | rt (r : R)
  | bk (ρ : Env)
  | ct (ρ : Env)
abbrev XS := Env → Sto → Option (Fl × Sto)

/-- what is read now -/
def R.rd (S : Sto) : R → Option P
  | .p d => some d
  | .ref l => match S[l]? with
    | some (.lst ds) => some (.lst ds)
    | _ => none
  | .frl ds => some (.lst ds)
  | .frd _ => none
/-- what may be put into a tuple or list -/
def R.fz : R → Option P
  | .p d => some d
  | .frl ds => some (.lst ds)
  | _ => none
/-- the most items of a list -/
abbrev big : Nat := 1000000

/-! ### expressions -/
def xVar (i : Nat) : XE := fun ρ S => match ρ[i]? with
  | some (some (.p d)) => some (.p d, S)
  | some (some (.ref l)) => some (.ref l, S)
  | _ => none
def xC (d : P) : XE := fun _ S => some (.p d, S)
def xBin (f : P → P → Option R) (a b : XE) : XE := fun ρ S =>
  (a ρ S).bind fun x => (b ρ x.2).bind fun y => (x.1.rd y.2).bind fun p => (y.1.rd y.2).bind fun q => (f p q).map fun r => (r, y.2)
def xUn (f : P → Option R) (a : XE) : XE := fun ρ S => (a ρ S).bind fun x => (x.1.rd x.2).bind fun p => (f p).map fun r => (r, x.2)
/-- a op b op' c, b once -/
def xChain (f g : P → P → Option R) (a b c : XE) : XE := fun ρ S =>
  (a ρ S).bind fun x => (b ρ x.2).bind fun y => (x.1.rd y.2).bind fun p => (y.1.rd y.2).bind fun q => (f p q).bind fun r => match r with
    | .p (.bl true) => (c ρ y.2).bind fun z => (y.1.rd z.2).bind fun q => (z.1.rd z.2).bind fun w => (g q w).map fun r => (r, z.2)
    | .p (.bl false) => some (.p (.bl false), y.2)
    | _ => none
def xAnd (a b : XE) : XE := fun ρ S => (a ρ S).bind fun x => match x.1 with
  | .p (.bl true) => b ρ x.2
  | .p (.bl false) => some (.p (.bl false), x.2)
  | _ => none
def xOr (a b : XE) : XE := fun ρ S => (a ρ S).bind fun x => match x.1 with
  | .p (.bl true) => some (.p (.bl true), x.2)
  | .p (.bl false) => b ρ x.2
  | _ => none
def xNot (a : XE) : XE := fun ρ S => (a ρ S).bind fun x => match x.1 with
  | .p (.bl c) => some (.p (.bl (!c)), x.2)
  | _ => none
def xIf (t : XT) (a b : XE) : XE := fun ρ S => (t ρ S).bind fun x => if x.1 then a ρ x.2 else b ρ x.2
/-- tests -/
def xB (a : XE) : XT := fun ρ S => (a ρ S).bind fun x => match x.1 with
  | .p (.bl c) => some (c, x.2)
  | _ => none
def xTand (a b : XT) : XT := fun ρ S => (a ρ S).bind fun x => if x.1 then b ρ x.2 else some (false, x.2)
def xTor (a b : XT) : XT := fun ρ S => (a ρ S).bind fun x => if x.1 then some (true, x.2) else b ρ x.2
def xTnot (a : XT) : XT := fun ρ S => (a ρ S).map fun x => (!x.1, x.2)
def xTyes : XT := fun _ S => some (true, S)
/-- arguments from the left -/
def xNil : XA := fun _ S => some ([], S)
def xCons (a : XE) (r : XA) : XA := fun ρ S => (a ρ S).bind fun x => (r ρ x.2).map fun y => (x.1 :: y.1, y.2)
def fzs : List R → Option (List P)
  | [] => some []
  | r :: rs => (r.fz).bind fun d => (fzs rs).map fun ds => d :: ds
def rds (S : Sto) : List R → Option (List P)
  | [] => some []
  | r :: rs => (r.rd S).bind fun d => (rds S rs).map fun ds => d :: ds
def xTup (a : XA) : XE := fun ρ S => (a ρ S).bind fun x => (fzs x.1).bind fun ds => if ds.length ≤ big then some (.p (.tup ds), x.2) else none
def xLst (a : XA) : XE := fun ρ S => (a ρ S).bind fun x => (fzs x.1).bind fun ds => if ds.length ≤ big then some (.frl ds, x.2) else none
/-- a built-in by values that are read -/
def xCall (f : List P → Option R) (a : XA) : XE := fun ρ S => (a ρ S).bind fun x => (rds x.2 x.1).bind fun ds => (f ds).map fun r => (r, x.2)
/-- a new thing becomes a cell -/
def R.box (S : Sto) : R → D × Sto
  | .p d => (.p d, S)
  | .ref l => (.ref l, S)
  | .frl ds => (.ref S.length, S ++ [.lst ds])
  | .frd kvs => (.ref S.length, S ++ [.dct false kvs])
/-- what is handed to a def: a new list as data, a new dict as a cell -/
def R.arg (S : Sto) : R → D × Sto
  | .frl ds => (.p (.lst ds), S)
  | r => r.box S
abbrev XD := Env → Sto → Option (List D × Sto)
def xNilD : XD := fun _ S => some ([], S)
def xConsB (a : XE) (r : XD) : XD := fun ρ S => (a ρ S).bind fun x => (r ρ (x.1.box x.2).2).map fun y => ((x.1.box x.2).1 :: y.1, y.2)
def xConsD (a : XE) (r : XD) : XD := fun ρ S => (a ρ S).bind fun x => (r ρ (x.1.arg x.2).2).map fun y => ((x.1.arg x.2).1 :: y.1, y.2)
def xDef (f : XF) (a : XD) : XE := fun ρ S => (a ρ S).bind fun x => f x.1 x.2

/-! ### statements -/
/-- x = r -/
def xSet (i : Nat) (a : XE) : XS := fun ρ S => (a ρ S).map fun x => (.nx (ρ.set i (some (x.1.box x.2).1)), (x.1.box x.2).2)
/-- names of a target: one, or a flat tuple -/
inductive Tg where
  | nm (i : Nat)
  | tp (is : List Nat)
def setAll : List Nat → List P → Env → Option Env
  | [], [], ρ => some ρ
  | i :: is, d :: ds, ρ => setAll is ds (ρ.set i (some (.p d)))
  | _, _, _ => none
def Tg.put (t : Tg) (d : P) (ρ : Env) : Option Env := match t with
  | .nm i => some (ρ.set i (some (.p d)))
  | .tp is => match d with
    | .tup ds => setAll is ds ρ
    | _ => none
def xUnp (is : List Nat) (a : XE) : XS := fun ρ S => (a ρ S).bind fun x => (x.1.rd x.2).bind fun d => ((Tg.tp is).put d ρ).map fun ρ' => (.nx ρ', x.2)
/-- a, b = e1, e2 -/
def setAllD : List Nat → List D → Env → Option Env
  | [], [], ρ => some ρ
  | i :: is, d :: ds, ρ => setAllD is ds (ρ.set i (some d))
  | _, _, _ => none
def xPar (is : List Nat) (a : XD) : XS := fun ρ S => (a ρ S).bind fun x => (setAllD is x.1 ρ).map fun ρ' => (.nx ρ', x.2)
def xDrop (a : XE) : XS := fun ρ S => (a ρ S).map fun x => (.nx ρ, x.2)
def xRet (a : XE) : XS := fun ρ S => (a ρ S).map fun x => (.rt x.1, x.2)
def xRetN : XS := fun _ S => some (.rt (.p .non), S)
def xPass : XS := fun ρ S => some (.nx ρ, S)
def xSeq (a b : XS) : XS := fun ρ S => (a ρ S).bind fun x => match x.1 with
  | .nx ρ' => b ρ' x.2
  | fl => some (fl, x.2)
def xIfS (t : XT) (a b : XS) : XS := fun ρ S => (t ρ S).bind fun x => if x.1 then a ρ x.2 else b ρ x.2
/-- a statement that is never reached -/
def xNever : XS := fun _ _ => none

/-! ### what is dropped behind a turn: the cells made in it that no slot holds -/
def slotRefs (n0 : Nat) : Env → List Nat
  | [] => []
  | some (.ref l) :: ρ => if n0 ≤ l ∧ l ∉ slotRefs n0 ρ then l :: slotRefs n0 ρ else slotRefs n0 ρ
  | _ :: ρ => slotRefs n0 ρ
def renRef (n0 : Nat) (ks : List Nat) (l : Nat) : Nat := if l < n0 then l else n0 + ks.idxOf l
def renSlot (n0 : Nat) (ks : List Nat) : Option D → Option D
  | some (.ref l) => some (.ref (renRef n0 ks l))
  | x => x
def keptCells (S : Sto) (ks : List Nat) : Sto := ks.map fun k => S.getD k (.lst [])
def gc (n0 : Nat) (ρ : Env) (S : Sto) : Env × Sto :=
  if S.length ≤ n0 then (ρ, S) else
  let ks := slotRefs n0 ρ
  (ρ.map (renSlot n0 ks), S.take n0 ++ keptCells S ks)

/-! ### loops -/
def cellOk (l : Option Nat) (S0 S : Sto) : Bool := match l with
  | none => true
  | some l => decide (S[l]? = S0[l]?)
def forGo (n0 : Nat) (l : Option Nat) (S0 : Sto) (t : Tg) (b : XS) : List P → Env → Sto → Option (Fl × Sto)
  | [], ρ, S => some (.nx ρ, S)
  | d :: ds, ρ, S => (t.put d ρ).bind fun ρ1 => (b ρ1 S).bind fun x => match x.1 with
    | .nx ρ2 => let y := gc n0 ρ2 x.2; if cellOk l S0 y.2 then forGo n0 l S0 t b ds y.1 y.2 else none
    | .ct ρ2 => let y := gc n0 ρ2 x.2; if cellOk l S0 y.2 then forGo n0 l S0 t b ds y.1 y.2 else none
    | .bk ρ2 => some (.nx ρ2, x.2)
    | .rt r => some (.rt r, x.2)
def xFor (it : XI) (t : Tg) (b : XS) : XS := fun ρ S => (it ρ S).bind fun x => forGo x.2.2.length x.2.1 x.2.2 t b x.1 ρ x.2.2
def whGo (n0 : Nat) (t : XT) (b : XS) : Nat → Env → Sto → Option (Fl × Sto)
  | 0, _, _ => none
  | n + 1, ρ, S => (t ρ S).bind fun x => if x.1 then (b ρ x.2).bind fun y => match y.1 with
      | .nx ρ2 => let z := gc n0 ρ2 y.2; whGo n0 t b n z.1 z.2
      | .ct ρ2 => let z := gc n0 ρ2 y.2; whGo n0 t b n z.1 z.2
      | .bk ρ2 => some (.nx ρ2, y.2)
      | .rt r => some (.rt r, y.2)
    else some (.nx ρ, x.2)
/-- while, at most n turns -/
def xWhile (n : Nat) (t : XT) (b : XS) : XS := fun ρ S => whGo S.length t b n ρ S
/-- what is walked: a list (a cell's too), a tuple; a text; a range -/
def xIt (a : XE) : XI := fun ρ S => (a ρ S).bind fun x => match x.1 with
  | .p (.lst ds) => some (ds, none, x.2)
  | .p (.tup ds) => some (ds, none, x.2)
  | .frl ds => some (ds, none, x.2)
  | .ref l => match x.2[l]? with
    | some (.lst ds) => some (ds, some l, x.2)
    | _ => none
  | _ => none
def xItS (a : XE) : XI := fun ρ S => (a ρ S).bind fun x => match x.1 with
  | .p (.str s) => some (s.map fun c => .str [c], none, x.2)
  | _ => none
def intsFrom (lo : Int) : Nat → List P
  | 0 => []
  | n + 1 => .int lo :: intsFrom (lo + 1) n
def xRng1 (a : XE) : XI := fun ρ S => (a ρ S).bind fun x => match x.1 with
  | .p (.int j) => if j ≤ 1000000 ∧ -1000000 ≤ j then some (intsFrom 0 j.toNat, none, x.2) else none
  | _ => none
def xRng2 (a b : XE) : XI := fun ρ S => (a ρ S).bind fun x => (b ρ x.2).bind fun y => match x.1, y.1 with
  | .p (.int i), .p (.int j) => if j ≤ 1000000 ∧ -1000000 ≤ i ∧ i ≤ 1000000 ∧ -1000000 ≤ j then some (intsFrom i (j - i).toNat, none, y.2) else none
  | _, _ => none
/-- the comprehension's own slots forgotten -/
def wipeE (ρ : Env) : List Nat → Env
  | [] => ρ
  | v :: vs => (wipeE ρ vs).set v none
def lcGo (l : Option Nat) (S0 : Sto) (t : Tg) (c : XT) (e : XE) (ρ : Env) : List P → List P → Sto → Option (List P × Sto)
  | [], acc, S => some (acc, S)
  | d :: ds, acc, S => (t.put d ρ).bind fun ρ1 => (c ρ1 S).bind fun x => if x.1 then
      (e ρ1 x.2).bind fun y => (y.1.fz).bind fun v => if acc.length < big ∧ cellOk l S0 y.2 then lcGo l S0 t c e ρ ds (acc ++ [v]) y.2 else none
    else if cellOk l S0 x.2 then lcGo l S0 t c e ρ ds acc x.2 else none
def xLc (it : XI) (t : Tg) (c : XT) (e : XE) (vs : List Nat) : XE := fun ρ S => (it ρ S).bind fun x =>
  (lcGo x.2.1 x.2.2 t c e (wipeE ρ vs) x.1 [] x.2.2).map fun y => (.frl y.1, y.2)
/-- two fors: the inner one over its own source, again and again -/
def lc2In (l : Option Nat) (S0 : Sto) (t : Tg) (c : XT) (e : XE) (ρ : Env) : List P → List P → Sto → Option (List P × Sto) := lcGo l S0 t c e ρ
def lc2Go (l : Option Nat) (S0 : Sto) (t : Tg) (c : XT) (it1 : XI) (t1 : Tg) (c1 : XT) (e : XE) (ρ : Env) (vs1 : List Nat) : List P → List P → Sto → Option (List P × Sto)
  | [], acc, S => some (acc, S)
  | d :: ds, acc, S => (t.put d ρ).bind fun ρ1 => (c ρ1 S).bind fun x => if x.1 then
      (it1 ρ1 x.2).bind fun z => (lcGo z.2.1 z.2.2 t1 c1 e (wipeE ρ1 vs1) z.1 acc z.2.2).bind fun y => if cellOk l S0 y.2 then lc2Go l S0 t c it1 t1 c1 e ρ vs1 ds y.1 y.2 else none
    else if cellOk l S0 x.2 then lc2Go l S0 t c it1 t1 c1 e ρ vs1 ds acc x.2 else none
def xLc2 (it : XI) (t : Tg) (c : XT) (it1 : XI) (t1 : Tg) (c1 : XT) (e : XE) (vs vs1 : List Nat) : XE := fun ρ S => (it ρ S).bind fun x =>
  (lc2Go x.2.1 x.2.2 t c it1 t1 c1 e (wipeE ρ vs) vs1 x.1 [] x.2.2).map fun y => (.frl y.1, y.2)

/-! ### defs -/
def finish (base : Nat) (r : R) (S : Sto) : Option (R × Sto) := match r with
  | .p d => some (.p d, S.take base)
  | .frl ds => some (.frl ds, S.take base)
  | .frd kvs => some (.frd kvs, S.take base)
  | .ref l => if l < base then some (.ref l, S.take base) else match S[l]? with
    | some (.lst ds) => some (.frl ds, S.take base)
    | some (.dct false kvs) => some (.frd kvs, S.take base)
    | _ => none
def startE (n : Nat) (args : List D) : Env := args.map some ++ List.replicate (n - args.length) none
def mkF (k n : Nat) (b : XS) : XF := fun args S => if args.length = k then (b (startE n args) S).bind fun x => match x.1 with
  | .nx _ => finish S.length (.p .non) x.2
  | .rt r => finish S.length r x.2
  | _ => none
  else none

/-! ### methods of built-in types -/
inductive Ty where
  | str
  | lst
def isTy : Ty → P → Bool
  | .str, .str _ => true
  | .lst, .lst _ => true
  | _, _ => false
def xMeth (ty : Ty) (f : P → List P → Option R) (o : XE) (a : XA) : XE := fun ρ S => (o ρ S).bind fun x => (x.1.rd x.2).bind fun p0 => if isTy ty p0 then
  (a ρ x.2).bind fun y => (x.1.rd y.2).bind fun p => (rds y.2 y.1).bind fun ps => (f p ps).map fun r => (r, y.2) else none

/-! ### stores to cells -/
/-- o.append(e), o a cell -/
def xApp (o a : XE) : XE := fun ρ S => (o ρ S).bind fun x => (a ρ x.2).bind fun y => match x.1 with
  | .ref l => match y.2[l]? with
    | some (.lst ds) => (y.1.fz).bind fun d => if ds.length < big then some (.p .non, y.2.set l (.lst (ds ++ [d]))) else none
    | _ => none
  | _ => none
def asList (S : Sto) : R → Option (List P)
  | .p (.lst ds) => some ds
  | .frl ds => some ds
  | .ref l => match S[l]? with
    | some (.lst ds) => some ds
    | _ => none
  | _ => none
/-- o.extend(e), o a cell, e a list -/
def xExt (o a : XE) : XE := fun ρ S => (o ρ S).bind fun x => (a ρ x.2).bind fun y => match x.1 with
  | .ref l => match y.2[l]? with
    | some (.lst ds) => match y.1 with
      | .frl es => if ds.length + es.length ≤ big then some (.p .non, y.2.set l (.lst (ds ++ es))) else none
      | _ => none
    | _ => none
  | _ => none
/-- o.pop() -/
def xPop (o : XE) : XE := fun ρ S => (o ρ S).bind fun x => match x.1 with
  | .ref l => match x.2[l]? with
    | some (.lst ds) => match ds.getLast? with
      | some d => some (.p d, x.2.set l (.lst ds.dropLast))
      | none => none
    | _ => none
  | _ => none
/-- Python's index into n items -/
def ixP (n : Nat) (i : Int) : Option Nat := if 0 ≤ i then (if i.toNat < n then some i.toNat else none) else (if (-i).toNat ≤ n then some (n - (-i).toNat) else none)
/-- o[i] = e, o a cell with a list -/
def xPutL (e o i : XE) : XS := fun ρ S => (e ρ S).bind fun v => (o ρ v.2).bind fun x => (i ρ x.2).bind fun y => match x.1, y.1 with
  | .ref l, .p (.int j) => match y.2[l]? with
    | some (.lst ds) => (v.1.fz).bind fun d => (ixP ds.length j).map fun k => (.nx ρ, y.2.set l (.lst (ds.set k d)))
    | _ => none
  | _, _ => none
end XL
end
section
set_option Elab.async false
set_option linter.all false
set_option maxRecDepth 100000
set_option maxHeartbeats 1000000
namespace XL
open PySem L2

/-! ### how data lie in the heap -/
/-- (no written lists) -/
def KL (K : PySem.W.Frag) (a : Addr) (xs : List V) : Prop := False
def KT (K : PySem.W.Frag) (a : Addr) (xs : List V) : Prop := ∃ (o : Obj) (its : Array Value) (n : Nat), K.lookup a = some o ∧ o.cls = .type "tuple" ∧ o.data = .seq its n ∧ its.size ≤ sizeLine ∧ Vals xs its.toList
def FzL (K : PySem.W.Frag) (m : List Addr) (H : Hp) (a : Addr) (xs : List V) : Prop := (Rd H a (.lst xs) ∧ a ∉ m) ∨ KL K a xs
def FzT (K : PySem.W.Frag) (m : List Addr) (H : Hp) (a : Addr) (xs : List V) : Prop := (Rd H a (.tup xs) ∧ a ∉ m) ∨ KT K a xs
theorem FzL.sq {K : PySem.W.Frag} {m : List Addr} {H : Hp} {a : Addr} {xs : List V} (h : FzL K m H a xs) : SqL K H a xs := h.elim (fun z => .inl z.1) fun z => z.elim
theorem FzL.rd {K : PySem.W.Frag} {m : List Addr} {H : Hp} {a : Addr} {xs : List V} (h : FzL K m H a xs) : Rd H a (.lst xs) := h.elim (fun z => z.1) fun z => z.elim
theorem FzT.sq {K : PySem.W.Frag} {m : List Addr} {H : Hp} {a : Addr} {xs : List V} (h : FzT K m H a xs) : SqT K H a xs := h.elim (fun z => .inl z.1) .inr
mutual
def RepP (K : PySem.W.Frag) (m : List Addr) (H : Hp) : P → V → Prop
  | .non, v => v = .non
  | .bl b, v => v = .bl b
  | .int i, v => v = .int i
  | .str s, v => v = .str ⟨s.toArray⟩
  | .tup ds, v => ∃ a vs, v = .ref a ∧ FzT K m H a vs ∧ RepPs K m H ds vs
  | .lst ds, v => ∃ a vs, v = .ref a ∧ FzL K m H a vs ∧ RepPs K m H ds vs
def RepPs (K : PySem.W.Frag) (m : List Addr) (H : Hp) : List P → List V → Prop
  | [], vs => vs = []
  | d :: ds, vs => ∃ v r, vs = v :: r ∧ RepP K m H d v ∧ RepPs K m H ds r
end
/-- as it is read now: the list itself may be a cell -/
def RdT (K : PySem.W.Frag) (m : List Addr) (H : Hp) : P → V → Prop
  | .lst ds, v => ∃ a vs, v = .ref a ∧ Rd H a (.lst vs) ∧ RepPs K m H ds vs
  | d, v => RepP K m H d v
def RdTs (K : PySem.W.Frag) (m : List Addr) (H : Hp) : List P → List V → Prop
  | [], vs => vs = []
  | d :: ds, vs => ∃ v r, vs = v :: r ∧ RdT K m H d v ∧ RdTs K m H ds r
def RepC (K : PySem.W.Frag) (m : List Addr) (H : Hp) (a : Addr) : Cell → Prop
  | .lst ds => ∃ vs, H a = some (.lst vs) ∧ RepPs K m H ds vs
  | .dct _ _ => False
/-- the cells stand at m; G: what else no data may hold (a list that is being made) -/
structure RepSt (K : PySem.W.Frag) (G m : List Addr) (S : Sto) (H : Hp) : Prop where
  len : m.length = S.length
  nd : m.Nodup
  cell : ∀ (l : Nat) (a : Addr) (c : Cell), m[l]? = some a → S[l]? = some c → RepC K (m ++ G) H a c
  gd : ∀ a ∈ G, H a ≠ none ∧ a ∉ m
def RepD (K : PySem.W.Frag) (G m : List Addr) (H : Hp) : D → V → Prop
  | .p d, v => RepP K (m ++ G) H d v
  | .ref l, v => ∃ a, v = .ref a ∧ m[l]? = some a
def RepDs (K : PySem.W.Frag) (G m : List Addr) (H : Hp) : List D → List V → Prop
  | [], vs => vs = []
  | d :: ds, vs => ∃ v r, vs = v :: r ∧ RepD K G m H d v ∧ RepDs K G m H ds r
structure RepE (K : PySem.W.Frag) (G m : List Addr) (H : Hp) (ρ : Env) (σ : L2.St) : Prop where
  len : ρ.length = σ.length
  slot : ∀ (i : Nat) (d : D), ρ[i]? = some (some d) → ∃ v, σ[i]? = some (some v) ∧ RepD K G m H d v
def RepR (K : PySem.W.Frag) (G m : List Addr) (H : Hp) : R → V → Prop
  | .p d, v => RepP K (m ++ G) H d v
  | .ref l, v => ∃ a, v = .ref a ∧ m[l]? = some a
  | .frl ds, v => ∃ a vs, v = .ref a ∧ a ∉ m ++ G ∧ H a = some (.lst vs) ∧ RepPs K (m ++ G) H ds vs
  | .frd _, _ => False
def RepRs (K : PySem.W.Frag) (G m : List Addr) (H : Hp) : List R → List V → Prop
  | [], vs => vs = []
  | d :: ds, vs => ∃ v r, vs = v :: r ∧ RepR K G m H d v ∧ RepRs K G m H ds r
/-- what is new may become a cell; H0: the heap ahead, in which it is not -/
def Own (K : PySem.W.Frag) (H0 : Hp) (G m : List Addr) (H : Hp) (S : Sto) : R → V → Prop
  | .p _, _ => True
  | .ref _, _ => True
  | .frl ds, v => ∃ a, v = .ref a ∧ H0 a = none ∧ RepSt K G (m ++ [a]) (S ++ [.lst ds]) H
  | .frd _, _ => False
structure Step (m : List Addr) (H : Hp) (m' : List Addr) (H' : Hp) : Prop where
  pre : ∃ t, m' = m ++ t ∧ ∀ a ∈ t, H a = none
  keep : ∀ a o, H a = some o → a ∉ m → H' a = some o
  dom : ∀ a, H' a = none → H a = none
def Ext (H H' : Hp) : Prop := ∀ a o, H a = some o → H' a = some o
theorem Ext.refl (H : Hp) : Ext H H := fun _ _ h => h
theorem Ext.trans {H H1 H2 : Hp} (a : Ext H H1) (b : Ext H1 H2) : Ext H H2 := fun x o h => b x o (a x o h)
theorem Ext.new {H : Hp} {p : Addr} {o : HO} (h : H p = none) : Ext H (upd H p o) := fun a u e => by
  rw [upd_ne (ne_of_none e h)]
  exact e
theorem Ext.none {H H' : Hp} (e : Ext H H') {a : Addr} (h : H' a = none) : H a = none := by
  cases q : H a with
  | none => rfl
  | some o => rw [e a o q] at h; cases h
theorem Step.of_ext {m : List Addr} {H H' : Hp} (e : Ext H H') : Step m H m H' := ⟨⟨[], by simp, fun _ h => by cases h⟩, fun a o h _ => e a o h, fun a h => e.none h⟩
theorem Step.refl {m : List Addr} {H : Hp} : Step m H m H := Step.of_ext (Ext.refl H)

section
variable {K : PySem.W.Frag} {G m m' m1 m2 : List Addr} {H H' H0 H1 H2 : Hp}
theorem Step.mem (s : Step m H m' H') {a : Addr} (h : H a ≠ none) (hm : a ∉ m) : a ∉ m' := by
  obtain ⟨t, rfl, ht⟩ := s.pre
  intro z
  rcases List.mem_append.mp z with z | z
  · exact hm z
  · exact h (ht a z)
theorem Step.get (s : Step m H m' H') {l : Nat} {a : Addr} (h : m[l]? = some a) : m'[l]? = some a := by
  obtain ⟨t, rfl, ht⟩ := s.pre
  have hl : l < m.length := (List.getElem?_eq_some_iff.mp h).1
  rw [List.getElem?_append_left hl]
  exact h
theorem Step.trans (s : Step m H m1 H1) (u : Step m1 H1 m2 H2) : Step m H m2 H2 := by
  obtain ⟨t, rfl, ht⟩ := s.pre
  obtain ⟨t', rfl, ht'⟩ := u.pre
  refine ⟨⟨t ++ t', by simp, fun a ha => ?_⟩, fun a o h hm => ?_, fun a h => s.dom a (u.dom a h)⟩
  · rcases List.mem_append.mp ha with z | z
    · exact ht a z
    · exact s.dom a (ht' a z)
  · refine u.keep a o (s.keep a o h hm) (s.mem (by rw [h]; simp) hm)
theorem rd_ne {a : Addr} {u : HO} (h : Rd H a u) : H a ≠ none := by
  rcases h with h | ⟨o, h⟩ <;> (rw [h]; simp)
theorem Step.memG (s : Step m H m' H') {a : Addr} (h : H a ≠ none) (hm : a ∉ m ++ G) : a ∉ m' ++ G := fun z => by
  rw [List.mem_append, not_or] at hm
  rcases List.mem_append.mp z with z | z
  · exact s.mem h hm.1 z
  · exact hm.2 z
theorem not_l {a : Addr} (h : a ∉ m ++ G) : a ∉ m := fun z => h (List.mem_append_left _ z)
theorem rd_step (s : Step m H m' H') {a : Addr} {u : HO} (h : Rd H a u) (hm : a ∉ m ++ G) : Rd H' a u ∧ a ∉ m' ++ G := by
  refine ⟨?_, s.memG (rd_ne h) hm⟩
  rcases h with h | ⟨o, h⟩
  · exact .inl (s.keep _ _ h (not_l hm))
  · exact .inr ⟨o, s.keep _ _ h (not_l hm)⟩
mutual
theorem RepP.step (s : Step m H m' H') : ∀ (d : P) (v : V), RepP K (m ++ G) H d v → RepP K (m' ++ G) H' d v
  | .non, v, h => by simpa [RepP] using h
  | .bl b, v, h => by simpa [RepP] using h
  | .int i, v, h => by simpa [RepP] using h
  | .str x, v, h => by simpa [RepP] using h
  | .tup ds, v, h => by
    simp only [RepP] at h ⊢
    obtain ⟨a, vs, e, f, r⟩ := h
    exact ⟨a, vs, e, f.elim (fun z => .inl (rd_step s z.1 z.2)) .inr, RepPs.step s ds vs r⟩
  | .lst ds, v, h => by
    simp only [RepP] at h ⊢
    obtain ⟨a, vs, e, f, r⟩ := h
    exact ⟨a, vs, e, f.elim (fun z => .inl (rd_step s z.1 z.2)) .inr, RepPs.step s ds vs r⟩
theorem RepPs.step (s : Step m H m' H') : ∀ (ds : List P) (vs : List V), RepPs K (m ++ G) H ds vs → RepPs K (m' ++ G) H' ds vs
  | [], vs, h => by simpa [RepPs] using h
  | d :: ds, vs, h => by
    simp only [RepPs] at h ⊢
    obtain ⟨v, r, e, h1, h2⟩ := h
    exact ⟨v, r, e, RepP.step s d v h1, RepPs.step s ds r h2⟩
end
theorem RepP.rdt : ∀ {d : P} {v : V}, RepP K m H d v → RdT K m H d v
  | .non, v, h => h
  | .bl b, v, h => h
  | .int i, v, h => h
  | .str x, v, h => h
  | .tup ds, v, h => h
  | .lst ds, v, h => by
    simp only [RepP] at h
    obtain ⟨a, vs, e, f, r⟩ := h
    exact ⟨a, vs, e, f.rd, r⟩
theorem RepPs.length : ∀ {ds : List P} {vs : List V}, RepPs K m H ds vs → ds.length = vs.length
  | [], vs, h => by simp only [RepPs] at h; subst h; rfl
  | d :: ds, vs, h => by
    simp only [RepPs] at h
    obtain ⟨v, r, rfl, h1, h2⟩ := h
    simp [RepPs.length h2]
theorem RepPs.get : ∀ {ds : List P} {vs : List V} {i : Nat} {d : P}, RepPs K m H ds vs → ds[i]? = some d → ∃ v, vs[i]? = some v ∧ RepP K m H d v
  | [], vs, i, d, h, e => by simp at e
  | x :: ds, vs, 0, d, h, e => by
    simp only [RepPs] at h
    obtain ⟨v, r, rfl, h1, h2⟩ := h
    simp at e; subst e
    exact ⟨v, by simp, h1⟩
  | x :: ds, vs, i + 1, d, h, e => by
    simp only [RepPs] at h
    obtain ⟨v, r, rfl, h1, h2⟩ := h
    obtain ⟨w, hw, q⟩ := RepPs.get (i := i) h2 (by simpa using e)
    exact ⟨w, by simpa using hw, q⟩
theorem RepPs.append : ∀ {ds es : List P} {vs ws : List V}, RepPs K m H ds vs → RepPs K m H es ws → RepPs K m H (ds ++ es) (vs ++ ws)
  | [], es, vs, ws, h, q => by simp only [RepPs] at h; subst h; simpa using q
  | d :: ds, es, vs, ws, h, q => by
    simp only [RepPs] at h
    obtain ⟨v, r, rfl, h1, h2⟩ := h
    simp only [List.cons_append, RepPs]
    exact ⟨v, r ++ ws, rfl, h1, RepPs.append h2 q⟩
theorem RepPs.one {d : P} {v : V} (h : RepP K m H d v) : RepPs K m H [d] [v] := by
  simp only [RepPs]; exact ⟨v, [], rfl, h, rfl⟩
theorem RepPs.nil : RepPs K m H [] [] := by simp [RepPs]
theorem RepPs.cons {d : P} {v : V} {ds : List P} {vs : List V} (h : RepP K m H d v) (q : RepPs K m H ds vs) : RepPs K m H (d :: ds) (v :: vs) := by
  simp only [RepPs]; exact ⟨v, vs, rfl, h, q⟩
theorem RepD.step (s : Step m H m' H') {d : D} {v : V} (h : RepD K G m H d v) : RepD K G m' H' d v := by
  cases d with
  | p d => exact RepP.step s d v h
  | ref l => obtain ⟨a, e, q⟩ := h; exact ⟨a, e, s.get q⟩
theorem RepE.step (s : Step m H m' H') {ρ : Env} {σ : L2.St} (h : RepE K G m H ρ σ) : RepE K G m' H' ρ σ :=
  ⟨h.len, fun i d e => let ⟨v, a, b⟩ := h.slot i d e; ⟨v, a, b.step s⟩⟩
theorem RepR.step (s : Step m H m' H') {r : R} {v : V} (h : RepR K G m H r v) : RepR K G m' H' r v := by
  cases r with
  | p d => exact RepP.step s d v h
  | ref l => obtain ⟨a, e, q⟩ := h; exact ⟨a, e, s.get q⟩
  | frl ds =>
    obtain ⟨a, vs, e, nm, ha, q⟩ := h
    exact ⟨a, vs, e, s.memG (by rw [ha]; simp) nm, s.keep _ _ ha (not_l nm), RepPs.step s ds vs q⟩
  | frd kvs => exact h
theorem RepRs.step (s : Step m H m' H') : ∀ {rs : List R} {vs : List V}, RepRs K G m H rs vs → RepRs K G m' H' rs vs
  | [], vs, h => h
  | r :: rs, vs, h => by
    obtain ⟨v, w, e, h1, h2⟩ := h
    exact ⟨v, w, e, h1.step s, RepRs.step s h2⟩
theorem Own.back {S : Sto} (hd : ∀ a, H1 a = none → H0 a = none) {r : R} {v : V} (h : Own K H1 G m H S r v) : Own K H0 G m H S r v := by
  cases r with
  | p d => exact h
  | ref l => exact h
  | frl ds => obtain ⟨a, e, n0, q⟩ := h; exact ⟨a, e, hd a n0, q⟩
  | frd kvs => exact h
/-- a cell's address is tracked -/
theorem RepSt.has {S : Sto} (h : RepSt K G m S H) {a : Addr} (ha : a ∈ m) : H a ≠ none := by
  obtain ⟨l, hl, e⟩ := List.getElem_of_mem ha
  have hl' : l < S.length := h.len ▸ hl
  have q := h.cell l a S[l] (by rw [List.getElem?_eq_getElem hl, e]) (List.getElem?_eq_getElem hl')
  cases hc : S[l] with
  | lst ds => rw [hc] at q; obtain ⟨vs, e, _⟩ := q; rw [e]; simp
  | dct b kvs => rw [hc] at q; exact q.elim
theorem RepSt.fresh {S : Sto} (h : RepSt K G m S H) {a : Addr} (ha : H a = none) : a ∉ m ++ G := fun z => (List.mem_append.mp z).elim (fun z => h.has z ha) fun z => (h.gd a z).1 ha
/-- the heap grows -/
theorem RepSt.ext {S : Sto} (h : RepSt K G m S H) (e : Ext H H') : RepSt K G m S H' := ⟨h.len, h.nd, fun l a c h1 h2 => (by
  have q := h.cell l a c h1 h2
  cases c with
  | lst ds => obtain ⟨vs, z, r⟩ := q; exact ⟨vs, e _ _ z, RepPs.step (Step.of_ext e) ds vs r⟩
  | dct b kvs => exact q), fun a ha => ⟨fun z => (h.gd a ha).1 (e.none z), (h.gd a ha).2⟩⟩
theorem RepR.rd {S : Sto} (hS : RepSt K G m S H) {r : R} {v : V} {d : P} (h : RepR K G m H r v) (e : r.rd S = some d) : RdT K (m ++ G) H d v := by
  cases r with
  | p d' => simp only [R.rd, Option.some.injEq] at e; subst e; exact RepP.rdt h
  | ref l =>
    obtain ⟨a, rfl, hm⟩ := h
    simp only [R.rd] at e
    split at e
    · rename_i ds hl
      simp only [Option.some.injEq] at e; subst e
      obtain ⟨vs, z, r⟩ := hS.cell l a _ hm hl
      exact ⟨a, vs, rfl, .inl z, r⟩
    · cases e
  | frl ds =>
    obtain ⟨a, vs, rfl, nm, ha, q⟩ := h
    simp only [R.rd, Option.some.injEq] at e; subst e
    exact ⟨a, vs, rfl, .inl ha, q⟩
  | frd kvs => exact h.elim
theorem RepR.fz {r : R} {v : V} {d : P} (h : RepR K G m H r v) (e : r.fz = some d) : RepP K (m ++ G) H d v := by
  cases r with
  | p d' => simp only [R.fz, Option.some.injEq] at e; subst e; exact h
  | ref l => simp [R.fz] at e
  | frl ds =>
    obtain ⟨a, vs, rfl, nm, ha, q⟩ := h
    simp only [R.fz, Option.some.injEq] at e; subst e
    simp only [RepP]
    exact ⟨a, vs, rfl, .inl ⟨.inl ha, nm⟩, q⟩
  | frd kvs => exact h.elim
theorem RepRs.fzs : ∀ {rs : List R} {vs : List V} {ds : List P}, RepRs K G m H rs vs → fzs rs = some ds → RepPs K (m ++ G) H ds vs
  | [], vs, ds, h, e => by
    simp only [XL.fzs, Option.some.injEq] at e; subst e
    simp only [RepRs] at h; subst h
    exact RepPs.nil
  | r :: rs, vs, ds, h, e => by
    obtain ⟨v, w, rfl, h1, h2⟩ := h
    simp only [XL.fzs, Option.bind_eq_some_iff, Option.map_eq_some_iff] at e
    obtain ⟨d, e1, es, e2, rfl⟩ := e
    exact RepPs.cons (h1.fz e1) (RepRs.fzs h2 e2)
theorem RepRs.rds {S : Sto} (hS : RepSt K G m S H) : ∀ {rs : List R} {vs : List V} {ds : List P}, RepRs K G m H rs vs → rds S rs = some ds → RdTs K (m ++ G) H ds vs
  | [], vs, ds, h, e => by
    simp only [XL.rds, Option.some.injEq] at e; subst e
    simp only [RepRs] at h; subst h
    rfl
  | r :: rs, vs, ds, h, e => by
    obtain ⟨v, w, rfl, h1, h2⟩ := h
    simp only [XL.rds, Option.bind_eq_some_iff, Option.map_eq_some_iff] at e
    obtain ⟨d, e1, es, e2, rfl⟩ := e
    exact ⟨v, w, rfl, h1.rd hS e1, RepRs.rds hS h2 e2⟩
/-- cells taken out, some of them kept -/
theorem RepP.sub (h : ∀ a, a ∈ m → a ∈ m') : (∀ (d : P) (v : V), RepP K m' H d v → RepP K m H d v) ∧ ∀ (ds : List P) (vs : List V), RepPs K m' H ds vs → RepPs K m H ds vs := by
  have key : ∀ (n : Nat), (∀ (d : P) (v : V), sizeOf d ≤ n → RepP K m' H d v → RepP K m H d v) ∧ ∀ (ds : List P) (vs : List V), sizeOf ds ≤ n → RepPs K m' H ds vs → RepPs K m H ds vs := by
    intro n
    induction n with
    | zero =>
      refine ⟨fun d v z => ?_, fun ds vs z => ?_⟩
      · cases d <;> simp at z
      · cases ds <;> simp at z
    | succ n ih =>
      refine ⟨fun d v z q => ?_, fun ds vs z q => ?_⟩
      · cases d with
        | tup ds =>
          simp only [RepP] at q ⊢
          obtain ⟨a, vs, e, f, r⟩ := q
          exact ⟨a, vs, e, f.elim (fun w => .inl ⟨w.1, fun u => w.2 (h a u)⟩) .inr, ih.2 ds vs (by simp at z; omega) r⟩
        | lst ds =>
          simp only [RepP] at q ⊢
          obtain ⟨a, vs, e, f, r⟩ := q
          exact ⟨a, vs, e, f.elim (fun w => .inl ⟨w.1, fun u => w.2 (h a u)⟩) .inr, ih.2 ds vs (by simp at z; omega) r⟩
        | non => simpa [RepP] using q
        | bl b => simpa [RepP] using q
        | int b => simpa [RepP] using q
        | str b => simpa [RepP] using q
      · cases ds with
        | nil => simpa [RepPs] using q
        | cons d ds =>
          simp only [RepPs] at q ⊢
          obtain ⟨v, r, e, q1, q2⟩ := q
          exact ⟨v, r, e, ih.1 d v (by simp at z; omega) q1, ih.2 ds r (by simp at z; omega) q2⟩
  exact ⟨fun d v => (key (sizeOf d)).1 d v (Nat.le_refl _), fun ds vs => (key (sizeOf ds)).2 ds vs (Nat.le_refl _)⟩
/-- a list just made may become a cell -/
theorem RepSt.push {S : Sto} (hS : RepSt K G m S H) {p : Addr} {vs : List V} {ds : List P} (hp : H p = none) (r : RepPs K (m ++ G) H ds vs) : RepSt K G (m ++ [p]) (S ++ [.lst ds]) (upd H p (.lst vs)) := by
  have st : Step m H (m ++ [p]) (upd H p (.lst vs)) := ⟨⟨[p], rfl, fun a ha => by simp at ha; subst ha; exact hp⟩, fun a o e _ => Ext.new hp a o e, fun a e => (Ext.new hp).none e⟩
  refine ⟨by simp [hS.len], ?_, fun l a c h1 h2 => ?_, fun a ha => ⟨fun z => (hS.gd a ha).1 ((Ext.new hp).none z), fun z => ?_⟩⟩
  · rw [List.nodup_append]
    refine ⟨hS.nd, by simp, fun a ha b hb => ?_⟩
    simp at hb; subst hb
    exact fun e => hS.has ha (e ▸ hp)
  · by_cases hl : l < m.length
    · rw [List.getElem?_append_left hl] at h1
      rw [List.getElem?_append_left (hS.len ▸ hl)] at h2
      have q := hS.cell l a c h1 h2
      cases c with
      | lst es => obtain ⟨ws, z, w⟩ := q; exact ⟨ws, Ext.new hp _ _ z, RepPs.step st es ws w⟩
      | dct b kvs => exact q
    · have hl2 : l < (m ++ [p]).length := (List.getElem?_eq_some_iff.mp h1).1
      have e : l = m.length := by simp at hl2; omega
      subst e
      simp at h1
      rw [hS.len] at h2
      simp at h2
      subst h1; subst h2
      exact ⟨vs, upd_same, RepPs.step st ds vs r⟩
  · rcases List.mem_append.mp z with z | z
    · exact (hS.gd a ha).2 z
    · simp at z; subst z
      exact (hS.gd _ ha).1 hp
theorem own_new {S : Sto} (hS : RepSt K G m S H) {p : Addr} {vs : List V} {ds : List P} (hp : H p = none) (r : RepPs K (m ++ G) H ds vs) : Own K H G m (upd H p (.lst vs)) S (.frl ds) (.ref p) := ⟨p, rfl, hp, hS.push hp r⟩
/-- what is new, read as it is -/
theorem own_rep {S : Sto} {ds : List P} {v : V} (h : Own K H0 G m H S (.frl ds) v) : RepSt K G m S H ∧ RepR K G m H (.frl ds) v := by
  obtain ⟨a, rfl, h0, q⟩ := h
  have hl := q.len
  simp only [List.length_append, List.length_singleton] at hl
  have sub : ∀ b, b ∈ m ++ G → b ∈ (m ++ [a]) ++ G := fun b hb => by
    simp only [List.mem_append] at hb ⊢
    rcases hb with hb | hb
    · exact .inl (.inl hb)
    · exact .inr hb
  have nd := q.nd
  rw [List.nodup_append] at nd
  have ha : a ∉ m := fun z => nd.2.2 a z a (by simp) rfl
  have hG : a ∉ G := fun z => (q.gd a z).2 (by simp)
  refine ⟨⟨by omega, nd.1, fun l b c h1 h2 => ?_, fun b hb => ⟨(q.gd b hb).1, fun z => (q.gd b hb).2 (List.mem_append_left _ z)⟩⟩, ?_⟩
  · have l1 : l < m.length := (List.getElem?_eq_some_iff.mp h1).1
    have w := q.cell l b c (by rw [List.getElem?_append_left l1]; exact h1) (by rw [List.getElem?_append_left (by omega)]; exact h2)
    cases c with
    | lst es => obtain ⟨ws, z, w⟩ := w; exact ⟨ws, z, (RepP.sub sub).2 es ws w⟩
    | dct b kvs => exact w
  · obtain ⟨vs, z, w⟩ := q.cell m.length a (.lst ds) (by simp) (by rw [show m.length = S.length by omega]; simp)
    exact ⟨a, vs, rfl, by simp [ha, hG], z, (RepP.sub sub).2 ds vs w⟩
end

/-! ### readings from the executable text -/
def tOf (K : PySem.W.Frag) (x : XE) : TE := fun σ H Q => ∃ m G ρ S r S', RepE K G m H ρ σ ∧ RepSt K G m S H ∧ x ρ S = some (r, S') ∧
  ∀ v m' H', Step m H m' H' → RepSt K G m' S' H' → RepR K G m' H' r v → Own K H G m' H' S' r v → Q v H'
def tOfT (K : PySem.W.Frag) (x : XT) : TT := fun σ H Q => ∃ m G ρ S b S', RepE K G m H ρ σ ∧ RepSt K G m S H ∧ x ρ S = some (b, S') ∧
  ∀ m' H', Step m H m' H' → RepSt K G m' S' H' → Q b H'
def tOfA (K : PySem.W.Frag) (x : XA) : TA := fun σ H Q => ∃ m G ρ S rs S', RepE K G m H ρ σ ∧ RepSt K G m S H ∧ x ρ S = some (rs, S') ∧
  ∀ vs m' H', Step m H m' H' → RepSt K G m' S' H' → RepRs K G m' H' rs vs → Q vs H'
def FlOk (K : PySem.W.Frag) (G m : List Addr) (H : Hp) (D : Ends) (S' : Sto) : Fl → Prop
  | .nx ρ' => ∀ σ' m' H', Step m H m' H' → RepSt K G m' S' H' → RepE K G m' H' ρ' σ' → D.nx σ' H'
  | .bk ρ' => ∀ σ' m' H', Step m H m' H' → RepSt K G m' S' H' → RepE K G m' H' ρ' σ' → D.bk σ' H'
  | .ct ρ' => ∀ σ' m' H', Step m H m' H' → RepSt K G m' S' H' → RepE K G m' H' ρ' σ' → D.ct σ' H'
  | .rt r => ∀ v m' H', Step m H m' H' → RepSt K G m' S' H' → RepR K G m' H' r v → Own K H G m' H' S' r v → D.rt v H'
def tOfS (K : PySem.W.Frag) (x : XS) : TS := fun D σ H => ∃ m G ρ S fl S', RepE K G m H ρ σ ∧ RepSt K G m S H ∧ x ρ S = some (fl, S') ∧ FlOk K G m H D S' fl
/-- by values: two, one, several -/
def rOf (K : PySem.W.Frag) (f : P → P → Option R) : R2 := fun x y H Q => ∃ m G S p q r, RepSt K G m S H ∧ RdT K (m ++ G) H p x ∧ RdT K (m ++ G) H q y ∧ f p q = some r ∧ ∀ v H', Ext H H' → RepR K G m H' r v → Own K H G m H' S r v → Q v H'
def uOf (K : PySem.W.Frag) (f : P → Option R) : V → Hp → VK → Prop := fun x H Q => ∃ m G S p r, RepSt K G m S H ∧ RdT K (m ++ G) H p x ∧ f p = some r ∧ ∀ v H', Ext H H' → RepR K G m H' r v → Own K H G m H' S r v → Q v H'
def cOf (K : PySem.W.Frag) (f : List P → Option R) : List V → Hp → VK → Prop := fun xs H Q => ∃ m G S ps r, RepSt K G m S H ∧ RdTs K (m ++ G) H ps xs ∧ f ps = some r ∧ ∀ v H', Ext H H' → RepR K G m H' r v → Own K H G m H' S r v → Q v H'

theorem PE.imp {X : Cx} {e : Expr} {t t' : TE} (h : PE X e t) (w : ∀ σ H Q, t' σ H Q → t σ H Q) : PE X e t' := ⟨fun pins s σ H Q I q => h.run pins s σ H Q I (w σ H Q q)⟩
theorem PT.imp {X : Cx} {e : Expr} {t t' : TT} (h : PT X e t) (w : ∀ σ H Q, t' σ H Q → t σ H Q) : PT X e t' := ⟨fun pins s σ H Q I q => h.run pins s σ H Q I (w σ H Q q)⟩
theorem PW.imp {X : Cx} {e : Expr} {t t' : TT} (h : PW X e t) (w : ∀ σ H Q, t' σ H Q → t σ H Q) : PW X e t' := ⟨fun wh pins s σ H Q I q => h.run wh pins s σ H Q I (w σ H Q q)⟩
theorem PA.imp {X : Cx} {es : List Expr} {t t' : TA} (h : PA X es t) (w : ∀ σ H Q, t' σ H Q → t σ H Q) : PA X es t' := ⟨fun pos pins s σ H Q I q => h.run pos pins s σ H Q I (w σ H Q q)⟩
theorem PS.imp {X : Cx} {st : Stmt} {t t' : TS} (h : PS X st t) (w : ∀ D σ H, t' D σ H → t D σ H) : PS X st t' := ⟨fun pins s σ H D I q => h.run pins s σ H D I (w D σ H q)⟩
theorem PSs.imp {X : Cx} {st : List Stmt} {t t' : TS} (h : PSs X st t) (w : ∀ D σ H, t' D σ H → t D σ H) : PSs X st t' := ⟨fun pins s σ H D I q => h.run pins s σ H D I (w D σ H q)⟩

section
variable {X : Cx} {a b c e : Expr} {xa xb xc : XE} {pos : Pos}
/-! ### expressions -/
theorem xe_var {i : Nat} {x : Str} (h : PE X (.Name x pos) (tVar i)) : PE X (.Name x pos) (tOf X.K (xVar i)) := PE.imp h fun σ H Q h => by
  obtain ⟨m, G, ρ, S, r, S', hE, hS, hx, k⟩ := h
  simp only [xVar] at hx
  split at hx
  · rename_i d hd
    cases hx
    obtain ⟨v, hv, q⟩ := hE.slot i _ hd
    exact ⟨v, hv, k v m H Step.refl hS q trivial⟩
  · rename_i l hd
    cases hx
    obtain ⟨v, hv, q⟩ := hE.slot i _ hd
    exact ⟨v, hv, k v m H Step.refl hS q trivial⟩
  · cases hx
/-- a name in slot i -/
theorem xv (i : Nat) {x : Str} (hN : X.N[i]? = some x := by rfl) (hv : Vis X.env.scope x := by first | exact Or.inl rfl | exact Or.inr (Or.inl rfl) | exact Or.inr (Or.inr rfl)) (hd : (x == ("__debug__" : Str)) = false := by decide)
    (hcd : (x == ("__classdict__" : Str)) = false := by decide) : PE X (.Name x pos) (tOf X.K (xVar i)) := xe_var (pe_var hN hv hd hcd)
theorem xe_C {d : P} {v : V} (h : PE X e (tC v)) (hd : ∀ m H, RepP X.K m H d v) : PE X e (tOf X.K (xC d)) := PE.imp h fun σ H Q h => by
  obtain ⟨m, G, ρ, S, r, S', hE, hS, hx, k⟩ := h
  cases hx
  exact k v m H Step.refl hS (hd (m ++ G) H) trivial
theorem xe_int {i : Int} {j} : PE X (.Constant (.int i) j pos) (tOf X.K (xC (.int i))) := xe_C pe_int fun _ _ => by simp [RepP]
theorem xe_bl {i : Bool} {j} : PE X (.Constant (.bool i) j pos) (tOf X.K (xC (.bl i))) := xe_C pe_bl fun _ _ => by simp [RepP]
theorem xe_non {j} : PE X (.Constant .none j pos) (tOf X.K (xC .non)) := xe_C pe_non fun _ _ => by simp [RepP]
theorem xe_str {x : Str} {s : List Nat} {j} (h : x = ⟨s.toArray⟩) : PE X (.Constant (.str x) j pos) (tOf X.K (xC (.str s))) := xe_C pe_str fun _ _ => by simp [RepP, h]
/-- one after another -/
theorem tOf.bin {K : PySem.W.Frag} {σ : L2.St} {H : Hp} {Q : VK} {f : P → P → Option R} {xa xb : XE} (h : tOf K (xBin f xa xb) σ H Q) : tOp (rOf K f) (tOf K xa) (tOf K xb) σ H Q := by
  obtain ⟨m, G, ρ, S, r, S', hE, hS, hx, k⟩ := h
  simp only [xBin, Option.bind_eq_some_iff, Option.map_eq_some_iff] at hx
  obtain ⟨⟨r1, S1⟩, h1, ⟨r2, S2⟩, h2, p, hp, q, hq, r', hf, e⟩ := hx
  cases e
  refine ⟨m, G, ρ, S, r1, S1, hE, hS, h1, fun v1 m1 H1 s1 hS1 q1 _ => ⟨m1, G, ρ, S1, r2, S2, hE.step s1, hS1, h2, fun v2 m2 H2 s2 hS2 q2 _ => ?_⟩⟩
  refine ⟨m2, G, S2, p, q, _, hS2, (q1.step s2).rd hS2 hp, q2.rd hS2 hq, hf, fun v H' e q o => ?_⟩
  exact k v m2 H' ((s1.trans s2).trans (Step.of_ext e)) (hS2.ext e) q (o.back (s1.trans s2).dom)
theorem xe_bin {op : Operator} {f : P → P → Option R} (ho : OpR X (binaryOp op) (rOf X.K f)) (ha : PE X a (tOf X.K xa)) (hb : PE X b (tOf X.K xb)) : PE X (.BinOp a op b pos) (tOf X.K (xBin f xa xb)) :=
  PE.imp (pe_op ho ha hb) fun σ H Q h => tOf.bin h
theorem xe_cmp {op : CmpOp} {f : P → P → Option R} (ho : OpR X (compareOp op) (rOf X.K f)) (ha : PE X a (tOf X.K xa)) (hb : PE X b (tOf X.K xb)) (hm : behindInMarks op b = false) : PE X (.Compare a [op] [b] pos) (tOf X.K (xBin f xa xb)) :=
  PE.imp (pe_cmpR ho ha hb hm) fun σ H Q h => tOf.bin h
theorem xe_un {op : UnaryOp} {f : P → Option R} (ho : UnR X (unaryOp op) (uOf X.K f)) (ha : PE X a (tOf X.K xa)) : PE X (.UnaryOp op a pos) (tOf X.K (xUn f xa)) :=
  PE.imp (pe_un ho ha) fun σ H Q h => by
    obtain ⟨m, G, ρ, S, r, S', hE, hS, hx, k⟩ := h
    simp only [xUn, Option.bind_eq_some_iff, Option.map_eq_some_iff] at hx
    obtain ⟨⟨r1, S1⟩, h1, p, hp, r', hf, e⟩ := hx
    cases e
    refine ⟨m, G, ρ, S, r1, S1, hE, hS, h1, fun v1 m1 H1 s1 hS1 q1 _ => ⟨m1, G, S1, p, _, hS1, q1.rd hS1 hp, hf, fun v H' e q o => ?_⟩⟩
    exact k v m1 H' (s1.trans (Step.of_ext e)) (hS1.ext e) q (o.back s1.dom)
theorem tOf.chain {K : PySem.W.Frag} {σ : L2.St} {H : Hp} {Q : VK} {f g : P → P → Option R} {xa xb xc : XE} (h : tOf K (xChain f g xa xb xc) σ H Q) : tChain (rOf K f) (rOf K g) (tOf K xa) (tOf K xb) (tOf K xc) σ H Q := by
  obtain ⟨m, G, ρ, S, r, S', hE, hS, hx, k⟩ := h
  simp only [xChain, Option.bind_eq_some_iff] at hx
  obtain ⟨⟨r1, S1⟩, h1, ⟨r2, S2⟩, h2, p, hp, q, hq, r', hf, hx⟩ := hx
  refine ⟨m, G, ρ, S, r1, S1, hE, hS, h1, fun v1 m1 H1 s1 hS1 q1 _ => ⟨m1, G, ρ, S1, r2, S2, hE.step s1, hS1, h2, fun v2 m2 H2 s2 hS2 q2 _ => ?_⟩⟩
  refine ⟨m2, G, S2, p, q, r', hS2, (q1.step s2).rd hS2 hp, q2.rd hS2 hq, hf, fun v H3 e3 q3 _ => ?_⟩
  have s3 : Step m2 H2 m2 H3 := Step.of_ext e3
  split at hx
  · simp only [Option.bind_eq_some_iff, Option.map_eq_some_iff] at hx
    obtain ⟨⟨r4, S4⟩, h4, p', hp', w, hw, r'', hg, e⟩ := hx
    cases e
    simp only [RepR, RepP] at q3
    subst q3
    refine ⟨true, rfl, ?_⟩
    rw [if_pos rfl]
    refine ⟨m2, G, ρ, S2, r4, S4, (hE.step s1).step (s2.trans s3), hS2.ext e3, h4, fun v4 m4 H4 s4 hS4 q4 _ => ?_⟩
    refine ⟨m4, G, S4, p', w, _, hS4, (q2.step (s3.trans s4)).rd hS4 hp', q4.rd hS4 hw, hg, fun v5 H5 e5 q5 o5 => ?_⟩
    have s14 := ((s1.trans s2).trans s3).trans s4
    exact k v5 m4 H5 (s14.trans (Step.of_ext e5)) (hS4.ext e5) q5 (o5.back s14.dom)
  · cases hx
    simp only [RepR, RepP] at q3
    subst q3
    refine ⟨false, rfl, ?_⟩
    rw [if_neg (by simp)]
    exact k (.bl false) m2 H3 ((s1.trans s2).trans s3) (hS2.ext e3) (by simp [RepR, RepP]) trivial
  · cases hx
theorem xe_chain {op op' : CmpOp} {f g : P → P → Option R} (ho : OpR X (compareOp op) (rOf X.K f)) (ho' : OpR X (compareOp op') (rOf X.K g)) (ha : PE X a (tOf X.K xa)) (hb : PE X b (tOf X.K xb)) (hc : PE X c (tOf X.K xc)) (hm : lastMarks [op, op'] [b, c] = false := by rfl) :
    PE X (.Compare a [op, op'] [b, c] pos) (tOf X.K (xChain f g xa xb xc)) :=
  PE.imp (pe_chain ho ho' ha hb hc hm) fun σ H Q h => h.chain
theorem xe_one {op : BoolOp} (ha : PE X a (tOf X.K xa)) : PE X (.BoolOp op [a] pos) (tOf X.K xa) := pe_one ha
theorem xe_and {rest : List Expr} (ha : PE X a (tOf X.K xa)) (hb : PE X (.BoolOp .And (b :: rest) pos) (tOf X.K xb)) : PE X (.BoolOp .And (a :: b :: rest) pos) (tOf X.K (xAnd xa xb)) :=
  PE.imp (pe_and ha hb) fun σ H Q h => by
    obtain ⟨m, G, ρ, S, r, S', hE, hS, hx, k⟩ := h
    simp only [xAnd, Option.bind_eq_some_iff] at hx
    obtain ⟨⟨r1, S1⟩, h1, hx⟩ := hx
    refine ⟨m, G, ρ, S, r1, S1, hE, hS, h1, fun v1 m1 H1 s1 hS1 q1 _ => ?_⟩
    dsimp only at hx
    split at hx
    · simp only [RepR, RepP] at q1
      refine ⟨true, q1, ?_⟩
      rw [if_pos rfl]
      exact ⟨m1, G, ρ, S1, r, S', hE.step s1, hS1, hx, fun v m' H' s hS' q o => k v m' H' (s1.trans s) hS' q (o.back s1.dom)⟩
    · cases hx
      simp only [RepR, RepP] at q1
      refine ⟨false, q1, ?_⟩
      rw [if_neg (by simp)]
      exact k _ m1 H1 s1 hS1 (by simp [RepR, RepP]) trivial
    · cases hx
theorem xe_or {rest : List Expr} (ha : PE X a (tOf X.K xa)) (hb : PE X (.BoolOp .Or (b :: rest) pos) (tOf X.K xb)) : PE X (.BoolOp .Or (a :: b :: rest) pos) (tOf X.K (xOr xa xb)) :=
  PE.imp (pe_or ha hb) fun σ H Q h => by
    obtain ⟨m, G, ρ, S, r, S', hE, hS, hx, k⟩ := h
    simp only [xOr, Option.bind_eq_some_iff] at hx
    obtain ⟨⟨r1, S1⟩, h1, hx⟩ := hx
    refine ⟨m, G, ρ, S, r1, S1, hE, hS, h1, fun v1 m1 H1 s1 hS1 q1 _ => ?_⟩
    dsimp only at hx
    split at hx
    · cases hx
      simp only [RepR, RepP] at q1
      refine ⟨true, q1, ?_⟩
      rw [if_pos rfl]
      exact k _ m1 H1 s1 hS1 (by simp [RepR, RepP]) trivial
    · simp only [RepR, RepP] at q1
      refine ⟨false, q1, ?_⟩
      rw [if_neg (by simp)]
      exact ⟨m1, G, ρ, S1, r, S', hE.step s1, hS1, hx, fun v m' H' s hS' q o => k v m' H' (s1.trans s) hS' q (o.back s1.dom)⟩
    · cases hx
theorem xe_not (ha : PE X a (tOf X.K xa)) : PE X (.UnaryOp .Not a pos) (tOf X.K (xNot xa)) :=
  PE.imp (pe_not ha) fun σ H Q h => by
    obtain ⟨m, G, ρ, S, r, S', hE, hS, hx, k⟩ := h
    simp only [xNot, Option.bind_eq_some_iff] at hx
    obtain ⟨⟨r1, S1⟩, h1, hx⟩ := hx
    refine ⟨m, G, ρ, S, r1, S1, hE, hS, h1, fun v1 m1 H1 s1 hS1 q1 _ => ?_⟩
    dsimp only at hx
    split at hx
    · cases hx
      simp only [RepR, RepP] at q1
      exact ⟨_, q1, k _ m1 H1 s1 hS1 (by simp [RepR, RepP]) trivial⟩
    · cases hx
theorem xe_ifExp {xt : XT} (ht : PT X c (tOfT X.K xt)) (ha : PE X a (tOf X.K xa)) (hb : PE X b (tOf X.K xb)) : PE X (.IfExp c a b pos) (tOf X.K (xIf xt xa xb)) :=
  PE.imp (pe_ifExp ht ha hb) fun σ H Q h => by
    obtain ⟨m, G, ρ, S, r, S', hE, hS, hx, k⟩ := h
    simp only [xIf, Option.bind_eq_some_iff] at hx
    obtain ⟨⟨r1, S1⟩, h1, hx⟩ := hx
    refine ⟨m, G, ρ, S, r1, S1, hE, hS, h1, fun m1 H1 s1 hS1 => ?_⟩
    dsimp only at hx
    cases r1 with
    | true => exact ⟨m1, G, ρ, S1, r, S', hE.step s1, hS1, by simpa using hx, fun v m' H' s hS' q o => k v m' H' (s1.trans s) hS' q (o.back s1.dom)⟩
    | false => exact ⟨m1, G, ρ, S1, r, S', hE.step s1, hS1, by simpa using hx, fun v m' H' s hS' q o => k v m' H' (s1.trans s) hS' q (o.back s1.dom)⟩
/-! ### tests -/
theorem xt_B (h : PE X e (tOf X.K xa)) (he : ∀ whole, isTrue e X.env whole = (do let v ← whole; standAt e.pos; holding [v] (truthy v)) := by intro _; rfl) : PT X e (tOfT X.K (xB xa)) :=
  PT.imp (pt_val h he) fun σ H Q h => by
    obtain ⟨m, G, ρ, S, r, S', hE, hS, hx, k⟩ := h
    simp only [xB, Option.bind_eq_some_iff] at hx
    obtain ⟨⟨r1, S1⟩, h1, hx⟩ := hx
    refine ⟨m, G, ρ, S, r1, S1, hE, hS, h1, fun v1 m1 H1 s1 hS1 q1 _ => ?_⟩
    dsimp only at hx
    split at hx
    · cases hx
      simp only [RepR, RepP] at q1
      exact ⟨_, q1, k m1 H1 s1 hS1⟩
    · cases hx
theorem xt_cmp {op : CmpOp} {f : P → P → Option R} (ho : OpR X (compareOp op) (rOf X.K f)) (ha : PE X a (tOf X.K xa)) (hb : PE X b (tOf X.K xb)) (hm : behindInMarks op b = false) : PT X (.Compare a [op] [b] pos) (tOfT X.K (xB (xBin f xa xb))) :=
  PT.imp (pt_cmpR ho ha hb hm) fun σ H Q h => by
    obtain ⟨m, G, ρ, S, r, S', hE, hS, hx, k⟩ := h
    simp only [xB, Option.bind_eq_some_iff] at hx
    obtain ⟨⟨r1, S1⟩, h1, hx⟩ := hx
    have q : tOf X.K (xBin f xa xb) σ H (fun x H' => ∃ k, x = .bl k ∧ Q k H') := by
      refine ⟨m, G, ρ, S, r1, S1, hE, hS, h1, fun v1 m1 H1 s1 hS1 q1 _ => ?_⟩
      dsimp only at hx
      split at hx
      · cases hx
        simp only [RepR, RepP] at q1
        exact ⟨_, q1, k m1 H1 s1 hS1⟩
      · cases hx
    exact tOf.bin q
theorem xt_chain {op op' : CmpOp} {f g : P → P → Option R} (ho : OpR X (compareOp op) (rOf X.K f)) (ho' : OpR X (compareOp op') (rOf X.K g)) (ha : PE X a (tOf X.K xa)) (hb : PE X b (tOf X.K xb)) (hc : PE X c (tOf X.K xc)) (hm : lastMarks [op, op'] [b, c] = false := by rfl) :
    PT X (.Compare a [op, op'] [b, c] pos) (tOfT X.K (xB (xChain f g xa xb xc))) :=
  PT.imp (pt_chain ho ho' ha hb hc hm) fun σ H Q h => by
    obtain ⟨m, G, ρ, S, r, S', hE, hS, hx, k⟩ := h
    simp only [xB, Option.bind_eq_some_iff] at hx
    obtain ⟨⟨r1, S1⟩, h1, hx⟩ := hx
    have q : tOf X.K (xChain f g xa xb xc) σ H (fun x H' => ∃ k, x = .bl k ∧ Q k H') := by
      refine ⟨m, G, ρ, S, r1, S1, hE, hS, h1, fun v1 m1 H1 s1 hS1 q1 _ => ?_⟩
      dsimp only at hx
      split at hx
      · cases hx
        simp only [RepR, RepP] at q1
        exact ⟨_, q1, k m1 H1 s1 hS1⟩
      · cases hx
    exact tOf.chain q
theorem xt_and {rest : List Expr} {xs xt : XT} (ha : PT X a (tOfT X.K xs)) (hb : PW X (.BoolOp .And (b :: rest) pos) (tOfT X.K xt)) : PW X (.BoolOp .And (a :: b :: rest) pos) (tOfT X.K (xTand xs xt)) :=
  PW.imp (pw_and ha hb) fun σ H Q h => by
    obtain ⟨m, G, ρ, S, r, S', hE, hS, hx, k⟩ := h
    simp only [xTand, Option.bind_eq_some_iff] at hx
    obtain ⟨⟨r1, S1⟩, h1, hx⟩ := hx
    refine ⟨m, G, ρ, S, r1, S1, hE, hS, h1, fun m1 H1 s1 hS1 => ?_⟩
    dsimp only at hx
    cases r1 with
    | true =>
      rw [if_pos rfl] at hx ⊢
      exact ⟨m1, G, ρ, S1, r, S', hE.step s1, hS1, hx, fun m' H' s hS' => k m' H' (s1.trans s) hS'⟩
    | false =>
      rw [if_neg (by simp)] at hx ⊢
      cases hx
      exact k m1 H1 s1 hS1
theorem xt_or {rest : List Expr} {xs xt : XT} (ha : PT X a (tOfT X.K xs)) (hb : PW X (.BoolOp .Or (b :: rest) pos) (tOfT X.K xt)) : PW X (.BoolOp .Or (a :: b :: rest) pos) (tOfT X.K (xTor xs xt)) :=
  PW.imp (pw_or ha hb) fun σ H Q h => by
    obtain ⟨m, G, ρ, S, r, S', hE, hS, hx, k⟩ := h
    simp only [xTor, Option.bind_eq_some_iff] at hx
    obtain ⟨⟨r1, S1⟩, h1, hx⟩ := hx
    refine ⟨m, G, ρ, S, r1, S1, hE, hS, h1, fun m1 H1 s1 hS1 => ?_⟩
    dsimp only at hx
    cases r1 with
    | true =>
      rw [if_pos rfl] at hx ⊢
      cases hx
      exact k m1 H1 s1 hS1
    | false =>
      rw [if_neg (by simp)] at hx ⊢
      exact ⟨m1, G, ρ, S1, r, S', hE.step s1, hS1, hx, fun m' H' s hS' => k m' H' (s1.trans s) hS'⟩
theorem xt_and1 {xs : XT} (ha : PT X a (tOfT X.K xs)) : PW X (.BoolOp .And [a] pos) (tOfT X.K xs) := pw_and1 ha
theorem xt_or1 {xs : XT} (ha : PT X a (tOfT X.K xs)) : PW X (.BoolOp .Or [a] pos) (tOfT X.K xs) := pw_or1 ha
theorem xt_not {xs : XT} (ha : PT X a (tOfT X.K xs)) : PT X (.UnaryOp .Not a pos) (tOfT X.K (xTnot xs)) :=
  PT.imp (pt_not ha) fun σ H Q h => by
    obtain ⟨m, G, ρ, S, r, S', hE, hS, hx, k⟩ := h
    simp only [xTnot, Option.map_eq_some_iff] at hx
    obtain ⟨⟨r1, S1⟩, h1, hx⟩ := hx
    cases hx
    exact ⟨m, G, ρ, S, r1, S1, hE, hS, h1, fun m1 H1 s1 hS1 => k m1 H1 s1 hS1⟩
theorem xts_nil : PTs X [] (tOfT X.K xTyes) := ⟨fun pins s σ H Q I h => pts_nil.run pins s σ H Q I (by
  obtain ⟨m, G, ρ, S, r, S', hE, hS, hx, k⟩ := h
  cases hx
  exact k m H Step.refl hS)⟩
theorem xts_one {xs : XT} (ha : PT X c (tOfT X.K xs)) : PTs X [c] (tOfT X.K xs) := pts_one ha
/-! ### arguments, displays -/
variable {es : List Expr} {xs : XA}
theorem xa_nil : PA X [] (tOfA X.K xNil) := PA.imp pa_nil fun σ H Q h => by
  obtain ⟨m, G, ρ, S, r, S', hE, hS, hx, k⟩ := h
  cases hx
  exact k [] m H Step.refl hS rfl
theorem xa_cons (ha : PE X e (tOf X.K xa)) (hr : PA X es (tOfA X.K xs)) (hs : starEach (e :: es) X.env = (false, eval e X.env) :: starEach es X.env := by rfl) : PA X (e :: es) (tOfA X.K (xCons xa xs)) :=
  PA.imp (pa_cons ha hr hs) fun σ H Q h => by
    obtain ⟨m, G, ρ, S, r, S', hE, hS, hx, k⟩ := h
    simp only [xCons, Option.bind_eq_some_iff, Option.map_eq_some_iff] at hx
    obtain ⟨⟨r1, S1⟩, h1, ⟨r2, S2⟩, h2, e⟩ := hx
    cases e
    refine ⟨m, G, ρ, S, r1, S1, hE, hS, h1, fun v1 m1 H1 s1 hS1 q1 _ => ⟨m1, G, ρ, S1, r2, S2, hE.step s1, hS1, h2, fun vs m2 H2 s2 hS2 q2 => ?_⟩⟩
    exact k (v1 :: vs) m2 H2 (s1.trans s2) hS2 ⟨v1, vs, rfl, q1.step s2, q2⟩
theorem big_size {n : Nat} (h : n ≤ big) : n ≤ sizeLine := Nat.le_trans h (by decide)
theorem xe_tup {x1} (h : PA X es (tOfA X.K xs)) : PE X (.Tuple es x1 pos) (tOf X.K (xTup xs)) := PE.imp (pe_tup h) fun σ H Q h => by
  obtain ⟨m, G, ρ, S, r, S', hE, hS, hx, k⟩ := h
  simp only [xTup, Option.bind_eq_some_iff] at hx
  obtain ⟨⟨rs, S1⟩, h1, ds, hd, hx⟩ := hx
  split at hx
  · rename_i hz
    cases hx
    refine ⟨m, G, ρ, S, rs, _, hE, hS, h1, fun vs m1 H1 s1 hS1 q1 => ?_⟩
    have r1 := q1.fzs hd
    refine ⟨by rw [← r1.length]; exact big_size hz, fun p hp => ?_⟩
    have e := Ext.new (o := .tup vs) hp
    have s2 : Step m1 H1 m1 (upd H1 p (.tup vs)) := Step.of_ext e
    refine k (.ref p) m1 _ (s1.trans s2) (hS1.ext e) ?_ trivial
    simp only [RepR, RepP]
    exact ⟨p, vs, rfl, .inl ⟨.inl upd_same, hS1.fresh hp⟩, RepPs.step s2 ds vs r1⟩
  · cases hx
theorem xe_lst (h : PA X es (tOfA X.K xs)) : PE X (.List es pos) (tOf X.K (xLst xs)) := PE.imp (pe_lst h) fun σ H Q h => by
  obtain ⟨m, G, ρ, S, r, S', hE, hS, hx, k⟩ := h
  simp only [xLst, Option.bind_eq_some_iff] at hx
  obtain ⟨⟨rs, S1⟩, h1, ds, hd, hx⟩ := hx
  split at hx
  · rename_i hz
    cases hx
    refine ⟨m, G, ρ, S, rs, _, hE, hS, h1, fun vs m1 H1 s1 hS1 q1 => ?_⟩
    have r1 := q1.fzs hd
    refine ⟨by rw [← r1.length]; exact big_size hz, fun p hp => ?_⟩
    have e := Ext.new (o := .lst vs) hp
    have s2 : Step m1 H1 m1 (upd H1 p (.lst vs)) := Step.of_ext e
    exact k (.ref p) m1 _ (s1.trans s2) (hS1.ext e) ⟨p, vs, rfl, hS1.fresh hp, upd_same, RepPs.step s2 ds vs r1⟩ ((own_new hS1 hp r1).back s1.dom)
  · cases hx
/-- a built-in by values -/
theorem tOf.call {K : PySem.W.Frag} {σ : L2.St} {H : Hp} {Q : VK} {f : List P → Option R} {xs : XA} (h : tOf K (xCall f xs) σ H Q) : tCB (cOf K f) (tOfA K xs) σ H Q := by
  obtain ⟨m, G, ρ, S, r, S', hE, hS, hx, k⟩ := h
  simp only [xCall, Option.bind_eq_some_iff, Option.map_eq_some_iff] at hx
  obtain ⟨⟨rs, S1⟩, h1, ds, hd, r', hf, e⟩ := hx
  cases e
  refine ⟨m, G, ρ, S, rs, S1, hE, hS, h1, fun vs m1 H1 s1 hS1 q1 => ⟨m1, G, S1, ds, _, hS1, q1.rds hS1 hd, hf, fun v H' e q o => ?_⟩⟩
  exact k v m1 H' (s1.trans (Step.of_ext e)) (hS1.ext e) q (o.back s1.dom)
end
end XL
end
section
set_option Elab.async false
set_option linter.all false
set_option maxRecDepth 100000
set_option maxHeartbeats 1000000
namespace XL
open PySem L2

section
variable {K : PySem.W.Frag} {G m m' m1 m2 : List Addr} {H H' H0 H1 H2 : Hp}
theorem Step.pushed (s : Step m H m1 H1) {a : Addr} (h : H a = none) : Step m H (m1 ++ [a]) H1 := by
  obtain ⟨t, rfl, ht⟩ := s.pre
  refine ⟨⟨t ++ [a], by simp, fun b hb => ?_⟩, s.keep, s.dom⟩
  rcases List.mem_append.mp hb with z | z
  · exact ht b z
  · simp at z; subst z; exact h
/-- the general move of data: the cells change, the guarded ones too -/
theorem RepP.move {G' : List Addr} (k : ∀ a o, H a = some o → a ∉ m ++ G → H' a = some o) (f : ∀ a, a ∈ m' ++ G' → a ∈ m ++ G ∨ H a = none) :
    (∀ (d : P) (v : V), RepP K (m ++ G) H d v → RepP K (m' ++ G') H' d v) ∧ ∀ (ds : List P) (vs : List V), RepPs K (m ++ G) H ds vs → RepPs K (m' ++ G') H' ds vs := by
  have mv : ∀ {a : Addr} {u : HO}, Rd H a u → a ∉ m ++ G → Rd H' a u ∧ a ∉ m' ++ G' := fun {a u} h hm => by
    refine ⟨?_, fun z => ?_⟩
    · rcases h with h | ⟨o, h⟩
      · exact .inl (k _ _ h hm)
      · exact .inr ⟨o, k _ _ h hm⟩
    · rcases f a z with z | z
      · exact hm z
      · exact rd_ne h z
  have key : ∀ (n : Nat), (∀ (d : P) (v : V), sizeOf d ≤ n → RepP K (m ++ G) H d v → RepP K (m' ++ G') H' d v) ∧ ∀ (ds : List P) (vs : List V), sizeOf ds ≤ n → RepPs K (m ++ G) H ds vs → RepPs K (m' ++ G') H' ds vs := by
    intro n
    induction n with
    | zero =>
      refine ⟨fun d v z => ?_, fun ds vs z => ?_⟩
      · cases d <;> simp at z
      · cases ds <;> simp at z
    | succ n ih =>
      refine ⟨fun d v z q => ?_, fun ds vs z q => ?_⟩
      · cases d with
        | tup ds =>
          simp only [RepP] at q ⊢
          obtain ⟨a, vs, e, f, r⟩ := q
          exact ⟨a, vs, e, f.elim (fun w => .inl (mv w.1 w.2)) .inr, ih.2 ds vs (by simp at z; omega) r⟩
        | lst ds =>
          simp only [RepP] at q ⊢
          obtain ⟨a, vs, e, f, r⟩ := q
          exact ⟨a, vs, e, f.elim (fun w => .inl (mv w.1 w.2)) .inr, ih.2 ds vs (by simp at z; omega) r⟩
        | non => simpa [RepP] using q
        | bl b => simpa [RepP] using q
        | int b => simpa [RepP] using q
        | str b => simpa [RepP] using q
      · cases ds with
        | nil => simpa [RepPs] using q
        | cons d ds =>
          simp only [RepPs] at q ⊢
          obtain ⟨v, r, e, q1, q2⟩ := q
          exact ⟨v, r, e, ih.1 d v (by simp at z; omega) q1, ih.2 ds r (by simp at z; omega) q2⟩
  exact ⟨fun d v => (key (sizeOf d)).1 d v (Nat.le_refl _), fun ds vs => (key (sizeOf ds)).2 ds vs (Nat.le_refl _)⟩
theorem RepD.sub (h : ∀ a, a ∈ m → a ∈ m') (g : ∀ (l : Nat) (a : Addr), m'[l]? = some a → m[l]? = some a) {d : D} {v : V} (q : RepD K G m' H d v) : RepD K G m H d v := by
  cases d with
  | p d =>
    exact (RepP.sub (m := m ++ G) (m' := m' ++ G) fun a ha => by
      simp only [List.mem_append] at ha ⊢
      exact ha.elim (fun z => .inl (h a z)) .inr).1 d v q
  | ref l => obtain ⟨a, e, z⟩ := q; exact ⟨a, e, g l a z⟩
theorem RepDs.step (s : Step m H m' H') : ∀ {ds : List D} {vs : List V}, RepDs K G m H ds vs → RepDs K G m' H' ds vs
  | [], vs, h => h
  | d :: ds, vs, h => by
    obtain ⟨v, w, e, h1, h2⟩ := h
    exact ⟨v, w, e, h1.step s, RepDs.step s h2⟩
theorem RepDs.length : ∀ {ds : List D} {vs : List V}, RepDs K G m H ds vs → ds.length = vs.length
  | [], vs, h => by simp only [RepDs] at h; subst h; rfl
  | d :: ds, vs, h => by
    obtain ⟨v, w, rfl, h1, h2⟩ := h
    simp [RepDs.length h2]
theorem RepDs.get : ∀ {ds : List D} {vs : List V} {i : Nat} {d : D}, RepDs K G m H ds vs → ds[i]? = some d → ∃ v, vs[i]? = some v ∧ RepD K G m H d v
  | [], vs, i, d, h, e => by simp at e
  | x :: ds, vs, 0, d, h, e => by
    obtain ⟨v, r, rfl, h1, h2⟩ := h
    simp at e; subst e
    exact ⟨v, by simp, h1⟩
  | x :: ds, vs, i + 1, d, h, e => by
    obtain ⟨v, r, rfl, h1, h2⟩ := h
    obtain ⟨w, hw, q⟩ := RepDs.get (i := i) h2 (by simpa using e)
    exact ⟨w, by simpa using hw, q⟩
theorem RepE.set {ρ : Env} {σ : L2.St} {i : Nat} {d : D} {v : V} (h : RepE K G m H ρ σ) (q : RepD K G m H d v) : RepE K G m H (ρ.set i (some d)) (σ.set i (some v)) := by
  refine ⟨by simp [h.len], fun j e hj => ?_⟩
  by_cases c : i = j
  · subst c
    have hl : i < ρ.length := by
      have := (List.getElem?_eq_some_iff.mp hj).1
      simpa using this
    rw [List.getElem?_set_self hl] at hj
    simp only [Option.some.injEq] at hj
    subst hj
    exact ⟨v, List.getElem?_set_self (h.len ▸ hl), q⟩
  · rw [List.getElem?_set_ne c] at hj
    obtain ⟨w, hw, qw⟩ := h.slot j e hj
    exact ⟨w, by rw [List.getElem?_set_ne c]; exact hw, qw⟩
/-- a new thing becomes a cell -/
theorem box_ok {S : Sto} {r : R} {v : V} (s : Step m H m1 H1) (hS : RepSt K G m1 S H1) (q : RepR K G m1 H1 r v) (o : Own K H G m1 H1 S r v) :
    ∃ m2, Step m H m2 H1 ∧ RepSt K G m2 (r.box S).2 H1 ∧ RepD K G m2 H1 (r.box S).1 v := by
  cases r with
  | p d => exact ⟨m1, s, hS, q⟩
  | ref l => exact ⟨m1, s, hS, q⟩
  | frl ds =>
    obtain ⟨a, rfl, h0, q2⟩ := o
    have hl := hS.len
    exact ⟨m1 ++ [a], s.pushed h0, q2, a, rfl, by simp [← hl]⟩
  | frd kvs => exact o.elim
theorem arg_ok {S : Sto} {r : R} {v : V} (s : Step m H m1 H1) (hS : RepSt K G m1 S H1) (q : RepR K G m1 H1 r v) (o : Own K H G m1 H1 S r v) :
    ∃ m2, Step m H m2 H1 ∧ RepSt K G m2 (r.arg S).2 H1 ∧ RepD K G m2 H1 (r.arg S).1 v := by
  cases r with
  | p d => exact ⟨m1, s, hS, q⟩
  | ref l => exact ⟨m1, s, hS, q⟩
  | frl ds => exact ⟨m1, s, hS, RepR.fz (r := .frl ds) q rfl⟩
  | frd kvs => exact o.elim
/-- some of the cells, in another order -/
theorem RepSt.pick {S : Sto} (hS : RepSt K G m S H) (js : List Nat) (hn : js.Nodup) (hb : ∀ k ∈ js, k < m.length) :
    RepSt K G (js.map fun k => m.getD k 0) (js.map fun k => S.getD k (.lst [])) H := by
  have hm : ∀ k ∈ js, m[k]? = some (m.getD k 0) := fun k hk => by
    rw [List.getD_eq_getElem?_getD, List.getElem?_eq_getElem (hb k hk)]; rfl
  have sub : ∀ a, a ∈ js.map (fun k => m.getD k 0) → a ∈ m := fun a ha => by
    obtain ⟨k, hk, rfl⟩ := List.mem_map.mp ha
    exact List.mem_of_getElem? (hm k hk)
  have sub2 : ∀ a, a ∈ js.map (fun k => m.getD k 0) ++ G → a ∈ m ++ G := fun a ha => by
    simp only [List.mem_append] at ha ⊢
    exact ha.elim (fun z => .inl (sub a z)) .inr
  refine ⟨by simp, ?_, fun l a c h1 h2 => ?_, fun a ha => ⟨(hS.gd a ha).1, fun z => (hS.gd a ha).2 (sub a z)⟩⟩
  · unfold List.Nodup
    rw [List.pairwise_map]
    refine List.Pairwise.imp_of_mem (fun {x y} hx hy hne e => hne ?_) hn
    have e1 := hm x hx
    have e2 := hm y hy
    rw [e] at e1
    exact (List.getElem?_inj (hb x hx) hS.nd).mp (e1.trans e2.symm)
  · rw [List.getElem?_map] at h1 h2
    cases hj : js[l]? with
    | none => rw [hj] at h1; cases h1
    | some k =>
      rw [hj] at h1 h2
      simp only [Option.map_some, Option.some.injEq] at h1 h2
      have hk : k ∈ js := List.mem_of_getElem? hj
      have hk2 : k < S.length := hS.len ▸ hb k hk
      have q := hS.cell k a c (by rw [hm k hk, h1]) (by rw [List.getElem?_eq_getElem hk2, ← h2, List.getD_eq_getElem?_getD, List.getElem?_eq_getElem hk2]; rfl)
      cases c with
      | lst es => obtain ⟨ws, z, w⟩ := q; exact ⟨ws, z, (RepP.sub sub2).2 es ws w⟩
      | dct b kvs => exact q
theorem take_range {α : Type} (d : α) : ∀ (n : Nat) (l : List α), n ≤ l.length → (List.range n).map (fun k => l.getD k d) = l.take n := by
  intro n l h
  apply List.ext_getElem?
  intro i
  rw [List.getElem?_map, List.getElem?_take]
  by_cases hi : i < n
  · rw [List.getElem?_range hi, if_pos hi]
    simp only [Option.map_some, List.getD_eq_getElem?_getD]
    rw [List.getElem?_eq_getElem (by omega)]; rfl
  · rw [if_neg hi, List.getElem?_eq_none (by simp; omega)]; rfl
theorem nodup_range_app {n : Nat} {ks : List Nat} (hn : ks.Nodup) (h : ∀ k ∈ ks, n ≤ k) : (List.range n ++ ks).Nodup := by
  rw [List.nodup_append]
  refine ⟨List.nodup_range, hn, fun a ha b hb e => ?_⟩
  have h1 := List.mem_range.mp ha
  have h2 := h b hb
  omega
/-- the first n cells and some others -/
theorem RepSt.pickT {S : Sto} (hS : RepSt K G m S H) (n : Nat) (ks : List Nat) (hn : n ≤ m.length) (nd : ks.Nodup) (hk : ∀ k ∈ ks, n ≤ k ∧ k < m.length) :
    RepSt K G (m.take n ++ ks.map fun k => m.getD k 0) (S.take n ++ ks.map fun k => S.getD k (.lst [])) H := by
  have q := hS.pick (List.range n ++ ks) (nodup_range_app nd fun k h => (hk k h).1) (fun k h => by
    rcases List.mem_append.mp h with z | z
    · have := List.mem_range.mp z; omega
    · exact (hk k z).2)
  rw [List.map_append, List.map_append, take_range 0 n m hn, take_range (.lst []) n S (by rw [← hS.len]; exact hn)] at q
  exact q
theorem RepSt.takeT {S : Sto} (hS : RepSt K G m S H) (n : Nat) (hn : n ≤ m.length) : RepSt K G (m.take n) (S.take n) H := by
  have q := hS.pickT n [] hn List.nodup_nil (fun k h => by cases h)
  simpa using q
/-- behind a def -/
theorem finish_ok {S' S2 : Sto} {r r2 : R} {v : V} {n : Nat} (hn : m.length = n) (s : Step m H m' H') (hS : RepSt K G m' S' H') (q : RepR K G m' H' r v) (o : Own K H G m' H' S' r v) (e : finish n r S' = some (r2, S2)) :
    RepSt K G m S2 H' ∧ RepR K G m H' r2 v ∧ Own K H G m H' S2 r2 v := by
  obtain ⟨t, em, ht⟩ := s.pre
  have hl : n ≤ m'.length := by rw [em]; simp; omega
  have tk : m'.take n = m := by rw [em, ← hn]; simp
  have sub : ∀ a, a ∈ m ++ G → a ∈ m' ++ G := fun a ha => by
    rw [em]
    simp only [List.mem_append] at ha ⊢
    exact ha.elim (fun z => .inl (.inl z)) .inr
  have st : RepSt K G m (S'.take n) H' := by rw [← tk]; exact hS.takeT n hl
  cases r with
  | p d =>
    cases e
    exact ⟨st, (RepP.sub sub).1 d v q, trivial⟩
  | ref l =>
    obtain ⟨a, rfl, hm⟩ := q
    simp only [finish] at e
    split at e
    · rename_i hln
      cases e
      refine ⟨st, ⟨a, rfl, ?_⟩, trivial⟩
      rw [em, List.getElem?_append_left (by omega)] at hm
      exact hm
    · rename_i hln
      have hlm : l < m'.length := (List.getElem?_eq_some_iff.mp hm).1
      have e0 : m'.getD l 0 = a := by rw [List.getD_eq_getElem?_getD, hm]; rfl
      have pk := hS.pickT n [l] hl (by simp) (fun k h => by simp at h; subst h; exact ⟨by omega, hlm⟩)
      rw [tk] at pk
      simp only [List.map_cons, List.map_nil, e0] at pk
      have ha : H a = none := by
        refine ht a ?_
        rw [em, List.getElem?_append_right (by omega)] at hm
        exact List.mem_of_getElem? hm
      split at e
      · rename_i ds hd
        cases e
        have e1 : S'.getD l (.lst []) = .lst ds := by rw [List.getD_eq_getElem?_getD, hd]; rfl
        rw [e1] at pk
        have ow : Own K H G m H' (S'.take n) (.frl ds) (.ref a) := ⟨a, rfl, ha, pk⟩
        exact ⟨st, (own_rep ow).2, ow⟩
      · rename_i kvs hd
        exact (hS.cell l a _ hm hd).elim
      · cases e
  | frl ds =>
    cases e
    obtain ⟨a, rfl, h0, q2⟩ := o
    have hlen := q2.len
    simp only [List.length_append, List.length_singleton] at hlen
    have pk := q2.pickT n [m'.length] (by simp; omega) (by simp) (fun k h => by simp at h; subst h; exact ⟨hl, by simp⟩)
    rw [List.take_append_of_le_length hl, tk, List.take_append_of_le_length (by omega)] at pk
    have e1 : (m' ++ [a]).getD m'.length 0 = a := by simp [List.getD_eq_getElem?_getD]
    have e2 : (S' ++ [Cell.lst ds]).getD m'.length (.lst []) = .lst ds := by
      have : m'.length = S'.length := by omega
      rw [this]; simp [List.getD_eq_getElem?_getD]
    simp only [List.map_cons, List.map_nil, e1, e2] at pk
    have ow : Own K H G m H' (S'.take n) (.frl ds) (.ref a) := ⟨a, rfl, h0, pk⟩
    exact ⟨st, (own_rep ow).2, ow⟩
  | frd kvs => exact o.elim
/-! ### cells dropped behind a turn -/
theorem slotRefs_spec (n0 : Nat) : ∀ (ρ : Env), (slotRefs n0 ρ).Nodup ∧ ∀ l, l ∈ slotRefs n0 ρ ↔ (n0 ≤ l ∧ some (D.ref l) ∈ ρ)
  | [] => ⟨by simp [slotRefs], fun l => by simp [slotRefs]⟩
  | none :: ρ => by
    obtain ⟨h1, h2⟩ := slotRefs_spec n0 ρ
    exact ⟨by simpa [slotRefs] using h1, fun l => by simp [slotRefs, h2 l]⟩
  | some (.p d) :: ρ => by
    obtain ⟨h1, h2⟩ := slotRefs_spec n0 ρ
    exact ⟨by simpa [slotRefs] using h1, fun l => by simp [slotRefs, h2 l]⟩
  | some (.ref k) :: ρ => by
    obtain ⟨h1, h2⟩ := slotRefs_spec n0 ρ
    by_cases c : n0 ≤ k ∧ k ∉ slotRefs n0 ρ
    · refine ⟨by simp [slotRefs, c, h1], fun l => ?_⟩
      simp only [slotRefs, if_pos c, List.mem_cons, h2 l]
      constructor
      · rintro (rfl | h)
        · exact ⟨c.1, .inl rfl⟩
        · exact ⟨h.1, .inr h.2⟩
      · rintro ⟨h, e | e⟩
        · simp only [Option.some.injEq, D.ref.injEq] at e
          exact .inl e
        · exact .inr ⟨h, e⟩
    · refine ⟨by simp only [slotRefs, if_neg c]; exact h1, fun l => ?_⟩
      simp only [slotRefs, if_neg c, List.mem_cons, h2 l]
      constructor
      · exact fun h => ⟨h.1, .inr h.2⟩
      · rintro ⟨h, e | e⟩
        · simp only [Option.some.injEq, D.ref.injEq] at e
          subst e
          by_cases z : l ∈ slotRefs n0 ρ
          · exact (h2 l).mp z
          · exact absurd ⟨h, z⟩ c
        · exact ⟨h, e⟩
theorem gc_ok {ρ : Env} {S : Sto} {σ : L2.St} (s : Step m H m' H') (hS : RepSt K G m' S H') (hE : RepE K G m' H' ρ σ) :
    ∃ m2, Step m H m2 H' ∧ RepSt K G m2 (gc m.length ρ S).2 H' ∧ RepE K G m2 H' (gc m.length ρ S).1 σ := by
  unfold gc
  split
  · exact ⟨m', s, hS, hE⟩
  · obtain ⟨t, em, ht⟩ := s.pre
    have hl : m.length ≤ m'.length := by rw [em]; simp
    have tk : m'.take m.length = m := by rw [em]; simp
    obtain ⟨nd, mem⟩ := slotRefs_spec m.length ρ
    have hk : ∀ k ∈ slotRefs m.length ρ, m.length ≤ k ∧ k < m'.length := fun k h => by
      obtain ⟨h1, h2⟩ := (mem k).mp h
      obtain ⟨i, hi⟩ := List.getElem?_of_mem h2
      obtain ⟨v, _, a, _, hm⟩ := hE.slot i _ hi
      exact ⟨h1, (List.getElem?_eq_some_iff.mp hm).1⟩
    have pk := hS.pickT m.length (slotRefs m.length ρ) hl nd hk
    rw [tk] at pk
    have inm : ∀ a, a ∈ m ++ (slotRefs m.length ρ).map (fun k => m'.getD k 0) → a ∈ m' := fun a ha => by
      rcases List.mem_append.mp ha with z | z
      · rw [em]; exact List.mem_append_left _ z
      · obtain ⟨k, hk2, rfl⟩ := List.mem_map.mp z
        rw [List.getD_eq_getElem?_getD, List.getElem?_eq_getElem (hk k hk2).2]
        exact List.getElem_mem _
    refine ⟨m ++ (slotRefs m.length ρ).map (fun k => m'.getD k 0), ⟨⟨_, rfl, fun a ha => ?_⟩, s.keep, s.dom⟩, pk, by simp [hE.len], fun i d hd => ?_⟩
    · obtain ⟨k, hk2, rfl⟩ := List.mem_map.mp ha
      refine ht _ ?_
      obtain ⟨k1, k2⟩ := hk k hk2
      rw [List.getD_eq_getElem?_getD, List.getElem?_eq_getElem k2]
      simp only [em, Option.getD_some]
      rw [List.getElem_append_right k1]
      exact List.getElem_mem _
    · rw [List.getElem?_map] at hd
      cases hr : ρ[i]? with
      | none => rw [hr] at hd; cases hd
      | some x =>
        rw [hr] at hd
        simp only [Option.map_some, Option.some.injEq] at hd
        cases x with
        | none => simp [renSlot] at hd
        | some x =>
          obtain ⟨v, hv, q⟩ := hE.slot i x hr
          refine ⟨v, hv, ?_⟩
          cases x with
          | p d' =>
            simp only [renSlot, Option.some.injEq] at hd
            subst hd
            exact (RepP.sub (fun a ha => by
              simp only [List.mem_append] at ha ⊢
              exact ha.elim (fun z => .inl (inm a (by simpa using z))) .inr)).1 d' v q
          | ref l =>
            simp only [renSlot, Option.some.injEq] at hd
            subst hd
            obtain ⟨a, rfl, hm⟩ := q
            refine ⟨a, rfl, ?_⟩
            unfold renRef
            by_cases c : l < m.length
            · rw [if_pos c, List.getElem?_append_left c]
              rw [em, List.getElem?_append_left c] at hm
              exact hm
            · rw [if_neg c]
              have hl2 : l ∈ slotRefs m.length ρ := (mem l).mpr ⟨by omega, List.mem_of_getElem? hr⟩
              rw [List.getElem?_append_right (by omega)]
              have hx : (slotRefs m.length ρ).idxOf l < (slotRefs m.length ρ).length := List.idxOf_lt_length_iff.mpr hl2
              rw [show m.length + (slotRefs m.length ρ).idxOf l - m.length = (slotRefs m.length ρ).idxOf l by omega, List.getElem?_map, List.getElem?_eq_getElem hx]
              simp only [Option.map_some, List.getElem_idxOf, List.getD_eq_getElem?_getD, hm, Option.getD_some]
end
end XL
end
section
set_option Elab.async false
set_option linter.all false
set_option maxRecDepth 100000
set_option maxHeartbeats 1000000
namespace XL
open PySem L2
theorem FlOk.mono {K : PySem.W.Frag} {G m m1 : List Addr} {H H1 : Hp} {D : Ends} {S' : Sto} {fl : Fl} (s : Step m H m1 H1) (h : FlOk K G m H D S' fl) : FlOk K G m1 H1 D S' fl := by
  cases fl with
  | nx ρ => exact fun σ' m' H' st hS hE => h σ' m' H' (s.trans st) hS hE
  | bk ρ => exact fun σ' m' H' st hS hE => h σ' m' H' (s.trans st) hS hE
  | ct ρ => exact fun σ' m' H' st hS hE => h σ' m' H' (s.trans st) hS hE
  | rt r => exact fun v m' H' st hS q o => h v m' H' (s.trans st) hS q (o.back s.dom)
section
variable {K : PySem.W.Frag} {D : Ends} {σ : L2.St} {H : Hp}
theorem set_rd {xa : XE} {i : Nat} (h : tOfS K (xSet i xa) D σ H) : tAsg (tOf K xa) (gName i) D σ H := by
  obtain ⟨m, G, ρ, S, fl, S', hE, hS, hx, k⟩ := h
  simp only [xSet, Option.map_eq_some_iff] at hx
  obtain ⟨⟨r1, S1⟩, h1, e⟩ := hx
  cases e
  refine ⟨m, G, ρ, S, r1, S1, hE, hS, h1, fun v m1 H1 s1 hS1 q1 o1 => ?_⟩
  obtain ⟨m2, s2, hS2, q2⟩ := box_ok s1 hS1 q1 o1
  exact k _ m2 H1 s2 hS2 ((hE.step s2).set q2)
theorem drop_rd {xa : XE} (h : tOfS K (xDrop xa) D σ H) : tDrop (tOf K xa) D σ H := by
  obtain ⟨m, G, ρ, S, fl, S', hE, hS, hx, k⟩ := h
  simp only [xDrop, Option.map_eq_some_iff] at hx
  obtain ⟨⟨r1, S1⟩, h1, e⟩ := hx
  cases e
  exact ⟨m, G, ρ, S, r1, S1, hE, hS, h1, fun v m1 H1 s1 hS1 q1 o1 => k _ m1 H1 s1 hS1 (hE.step s1)⟩
theorem ret_rd {xa : XE} (h : tOfS K (xRet xa) D σ H) : tRet (tOf K xa) D σ H := by
  obtain ⟨m, G, ρ, S, fl, S', hE, hS, hx, k⟩ := h
  simp only [xRet, Option.map_eq_some_iff] at hx
  obtain ⟨⟨r1, S1⟩, h1, e⟩ := hx
  cases e
  exact ⟨m, G, ρ, S, r1, S1, hE, hS, h1, fun v m1 H1 s1 hS1 q1 o1 => k v m1 H1 s1 hS1 q1 o1⟩
theorem seq_rd {a b : XS} (h : tOfS K (xSeq a b) D σ H) : tSeq (tOfS K a) (tOfS K b) D σ H := by
  obtain ⟨m, G, ρ, S, fl, S', hE, hS, hx, k⟩ := h
  simp only [xSeq, Option.bind_eq_some_iff] at hx
  obtain ⟨⟨f1, S1⟩, h1, hx⟩ := hx
  dsimp only at hx
  cases f1 with
  | nx ρ1 => exact ⟨m, G, ρ, S, .nx ρ1, S1, hE, hS, h1, fun σ' m' H' st hS' hE' => ⟨m', G, ρ1, S1, fl, S', hE', hS', hx, k.mono st⟩⟩
  | rt r => cases hx; exact ⟨m, G, ρ, S, .rt r, _, hE, hS, h1, k⟩
  | bk r => cases hx; exact ⟨m, G, ρ, S, .bk r, _, hE, hS, h1, k⟩
  | ct r => cases hx; exact ⟨m, G, ρ, S, .ct r, _, hE, hS, h1, k⟩
theorem if_rd {t : XT} {a b : XS} (h : tOfS K (xIfS t a b) D σ H) : tIfS (tOfT K t) (tOfS K a) (tOfS K b) D σ H := by
  obtain ⟨m, G, ρ, S, fl, S', hE, hS, hx, k⟩ := h
  simp only [xIfS, Option.bind_eq_some_iff] at hx
  obtain ⟨⟨b1, S1⟩, h1, hx⟩ := hx
  refine ⟨m, G, ρ, S, b1, S1, hE, hS, h1, fun m1 H1 s1 hS1 => ?_⟩
  dsimp only at hx
  cases b1 with
  | true =>
    rw [if_pos rfl] at hx ⊢
    exact ⟨m1, G, ρ, S1, fl, S', hE.step s1, hS1, hx, k.mono s1⟩
  | false =>
    rw [if_neg (by simp)] at hx ⊢
    exact ⟨m1, G, ρ, S1, fl, S', hE.step s1, hS1, hx, k.mono s1⟩
end
section
variable {X : Cx} {e c : Expr} {xa : XE} {pos pos' : Pos} {st : Stmt} {rest body els : List Stmt} {sa sb : XS}
theorem xs_set {i : Nat} {x : Str} (hN : X.N.Nodup) (hi : X.N[i]? = some x) (hx : Loc X.env.scope x) (he : PE X e (tOf X.K xa)) (hs : swapsWith e (some (.Name x pos')) pos.line X.env = pure false := by rfl) (hf : X.fn x = true ∨ X.env.scope.names.lookup x = some .local := by first | exact .inl rfl | exact .inr rfl | assumption) :
    PS X (.Assign [.Name x pos'] e pos) (tOfS X.K (xSet i xa)) := PS.imp (ps_set hN hi hx he hs hf) fun D σ H h => set_rd h
theorem xs_drop (he : PE X e (tOf X.K xa)) (hs : swapsWith e none pos.line X.env = pure false := by rfl) : PS X (.Expr e pos) (tOfS X.K (xDrop xa)) := PS.imp (ps_expr he hs) fun D σ H h => drop_rd h
theorem xs_ret (he : PE X e (tOf X.K xa)) : PS X (.Return (some e) pos) (tOfS X.K (xRet xa)) := PS.imp (ps_ret he) fun D σ H h => ret_rd h
theorem xs_pass : PS X (.Pass pos) (tOfS X.K xPass) := PS.imp ps_pass fun D σ H h => by
  obtain ⟨m, G, ρ, S, fl, S', hE, hS, hx, k⟩ := h
  cases hx
  exact k σ m H Step.refl hS hE
theorem xs_never : PS X st (tOfS X.K xNever) := PS.imp ps_never fun D σ H h => by
  obtain ⟨m, G, ρ, S, fl, S', hE, hS, hx, k⟩ := h
  cases hx
theorem xss_never : PSs X rest (tOfS X.K xNever) := PSs.imp pss_never fun D σ H h => by
  obtain ⟨m, G, ρ, S, fl, S', hE, hS, hx, k⟩ := h
  cases hx
theorem xss_nil : PSs X [] (tOfS X.K xPass) := PSs.imp pss_nil fun D σ H h => by
  obtain ⟨m, G, ρ, S, fl, S', hE, hS, hx, k⟩ := h
  cases hx
  exact k σ m H Step.refl hS hE
theorem xss_cons (h1 : PS X st (tOfS X.K sa)) (h2 : PSs X rest (tOfS X.K sb)) : PSs X (st :: rest) (tOfS X.K (xSeq sa sb)) := PSs.imp (pss_cons h1 h2) fun D σ H h => seq_rd h
theorem xss_one (h1 : PS X st (tOfS X.K sa)) : PSs X [st] (tOfS X.K sa) := pss_one h1
theorem xs_if {t : XT} (hc : PT X c (tOfT X.K t)) (ha : PSs X body (tOfS X.K sa)) (hb : PSs X els (tOfS X.K sb)) : PS X (.If c body els pos) (tOfS X.K (xIfS t sa sb)) := PS.imp (ps_if hc ha hb) fun D σ H h => if_rd h
end

/-! ### targets -/
def Tg.slots : Tg → List Nat
  | .nm i => [i]
  | .tp is => is
def SameBut (vs : List Nat) (σ σ' : L2.St) : Prop := σ'.length = σ.length ∧ ∀ i, i ∉ vs → σ'[i]? = σ[i]?
def gOf (K : PySem.W.Frag) (t : Tg) : TG := fun v σ H Q => ∃ m G ρ d ρ', RepE K G m H ρ σ ∧ RepP K (m ++ G) H d v ∧ t.put d ρ = some ρ' ∧ ∀ σ', RepE K G m H ρ' σ' → SameBut t.slots σ σ' → Q σ' H
def gsOf (K : PySem.W.Frag) (is : List Nat) : TGs := fun vs σ H Q => ∃ m G ρ ds ρ', RepE K G m H ρ σ ∧ RepPs K (m ++ G) H ds vs ∧ setAll is ds ρ = some ρ' ∧ ∀ σ', RepE K G m H ρ' σ' → SameBut is σ σ' → Q σ' H
theorem PG.imp {X : Cx} {tg : Expr} {t t' : TG} (h : PG X tg t) (w : ∀ v σ H Q, t' v σ H Q → t v σ H Q) : PG X tg t' := ⟨fun pins s σ H v u Q I r q => h.run pins s σ H v u Q I r (w v σ H Q q)⟩
theorem PGs.imp {X : Cx} {tg : List Expr} {t t' : TGs} (h : PGs X tg t) (w : ∀ v σ H Q, t' v σ H Q → t v σ H Q) : PGs X tg t' := ⟨fun pins s σ H v u Q I r q => h.run pins s σ H v u Q I r (w v σ H Q q)⟩
theorem sameBut_set {σ : L2.St} {i : Nat} {x : Option V} {vs : List Nat} (h : i ∈ vs) : SameBut vs σ (σ.set i x) := ⟨by simp, fun j hj => List.getElem?_set_ne (fun (e : i = j) => hj (e ▸ h))⟩
theorem SameBut.trans {vs ws : List Nat} {σ σ1 σ2 : L2.St} (h : SameBut vs σ σ1) (q : SameBut ws σ1 σ2) (hv : ∀ i ∈ vs, i ∈ us) (hw : ∀ i ∈ ws, i ∈ us) : SameBut us σ σ2 :=
  ⟨q.1.trans h.1, fun i hi => (q.2 i fun z => hi (hw i z)).trans (h.2 i fun z => hi (hv i z))⟩
section
variable {X : Cx} {es : List Expr} {pos : Pos}
theorem xg_name {i : Nat} {x : Str} (hN : X.N.Nodup) (hi : X.N[i]? = some x) (hx : Loc X.env.scope x) (hf : X.fn x = true ∨ X.env.scope.names.lookup x = some .local := by first | exact .inl rfl | exact .inr rfl | assumption) : PG X (.Name x pos) (gOf X.K (.nm i)) :=
  PG.imp (pg_name hN hi hx hf) fun v σ H Q h => by
    obtain ⟨m, G, ρ, d, ρ', hE, hd, hp, k⟩ := h
    cases hp
    exact k _ (hE.set hd) (sameBut_set (by simp [Tg.slots]))
theorem xgs_nil : PGs X [] (gsOf X.K []) := PGs.imp pgs_nil fun v σ H Q h => by
  obtain ⟨m, G, ρ, d, ρ', hE, hd, hp, k⟩ := h
  cases d with
  | nil => cases hp; simp only [RepPs] at hd; exact ⟨hd, k σ hE ⟨rfl, fun _ _ => rfl⟩⟩
  | cons x xs => simp [setAll] at hp
theorem xgs_cons {e : Expr} {i : Nat} {is : List Nat} (h1 : PG X e (gName i)) (h2 : PGs X es (gsOf X.K is)) (hs : (assignEach (e :: es) X.env).map (·.2) = assign e X.env :: (assignEach es X.env).map (·.2) := by rfl) : PGs X (e :: es) (gsOf X.K (i :: is)) :=
  PGs.imp (pgs_cons h1 h2 hs) fun v σ H Q h => by
    obtain ⟨m, G, ρ, d, ρ', hE, hd, hp, k⟩ := h
    cases d with
    | nil => simp [setAll] at hp
    | cons x xs =>
      simp only [RepPs] at hd
      obtain ⟨w, r, rfl, q1, q2⟩ := hd
      simp only [setAll] at hp
      refine ⟨w, r, rfl, m, G, _, xs, ρ', hE.set (d := .p x) q1, q2, hp, fun σ' hE' sb => k σ' hE' ?_⟩
      exact (sameBut_set (vs := [i]) (by simp)).trans sb (by simp) (fun j hj => List.mem_cons_of_mem _ hj)
theorem setAll_length : ∀ {is : List Nat} {ds : List P} {ρ ρ' : Env}, setAll is ds ρ = some ρ' → ds.length = is.length
  | [], [], _, _, _ => rfl
  | [], _ :: _, _, _, h => by simp [setAll] at h
  | _ :: _, [], _, _, h => by simp [setAll] at h
  | i :: is, d :: ds, ρ, ρ', h => by simp only [setAll] at h; simp [setAll_length h]
theorem xg_tup {k : Nat} {is : List Nat} (hc : X.calm = true) (h : PGs X es (gsOf X.K is)) (hn : (assignEach es X.env).length = is.length := by rfl) (hst : (assignEach es X.env).findIdx? (·.1) = none := by rfl) : PG X (.Tuple es k pos) (gOf X.K (.tp is)) :=
  PG.imp (pg_tup hc h hn hst) fun v σ H Q h => by
    obtain ⟨m, G, ρ, d, ρ', hE, hd, hp, k⟩ := h
    cases d with
    | tup ds =>
      simp only [RepP] at hd
      obtain ⟨a, vs, rfl, f, r⟩ := hd
      simp only [Tg.put] at hp
      exact ⟨a, vs, rfl, f.sq, by rw [← r.length]; exact setAll_length hp, m, G, ρ, ds, ρ', hE, r, hp, k⟩
    | _ => simp [Tg.put] at hp
/-- a, b = e, e a tuple -/
theorem xs_unp {k : Nat} {is : List Nat} {e : Expr} {xa : XE} {tpos : Pos} (he : PE X e (tOf X.K xa)) (hg : PG X (.Tuple es k tpos) (gOf X.K (.tp is))) (hs : swapsWithSole [.Tuple es k tpos] e pos.line X.env = pure false := by rfl) (hw : swappedStores [.Tuple es k tpos] e X.env = pure none := by rfl)
    (h1 : (assignEach [.Tuple es k tpos] X.env).map (·.2) = [assign (.Tuple es k tpos) X.env] := by rfl) : PS X (.Assign [.Tuple es k tpos] e pos) (tOfS X.K (xUnp is xa)) :=
  PS.imp (ps_asg he hg hs hw h1) fun D σ H h => by
    obtain ⟨m, G, ρ, S, fl, S', hE, hS, hx, k⟩ := h
    simp only [xUnp, Option.bind_eq_some_iff, Option.map_eq_some_iff] at hx
    obtain ⟨⟨r1, S1⟩, h1, d, hd, ρ', hp, e⟩ := hx
    cases e
    refine ⟨m, G, ρ, S, r1, S1, hE, hS, h1, fun v m1 H1 s1 hS1 q1 o1 => ?_⟩
    have q := q1.rd hS1 hd
    cases d with
    | tup ds => exact ⟨m1, G, ρ, .tup ds, ρ', hE.step s1, q, hp, fun σ' hE' _ => k σ' m1 H1 s1 hS1 hE'⟩
    | _ => simp [Tg.put] at hp
end

/-! ### several values at once -/
def tOfD (K : PySem.W.Frag) (x : XD) : TA := fun σ H Q => ∃ m G ρ S ds S', RepE K G m H ρ σ ∧ RepSt K G m S H ∧ x ρ S = some (ds, S') ∧
  ∀ vs m' H', Step m H m' H' → RepSt K G m' S' H' → RepDs K G m' H' ds vs → Q vs H'
section
variable {X : Cx} {e : Expr} {es : List Expr} {pos : Pos} {xa : XE} {xs : XD}
theorem xd_nil : PA X [] (tOfD X.K xNilD) := PA.imp pa_nil fun σ H Q h => by
  obtain ⟨m, G, ρ, S, r, S', hE, hS, hx, k⟩ := h
  cases hx
  exact k [] m H Step.refl hS rfl
theorem xd_consB (ha : PE X e (tOf X.K xa)) (hr : PA X es (tOfD X.K xs)) (hs : starEach (e :: es) X.env = (false, eval e X.env) :: starEach es X.env := by rfl) : PA X (e :: es) (tOfD X.K (xConsB xa xs)) :=
  PA.imp (pa_cons ha hr hs) fun σ H Q h => by
    obtain ⟨m, G, ρ, S, r, S', hE, hS, hx, k⟩ := h
    simp only [xConsB, Option.bind_eq_some_iff, Option.map_eq_some_iff] at hx
    obtain ⟨⟨r1, S1⟩, h1, ⟨r2, S2⟩, h2, e⟩ := hx
    cases e
    refine ⟨m, G, ρ, S, r1, S1, hE, hS, h1, fun v1 m1 H1 s1 hS1 q1 o1 => ?_⟩
    obtain ⟨mb, sb, hSb, qb⟩ := box_ok s1 hS1 q1 o1
    exact ⟨mb, G, ρ, _, r2, S2, hE.step sb, hSb, h2, fun vs m2 H2 s2 hS2 q2 => k (v1 :: vs) m2 H2 (sb.trans s2) hS2 ⟨v1, vs, rfl, qb.step s2, q2⟩⟩
theorem xd_cons (ha : PE X e (tOf X.K xa)) (hr : PA X es (tOfD X.K xs)) (hs : starEach (e :: es) X.env = (false, eval e X.env) :: starEach es X.env := by rfl) : PA X (e :: es) (tOfD X.K (xConsD xa xs)) :=
  PA.imp (pa_cons ha hr hs) fun σ H Q h => by
    obtain ⟨m, G, ρ, S, r, S', hE, hS, hx, k⟩ := h
    simp only [xConsD, Option.bind_eq_some_iff, Option.map_eq_some_iff] at hx
    obtain ⟨⟨r1, S1⟩, h1, ⟨r2, S2⟩, h2, e⟩ := hx
    cases e
    refine ⟨m, G, ρ, S, r1, S1, hE, hS, h1, fun v1 m1 H1 s1 hS1 q1 o1 => ?_⟩
    obtain ⟨mb, sb, hSb, qb⟩ := arg_ok s1 hS1 q1 o1
    exact ⟨mb, G, ρ, _, r2, S2, hE.step sb, hSb, h2, fun vs m2 H2 s2 hS2 q2 => k (v1 :: vs) m2 H2 (sb.trans s2) hS2 ⟨v1, vs, rfl, qb.step s2, q2⟩⟩
theorem setAllD_two {i j : Nat} {ds : List D} {ρ ρ' : Env} (h : setAllD [i, j] ds ρ = some ρ') : ∃ a b, ds = [a, b] ∧ ρ' = (ρ.set i (some a)).set j (some b) := by
  match ds, h with
  | [a, b], h => simp only [setAllD, Option.some.injEq] at h; exact ⟨a, b, rfl, h.symm⟩
  | [], h => simp [setAllD] at h
  | [_], h => simp [setAllD] at h
  | _ :: _ :: _ :: _, h => simp [setAllD] at h
theorem setAllD_three {i j l : Nat} {ds : List D} {ρ ρ' : Env} (h : setAllD [i, j, l] ds ρ = some ρ') : ∃ a b c, ds = [a, b, c] ∧ ρ' = ((ρ.set i (some a)).set j (some b)).set l (some c) := by
  match ds, h with
  | [a, b, c], h => simp only [setAllD, Option.some.injEq] at h; exact ⟨a, b, c, rfl, h.symm⟩
  | [], h => simp [setAllD] at h
  | [_], h => simp [setAllD] at h
  | [_, _], h => simp [setAllD] at h
  | _ :: _ :: _ :: _ :: _, h => simp [setAllD] at h
theorem par_rd2 {K : PySem.W.Frag} {D : Ends} {σ : L2.St} {H : Hp} {i j : Nat} (h : tOfS K (xPar [i, j] xs) D σ H) : tPar i j (tOfD K xs) D σ H := by
  obtain ⟨m, G, ρ, S, fl, S', hE, hS, hx, k⟩ := h
  simp only [xPar, Option.bind_eq_some_iff, Option.map_eq_some_iff] at hx
  obtain ⟨⟨ds, S1⟩, h1, ρ', hp, e⟩ := hx
  cases e
  obtain ⟨a, b, rfl, rfl⟩ := setAllD_two hp
  refine ⟨m, G, ρ, S, [a, b], _, hE, hS, h1, fun vs m1 H1 s1 hS1 q1 => ?_⟩
  obtain ⟨v, r, rfl, qa, w, r2, rfl, qb, e⟩ := q1
  simp only [RepDs] at e
  subst e
  exact ⟨v, w, rfl, k _ m1 H1 s1 hS1 (((hE.step s1).set qa).set qb)⟩
theorem xs_par {i j : Nat} {x y : Str} {a b : Expr} {px py pt : Pos} {kt k2 pt2} (hc : X.calm = true) (hN : X.N.Nodup) (hi : X.N[i]? = some x) (hj : X.N[j]? = some y) (hij : i ≠ j)
    (hx : X.env.scope.names.lookup x = some .local) (hy : X.env.scope.names.lookup y = some .local) (ha : PA X [a, b] (tOfD X.K xs))
    (hw : swappedStores [.Tuple [.Name x px, .Name y py] kt pt] (.Tuple [a, b] k2 pt2) X.env = pure (some [x, y]))
    (hs : swapsWithSole [.Tuple [.Name x px, .Name y py] kt pt] (.Tuple [a, b] k2 pt2) pos.line X.env = pure false := by rfl) :
    PS X (.Assign [.Tuple [.Name x px, .Name y py] kt pt] (.Tuple [a, b] k2 pt2) pos) (tOfS X.K (xPar [i, j] xs)) := PS.imp (ps_par hc hN hi hj hij hx hy ha hw hs) fun D σ H h => par_rd2 h
end
/-! ### stores: the general targets of a tuple that was just made -/
def gNames : List Nat → TGs
  | [] => gNil
  | i :: is => gCons (gName i) (gNames is)
theorem setAllD_ok {K : PySem.W.Frag} {G m : List Addr} {H : Hp} : ∀ {is : List Nat} {ds : List D} {vs : List V} {ρ ρ' : Env} {σ : L2.St} {Q : L2.St → Hp → Prop}, setAllD is ds ρ = some ρ' → RepDs K G m H ds vs → RepE K G m H ρ σ → (∀ σ', RepE K G m H ρ' σ' → Q σ' H) → gNames is vs σ H Q
  | [], [], vs, ρ, ρ', σ, Q, h, q, hE, k => by
    cases h
    simp only [RepDs] at q
    exact ⟨q, k σ hE⟩
  | [], _ :: _, _, _, _, _, _, h, _, _, _ => by simp [setAllD] at h
  | _ :: _, [], _, _, _, _, _, h, _, _, _ => by simp [setAllD] at h
  | i :: is, d :: ds, vs, ρ, ρ', σ, Q, h, q, hE, k => by
    obtain ⟨v, r, rfl, q1, q2⟩ := q
    exact ⟨v, r, rfl, setAllD_ok (is := is) h q2 (hE.set q1) k⟩
theorem setAllD_length : ∀ {is : List Nat} {ds : List D} {ρ ρ' : Env}, setAllD is ds ρ = some ρ' → ds.length = is.length
  | [], [], _, _, _ => rfl
  | [], _ :: _, _, _, h => by simp [setAllD] at h
  | _ :: _, [], _, _, h => by simp [setAllD] at h
  | i :: is, d :: ds, ρ, ρ', h => by simp only [setAllD] at h; simp [setAllD_length h]
section
variable {X : Cx} {es as : List Expr} {pos tpos vpos : Pos} {xs : XD} {is : List Nat} {k k2 : Nat}
/-- a, b, .. = x, y, .. where a tuple is made and taken apart -/
theorem xs_parT (ha : PA X as (tOfD X.K xs)) (hc : X.calm = true) (hg : PGs X es (gNames is)) (hz : is.length ≤ big) (hs : swapsWithSole [.Tuple es k tpos] (.Tuple as k2 vpos) pos.line X.env = pure false := by rfl) (hw : swappedStores [.Tuple es k tpos] (.Tuple as k2 vpos) X.env = pure none := by rfl)
    (h1 : (assignEach [.Tuple es k tpos] X.env).map (·.2) = [assign (.Tuple es k tpos) X.env] := by rfl) (hn : (assignEach es X.env).length = is.length := by rfl) (hst : (assignEach es X.env).findIdx? (·.1) = none := by rfl) :
    PS X (.Assign [.Tuple es k tpos] (.Tuple as k2 vpos) pos) (tOfS X.K (xPar is xs)) :=
  PS.imp (ps_asg (pe_tup ha) (pg_tup hc hg hn hst) hs hw h1) fun D σ H h => by
    obtain ⟨m, G, ρ, S, fl, S', hE, hS, hx, k⟩ := h
    simp only [xPar, Option.bind_eq_some_iff, Option.map_eq_some_iff] at hx
    obtain ⟨⟨ds, S1⟩, h1, ρ', hp, e⟩ := hx
    cases e
    refine ⟨m, G, ρ, S, ds, _, hE, hS, h1, fun vs m1 H1 s1 hS1 q1 => ?_⟩
    have el : vs.length = is.length := by rw [← q1.length]; exact setAllD_length hp
    refine ⟨by rw [el]; exact big_size hz, fun p hp2 => ?_⟩
    have e := Ext.new (o := .tup vs) hp2
    have s2 : Step m1 H1 m1 (upd H1 p (.tup vs)) := Step.of_ext e
    exact ⟨p, vs, rfl, SqT.of upd_same, el, setAllD_ok hp (q1.step s2) ((hE.step s1).step s2) fun σ' hE' => k σ' m1 _ (s1.trans s2) (hS1.ext e) hE'⟩
end
end XL
end
section
set_option Elab.async false
set_option linter.all false
set_option maxRecDepth 100000
set_option maxHeartbeats 1000000
namespace XL
open PySem L2

/-- as Step; what is guarded may change too -/
structure StepG (G m : List Addr) (H : Hp) (m' : List Addr) (H' : Hp) : Prop where
  pre : ∃ t, m' = m ++ t ∧ ∀ a ∈ t, H a = none
  keep : ∀ a o, H a = some o → a ∉ m ++ G → H' a = some o
  dom : ∀ a, H' a = none → H a = none
theorem Step.g {G m m' : List Addr} {H H' : Hp} (s : Step m H m' H') : StepG G m H m' H' := ⟨s.pre, fun a o h hm => s.keep a o h (not_l hm), s.dom⟩
theorem StepG.get {G m m' : List Addr} {H H' : Hp} (s : StepG G m H m' H') {l : Nat} {a : Addr} (h : m[l]? = some a) : m'[l]? = some a := by
  obtain ⟨t, rfl, ht⟩ := s.pre
  have hl : l < m.length := (List.getElem?_eq_some_iff.mp h).1
  rw [List.getElem?_append_left hl]
  exact h
theorem StepG.trans {G m m1 m2 : List Addr} {H H1 H2 : Hp} (s : StepG G m H m1 H1) (u : Step m1 H1 m2 H2) : StepG G m H m2 H2 := by
  obtain ⟨t, rfl, ht⟩ := s.pre
  obtain ⟨t', rfl, ht'⟩ := u.pre
  refine ⟨⟨t ++ t', by simp, fun a ha => ?_⟩, fun a o h hm => ?_, fun a h => s.dom a (u.dom a h)⟩
  · rcases List.mem_append.mp ha with z | z
    · exact ht a z
    · exact s.dom a (ht' a z)
  · refine u.keep a o (s.keep a o h hm) fun z => ?_
    rcases List.mem_append.mp z with z | z
    · exact not_l hm z
    · rw [ht a z] at h; cases h
theorem StepG.updG {G m m1 : List Addr} {H H1 : Hp} {p : Addr} {o : HO} (s : StepG G m H m1 H1) (hp : p ∈ G) (h1 : H1 p ≠ none) : StepG G m H m1 (upd H1 p o) :=
  ⟨s.pre, fun a o' e hm => by
    rw [upd_ne (fun z : a = p => hm (List.mem_append_right _ (by rw [z]; exact hp)))]; exact s.keep a o' e hm, fun a e => by
    by_cases c : a = p
    · subst c; rw [upd_same] at e; cases e
    · rw [upd_ne c] at e; exact s.dom a e⟩
theorem rdG_step {G m m' : List Addr} {H H' : Hp} (s : StepG G m H m' H') {a : Addr} {u : HO} (h : Rd H a u) (hm : a ∉ m ++ G) : Rd H' a u := by
  rcases h with h | ⟨o, h⟩
  · exact .inl (s.keep _ _ h hm)
  · exact .inr ⟨o, s.keep _ _ h hm⟩
/-! ### what is walked -/
structure ItOk (K : PySem.W.Frag) (G m : List Addr) (H : Hp) (ds : List P) (lc : Option Nat) (S : Sto) (J : It) : Prop where
  go : ∀ (i : Nat) (d : P) (G1 m1 : List Addr) (H1 : Hp) (S1 : Sto), ds[i]? = some d → StepG G m H m1 H1 → (∀ a ∈ G1, a ∈ G ∨ H a = none) → RepSt K G1 m1 S1 H1 → cellOk lc S S1 = true → J.go i H1
  yld : ∀ (i : Nat) (d : P) (G1 m1 : List Addr) (H1 : Hp) (S1 : Sto) (x : V) (H2 : Hp), ds[i]? = some d → StepG G m H m1 H1 → (∀ a ∈ G1, a ∈ G ∨ H a = none) → RepSt K G1 m1 S1 H1 → cellOk lc S S1 = true → J.yld i H1 x H2 → Ext H1 H2 ∧ RepP K (m1 ++ G1) H2 d x
  stop : ∀ (G1 m1 : List Addr) (H1 : Hp) (S1 : Sto), StepG G m H m1 H1 → (∀ a ∈ G1, a ∈ G ∨ H a = none) → RepSt K G1 m1 S1 H1 → cellOk lc S S1 = true → J.stop ds.length H1
def iOf (K : PySem.W.Frag) (x : XI) : TI := fun σ H R => ∃ m G ρ S ds lc S', RepE K G m H ρ σ ∧ RepSt K G m S H ∧ x ρ S = some (ds, lc, S') ∧
  ∀ m' H' J, Step m H m' H' → RepSt K G m' S' H' → ItOk K G m' H' ds lc S' J → R J H'
theorem PI.imp {X : Cx} {tg it : Expr} {t t' : TI} (h : PI X tg it t) (w : ∀ σ H R, t' σ H R → t σ H R) : PI X tg it t' := ⟨fun pins s σ H R I q => h.run pins s σ H R I (w σ H R q)⟩
/-- what was forbidden stays, what is new was not there -/
theorem fb_step {G G1 m m1 : List Addr} {H H1 : Hp} (s : StepG G m H m1 H1) (hg : ∀ a ∈ G1, a ∈ G ∨ H a = none) : ∀ a, a ∈ m1 ++ G1 → a ∈ m ++ G ∨ H a = none := fun a ha => by
  obtain ⟨t, rfl, ht⟩ := s.pre
  simp only [List.mem_append] at ha ⊢
  rcases ha with (ha | ha) | ha
  · exact .inl (.inl ha)
  · exact .inr (ht a ha)
  · exact (hg a ha).elim (fun z => .inl (.inr z)) .inr
theorem atS {α : Type} {l : List α} {i : Nat} (h : i < l.length) : ∃ x, l[i]? = some x := ⟨l[i], List.getElem?_eq_getElem h⟩
section
variable {K : PySem.W.Frag} {G m : List Addr} {H : Hp} {ds : List P} {S : Sto}
/-- a list or tuple that stands -/
theorem itok_lst {a : Addr} {vs : List V} (f : FzL K (m ++ G) H a vs) (r : RepPs K (m ++ G) H ds vs) : ItOk K G m H ds none S (Itl K a) := by
  have sq : ∀ {m1 : List Addr} {H1 : Hp}, StepG G m H m1 H1 → SqL K H1 a vs := fun {m1 H1} s => by
    rcases f with ⟨f, hm⟩ | f
    · exact .inl (rdG_step s f hm)
    · exact f.elim
  refine ⟨fun i d G1 m1 H1 S1 hd s hg hS _ => ?_, fun i d G1 m1 H1 S1 x H2 hd s hg hS _ hy => ?_, fun G1 m1 H1 S1 s hg hS _ => ?_⟩
  · obtain ⟨v, hv, _⟩ := r.get hd
    exact ⟨vs, v, sq s, hv⟩
  · obtain ⟨e, hy⟩ := hy
    subst e
    have hx := hy vs (sq s)
    obtain ⟨v, hv, q⟩ := r.get hd
    rw [hv] at hx
    cases hx
    exact ⟨Ext.refl _, (RepP.move s.keep (fb_step s hg)).1 d _ q⟩
  · exact ⟨vs, sq s, by rw [r.length]; exact Nat.le_refl _⟩
theorem itok_tup' {a : Addr} {vs : List V} (f : FzT K (m ++ G) H a vs) (r : RepPs K (m ++ G) H ds vs) : ItOk K G m H ds none S (Itt K a) := by
  have sq : ∀ {m1 : List Addr} {H1 : Hp}, StepG G m H m1 H1 → SqT K H1 a vs := fun {m1 H1} s => by
    rcases f with ⟨f, hm⟩ | f
    · exact .inl (rdG_step s f hm)
    · exact .inr f
  refine ⟨fun i d G1 m1 H1 S1 hd s hg hS _ => ?_, fun i d G1 m1 H1 S1 x H2 hd s hg hS _ hy => ?_, fun G1 m1 H1 S1 s hg hS _ => ?_⟩
  · obtain ⟨v, hv, _⟩ := r.get hd
    exact ⟨vs, v, sq s, hv⟩
  · obtain ⟨e, hy⟩ := hy
    subst e
    have hx := hy vs (sq s)
    obtain ⟨v, hv, q⟩ := r.get hd
    rw [hv] at hx
    cases hx
    exact ⟨Ext.refl _, (RepP.move s.keep (fb_step s hg)).1 d _ q⟩
  · exact ⟨vs, sq s, by rw [r.length]; exact Nat.le_refl _⟩
/-- a cell -/
theorem itok_cell {a : Addr} {l : Nat} (hm : m[l]? = some a) (hc : S[l]? = some (.lst ds)) : ItOk K G m H ds (some l) S (Itl K a) := by
  have sq : ∀ {G1 m1 : List Addr} {H1 : Hp} {S1 : Sto}, StepG G m H m1 H1 → RepSt K G1 m1 S1 H1 → cellOk (some l) S S1 = true → ∃ vs, SqL K H1 a vs ∧ RepPs K (m1 ++ G1) H1 ds vs := fun {G1 m1 H1 S1} s hS hk => by
    simp only [cellOk, decide_eq_true_eq] at hk
    obtain ⟨vs, e, r⟩ := hS.cell l a (.lst ds) (s.get hm) (hk.trans hc)
    exact ⟨vs, SqL.of e, r⟩
  refine ⟨fun i d G1 m1 H1 S1 hd s hg hS hk => ?_, fun i d G1 m1 H1 S1 x H2 hd s hg hS hk hy => ?_, fun G1 m1 H1 S1 s hg hS hk => ?_⟩
  · obtain ⟨vs, q, r⟩ := sq s hS hk
    obtain ⟨v, hv, _⟩ := r.get hd
    exact ⟨vs, v, q, hv⟩
  · obtain ⟨vs, q, r⟩ := sq s hS hk
    obtain ⟨e, hy⟩ := hy
    subst e
    have hx := hy vs q
    obtain ⟨v, hv, w⟩ := r.get hd
    rw [hv] at hx
    cases hx
    exact ⟨Ext.refl _, w⟩
  · obtain ⟨vs, q, r⟩ := sq s hS hk
    exact ⟨vs, q, by rw [r.length]; exact Nat.le_refl _⟩
theorem intsFrom_get : ∀ (n : Nat) (lo : Int) (i : Nat) (d : P), (intsFrom lo n)[i]? = some d → i < n ∧ d = .int (lo + i)
  | 0, lo, i, d, h => by simp [intsFrom] at h
  | n + 1, lo, 0, d, h => by simp [intsFrom] at h; exact ⟨by omega, by rw [← h]; simp⟩
  | n + 1, lo, i + 1, d, h => by
    simp only [intsFrom, List.getElem?_cons_succ] at h
    obtain ⟨h1, h2⟩ := intsFrom_get n (lo + 1) i d h
    refine ⟨by omega, by rw [h2]; congr 1; push_cast; omega⟩
theorem intsFrom_length : ∀ (n : Nat) (lo : Int), (intsFrom lo n).length = n
  | 0, lo => rfl
  | n + 1, lo => by simp [intsFrom, intsFrom_length n]
theorem itok_rng {lo : Int} {n : Nat} : ItOk K G m H (intsFrom lo n) none S (Itr lo n) :=
  ⟨fun i d G1 m1 H1 S1 hd s hg hS _ => (intsFrom_get n lo i d hd).1, fun i d G1 m1 H1 S1 x H2 hd s hg hS _ hy => by
    obtain ⟨e, hy⟩ := hy
    subst e
    rw [(intsFrom_get n lo i d hd).2]
    exact ⟨Ext.refl _, by simp only [RepP]; exact hy⟩, fun G1 m1 H1 S1 s hg hS _ => by rw [intsFrom_length]; exact Nat.le_refl n⟩
theorem itok_str {s : List Nat} : ItOk K G m H (s.map fun c => P.str [c]) none S (Its ⟨s.toArray⟩) := by
  refine ⟨fun i d G1 m1 H1 S1 hd st hg hS _ => ?_, fun i d G1 m1 H1 S1 x H2 hd st hg hS _ hy => ?_, fun G1 m1 H1 S1 st hg hS _ => ?_⟩
  · have := (List.getElem?_eq_some_iff.mp hd).1
    show i < s.toArray.size
    simpa using this
  · obtain ⟨e, c, hc, hx⟩ := hy
    subst e
    rw [List.getElem?_map] at hd
    simp only [List.getElem?_toArray] at hc
    rw [hc] at hd
    simp only [Option.map_some, Option.some.injEq] at hd
    subst hd
    exact ⟨Ext.refl _, by simp only [RepP]; exact hx⟩
  · show s.toArray.size ≤ _
    simp
end
section
variable {X : Cx} {tg e a b : Expr} {xa xb : XE}
def iLT (K : PySem.W.Frag) (tl : TE) : TI := fun σ H R => tl σ H fun x H1 => (∃ a, x = .ref a ∧ (∃ xs, SqL K H1 a xs) ∧ R (Itl K a) H1) ∨ ∃ a, x = .ref a ∧ (∃ xs, SqT K H1 a xs) ∧ R (Itt K a) H1
theorem pi_lt {l : Expr} {tl : TE} (hl : PE X l tl) : PI X tg l (iLT X.K tl) := by
  refine ⟨fun pins s σ H R I h => ?_⟩
  refine thn (hl.run pins s σ H _ I h) fun v s1 ⟨x, H1, I1, r1, q1⟩ => ?_
  rcases q1 with ⟨a, e, ⟨xs, hq⟩, q⟩ | ⟨a, e, ⟨xs, hq⟩, q⟩
  · subst e
    cases r1
    obtain ⟨its, rv, p, hz⟩ := I1.list hq
    refine wpAny_pyIter_list p.isList ?_
    refine ⟨s1.heap.objs.size, [s1.heap.objs.size], _, _, H1, rfl, I1.kept (t' := s1.toks) fun b o e => Heap.get?_push_of_some _ e, turn_list a _, ⟨_, Heap.get?_push_size _ rfl, rfl, rfl⟩, fun b hb => ?_, q⟩
    have e : b = s1.heap.objs.size := by simpa using hb
    subst e
    exact I1.fpOk (Nat.le_refl _) (I1.hok.fresh (Nat.le_refl _))
  · subst e
    cases r1
    obtain ⟨its, rv, p, hz⟩ := I1.tuple hq
    refine wpAny_pyIter_tuple (show s1.heap.IsTuple a its.toArray from p) ?_
    refine ⟨s1.heap.objs.size, [s1.heap.objs.size], _, _, H1, rfl, I1.kept (t' := s1.toks) fun b o e => Heap.get?_push_of_some _ e, turn_tuple a _, ⟨_, Heap.get?_push_size _ rfl, rfl, rfl⟩, fun b hb => ?_, q⟩
    have e : b = s1.heap.objs.size := by simpa using hb
    subst e
    exact I1.fpOk (Nat.le_refl _) (I1.hok.fresh (Nat.le_refl _))
/-- a list, a tuple -/
theorem xi_seq (he : PE X e (tOf X.K xa)) : PI X tg e (iOf X.K (xIt xa)) := PI.imp (pi_lt he) fun σ H R h => by
  obtain ⟨m, G, ρ, S, ds, lc, S', hE, hS, hx, k⟩ := h
  simp only [xIt, Option.bind_eq_some_iff] at hx
  obtain ⟨⟨r1, S1⟩, h1, hx⟩ := hx
  refine ⟨m, G, ρ, S, r1, S1, hE, hS, h1, fun v m1 H1 s1 hS1 q1 o1 => ?_⟩
  dsimp only at hx
  split at hx
  · cases hx
    simp only [RepR, RepP] at q1
    obtain ⟨a, vs, rfl, f, r⟩ := q1
    exact .inl ⟨a, rfl, ⟨vs, f.sq⟩, k m1 H1 _ s1 hS1 (itok_lst f r)⟩
  · cases hx
    simp only [RepR, RepP] at q1
    obtain ⟨a, vs, rfl, f, r⟩ := q1
    exact .inr ⟨a, rfl, ⟨vs, f.sq⟩, k m1 H1 _ s1 hS1 (itok_tup' f r)⟩
  · cases hx
    obtain ⟨a, vs, rfl, nm, z, r⟩ := q1
    exact .inl ⟨a, rfl, ⟨vs, SqL.of z⟩, k m1 H1 _ s1 hS1 (itok_lst (.inl ⟨.inl z, nm⟩) r)⟩
  · rename_i l
    split at hx
    · rename_i es hl
      cases hx
      obtain ⟨a, rfl, hm⟩ := q1
      obtain ⟨vs, z, r⟩ := hS1.cell l a _ hm hl
      exact .inl ⟨a, rfl, ⟨vs, SqL.of z⟩, k m1 H1 _ s1 hS1 (itok_cell hm hl)⟩
    · cases hx
  · cases hx
/-- a text -/
theorem xi_str (he : PE X e (tOf X.K xa)) : PI X tg e (iOf X.K (xItS xa)) := PI.imp (pi_str he) fun σ H R h => by
  obtain ⟨m, G, ρ, S, ds, lc, S', hE, hS, hx, k⟩ := h
  simp only [xItS, Option.bind_eq_some_iff] at hx
  obtain ⟨⟨r1, S1⟩, h1, hx⟩ := hx
  refine ⟨m, G, ρ, S, r1, S1, hE, hS, h1, fun v m1 H1 s1 hS1 q1 o1 => ?_⟩
  dsimp only at hx
  split at hx
  · cases hx
    simp only [RepR, RepP] at q1
    exact ⟨_, q1, k m1 H1 _ s1 hS1 itok_str⟩
  · cases hx
theorem xi_rng1 {p pos : Pos} (hg : Gl X "range") (hm : X.mg "range" = none) (ha : PE X a (tOf X.K xa)) (hs : starEach [a] X.env = [(false, eval a X.env)] := by rfl) : PI X tg (.Call (.Name "range" p) [a] [] pos) (iOf X.K (xRng1 xa)) :=
  PI.imp (pi_range1 hg hm (pa_cons ha pa_nil hs) hs) fun σ H R h => by
    obtain ⟨m, G, ρ, S, ds, lc, S', hE, hS, hx, k⟩ := h
    simp only [xRng1, Option.bind_eq_some_iff] at hx
    obtain ⟨⟨r1, S1⟩, h1, hx⟩ := hx
    refine ⟨m, G, ρ, S, r1, S1, hE, hS, h1, fun v m1 H1 s1 hS1 q1 o1 => ?_⟩
    dsimp only at hx
    split at hx
    · rename_i j
      split at hx
      · rename_i hj
        cases hx
        simp only [RepR, RepP] at q1
        subst q1
        exact ⟨j, rfl, by omega, by omega, k m1 H1 _ s1 hS1 itok_rng⟩
      · cases hx
    · cases hx
theorem xi_rng2 {p pos : Pos} (hg : Gl X "range") (hm : X.mg "range" = none) (ha : PE X a (tOf X.K xa)) (hb : PE X b (tOf X.K xb)) (hs : starEach [a, b] X.env = [(false, eval a X.env), (false, eval b X.env)] := by rfl) (hs2 : starEach [b] X.env = [(false, eval b X.env)] := by rfl) :
    PI X tg (.Call (.Name "range" p) [a, b] [] pos) (iOf X.K (xRng2 xa xb)) :=
  PI.imp (pi_range2 hg hm (pa_cons ha (pa_cons hb pa_nil hs2) (by rw [hs, hs2])) hs hs2) fun σ H R h => by
    obtain ⟨m, G, ρ, S, ds, lc, S', hE, hS, hx, k⟩ := h
    simp only [xRng2, Option.bind_eq_some_iff] at hx
    obtain ⟨⟨r1, S1⟩, h1, ⟨r2, S2⟩, h2, hx⟩ := hx
    refine ⟨m, G, ρ, S, r1, S1, hE, hS, h1, fun v m1 H1 s1 hS1 q1 o1 => ⟨m1, G, ρ, S1, r2, S2, hE.step s1, hS1, h2, fun w m2 H2 s2 hS2 q2 o2 => ?_⟩⟩
    dsimp only at hx
    split at hx
    · rename_i i j
      split at hx
      · rename_i hj
        cases hx
        simp only [RepR, RepP] at q1 q2
        subst q1 q2
        exact ⟨i, j, rfl, ⟨by omega, by omega, by omega, by omega⟩, k m2 H2 _ (s1.trans s2) hS2 itok_rng⟩
      · cases hx
    · cases hx
end

/-! ### for -/
theorem for_rd {K : PySem.W.Frag} {it : XI} {t : Tg} {b : XS} {D : Ends} {σ : L2.St} {H : Hp} (h : tOfS K (xFor it t b) D σ H) : tFor (iOf K it) (gOf K t) (tOfS K b) D σ H := by
  obtain ⟨m, G, ρ, S, fl, S', hE, hS, hx, k⟩ := h
  simp only [xFor, Option.bind_eq_some_iff] at hx
  obtain ⟨⟨ds, lc, S0⟩, h1, hx⟩ := hx
  refine ⟨m, G, ρ, S, ds, lc, S0, hE, hS, h1, fun m0 H0 J s0 hS0 ok => ?_⟩
  dsimp only at hx
  have el : S0.length = m0.length := hS0.len.symm
  rw [el] at hx
  have gg : ∀ a ∈ G, a ∈ G ∨ H0 a = none := fun a z => .inl z
  refine ⟨fun i n σ1 H1 => n = ds.length - i ∧ i ≤ ds.length ∧ ∃ m1 ρ1 S1, Step m0 H0 m1 H1 ∧ RepSt K G m1 S1 H1 ∧ RepE K G m1 H1 ρ1 σ1 ∧ cellOk lc S0 S1 = true ∧ forGo m0.length lc S0 t b (ds.drop i) ρ1 S1 = some (fl, S'), ⟨ds.length, by simp, Nat.zero_le _, m0, ρ, S0, Step.refl, hS0, hE.step s0, ?_, by simpa using hx⟩, ?_⟩
  · unfold cellOk
    split
    · rfl
    · simp
  · rintro i n σ1 H1 ⟨rfl, hi, m1, ρ1, S1, s1, hS1, hE1, c1, go⟩
    by_cases hlt : i < ds.length
    · have hd : ds[i]? = some ds[i] := List.getElem?_eq_getElem hlt
      rw [List.drop_eq_getElem_cons hlt] at go
      simp only [forGo, Option.bind_eq_some_iff] at go
      obtain ⟨ρ2, hp, ⟨f2, S2⟩, hb, go⟩ := go
      dsimp only at go
      refine .inr ⟨ok.go i _ G m1 H1 S1 hd s1.g gg hS1 c1, ?_⟩
      have more : ∀ (ρ3 : Env), (if cellOk lc S0 (gc m0.length ρ3 S2).2 = true then forGo m0.length lc S0 t b (List.drop (i + 1) ds) (gc m0.length ρ3 S2).1 (gc m0.length ρ3 S2).2 else none) = some (fl, S') →
          ∀ σ' H', (∃ m', Step m0 H0 m' H' ∧ RepSt K G m' S2 H' ∧ RepE K G m' H' ρ3 σ') → ∃ n', n' < ds.length - i ∧ n' = ds.length - (i + 1) ∧ i + 1 ≤ ds.length ∧ ∃ m1 ρ1 S1, Step m0 H0 m1 H' ∧ RepSt K G m1 S1 H' ∧ RepE K G m1 H' ρ1 σ' ∧ cellOk lc S0 S1 = true ∧ forGo m0.length lc S0 t b (ds.drop (i + 1)) ρ1 S1 = some (fl, S') := by
        intro ρ3 go σ' H' ⟨m', s', hS', hE'⟩
        split at go
        · rename_i hc
          obtain ⟨m3, s3, hS3, hE3⟩ := gc_ok s' hS' hE'
          exact ⟨ds.length - (i + 1), by omega, rfl, hlt, m3, _, _, s3, hS3, hE3, hc, go⟩
        · cases go
      have start : ∀ x H2, J.yld i H1 x H2 → ∀ (Q : L2.St → Hp → Prop), (∀ σ2, RepE K G m1 H2 ρ2 σ2 → Q σ2 H2) → gOf K t x σ1 H2 Q := fun x H2 hy Q kq => by
        obtain ⟨e, q⟩ := ok.yld i _ G m1 H1 S1 x H2 hd s1.g gg hS1 c1 hy
        exact ⟨m1, G, ρ1, _, ρ2, hE1.step (Step.of_ext e), q, hp, fun σ' hE' _ => kq σ' hE'⟩
      have ext : ∀ x H2, J.yld i H1 x H2 → Ext H1 H2 := fun x H2 hy => (ok.yld i _ G m1 H1 S1 x H2 hd s1.g gg hS1 c1 hy).1
      cases f2 with
      | nx ρ3 =>
        refine ⟨fun σ' H' => ∃ m', Step m0 H0 m' H' ∧ RepSt K G m' S2 H' ∧ RepE K G m' H' ρ3 σ', more ρ3 go, fun x H2 hy => start x H2 hy _ fun σ2 hE2 => ?_⟩
        have e2 := ext x H2 hy
        exact ⟨m1, G, ρ2, S1, .nx ρ3, S2, hE2, hS1.ext e2, hb, fun σ' m' H' s' hS' hE' => ⟨m', (s1.trans (Step.of_ext e2)).trans s', hS', hE'⟩⟩
      | ct ρ3 =>
        refine ⟨fun σ' H' => ∃ m', Step m0 H0 m' H' ∧ RepSt K G m' S2 H' ∧ RepE K G m' H' ρ3 σ', more ρ3 go, fun x H2 hy => start x H2 hy _ fun σ2 hE2 => ?_⟩
        have e2 := ext x H2 hy
        exact ⟨m1, G, ρ2, S1, .ct ρ3, S2, hE2, hS1.ext e2, hb, fun σ' m' H' s' hS' hE' => ⟨m', (s1.trans (Step.of_ext e2)).trans s', hS', hE'⟩⟩
      | bk ρ3 =>
        cases go
        refine ⟨fun _ _ => False, fun _ _ z => z.elim, fun x H2 hy => start x H2 hy _ fun σ2 hE2 => ?_⟩
        have e2 := ext x H2 hy
        exact ⟨m1, G, ρ2, S1, .bk ρ3, _, hE2, hS1.ext e2, hb, fun σ' m' H' s' hS' hE' => k σ' m' H' (((s0.trans s1).trans (Step.of_ext e2)).trans s') hS' hE'⟩
      | rt r =>
        cases go
        refine ⟨fun _ _ => False, fun _ _ z => z.elim, fun x H2 hy => start x H2 hy _ fun σ2 hE2 => ?_⟩
        have e2 := ext x H2 hy
        have s02 := (s0.trans s1).trans (Step.of_ext e2)
        exact ⟨m1, G, ρ2, S1, .rt r, _, hE2, hS1.ext e2, hb, fun v m' H' s' hS' q o => k v m' H' (s02.trans s') hS' q (o.back s02.dom)⟩
    · have e : i = ds.length := by omega
      subst e
      rw [List.drop_length] at go
      cases go
      exact .inl ⟨ok.stop G m1 H1 _ s1.g gg hS1 c1, k σ1 m1 H1 (s0.trans s1) hS1 hE1⟩
theorem xs_for {X : Cx} {tg iter : Expr} {body : List Stmt} {pos : Pos} {it : XI} {t : Tg} {b : XS} (hp : PassesOwn (model X.prog X.w) X.A X.env X.xe) (hc : X.calm = true) (hi : PI X tg iter (iOf X.K it)) (hg : PG X tg (gOf X.K t)) (hb : PSs X body (tOfS X.K b))
    (hs : ∀ x, foldedSetIterable iter X.env x = pure x := by intro _; rfl) : PS X (.For tg iter body [] pos) (tOfS X.K (xFor it t b)) := PS.imp (ps_for hp hc hi hg hb hs) fun D σ H h => for_rd h
/-! ### while -/
theorem while_rd {K : PySem.W.Frag} {n : Nat} {t : XT} {b : XS} {D : Ends} {σ : L2.St} {H : Hp} (h : tOfS K (xWhile n t b) D σ H) : tWhile (tOfT K t) (tOfS K b) D σ H := by
  obtain ⟨m, G, ρ, S, fl, S', hE, hS, hx, k⟩ := h
  simp only [xWhile] at hx
  rw [← hS.len] at hx
  refine ⟨fun j σ1 H1 => ∃ m1 ρ1 S1, Step m H m1 H1 ∧ RepSt K G m1 S1 H1 ∧ RepE K G m1 H1 ρ1 σ1 ∧ whGo m.length t b j ρ1 S1 = some (fl, S'), ⟨n, m, ρ, S, Step.refl, hS, hE, hx⟩, ?_⟩
  rintro j σ1 H1 ⟨m1, ρ1, S1, s1, hS1, hE1, go⟩
  cases j with
  | zero => simp [whGo] at go
  | succ j =>
    simp only [whGo, Option.bind_eq_some_iff] at go
    obtain ⟨⟨c, S2⟩, h2, go⟩ := go
    refine ⟨m1, G, ρ1, S1, c, S2, hE1, hS1, h2, fun m2 H2 s2 hS2 => ?_⟩
    dsimp only at go
    cases c with
    | false =>
      rw [if_neg (by simp)] at go ⊢
      cases go
      exact k σ1 m2 H2 (s1.trans s2) hS2 (hE1.step s2)
    | true =>
      rw [if_pos rfl] at go ⊢
      simp only [Option.bind_eq_some_iff] at go
      obtain ⟨⟨f3, S3⟩, h3, go⟩ := go
      dsimp only at go
      have s12 := s1.trans s2
      have more : ∀ (ρ3 : Env), whGo m.length t b j (gc m.length ρ3 S3).1 (gc m.length ρ3 S3).2 = some (fl, S') → ∀ σ' H', (∃ m', Step m H m' H' ∧ RepSt K G m' S3 H' ∧ RepE K G m' H' ρ3 σ') →
          ∃ j', j' < j + 1 ∧ ∃ m1 ρ1 S1, Step m H m1 H' ∧ RepSt K G m1 S1 H' ∧ RepE K G m1 H' ρ1 σ' ∧ whGo m.length t b j' ρ1 S1 = some (fl, S') := by
        intro ρ3 go σ' H' ⟨m', s', hS', hE'⟩
        obtain ⟨m3, s3, hS3, hE3⟩ := gc_ok s' hS' hE'
        exact ⟨j, by omega, m3, _, _, s3, hS3, hE3, go⟩
      cases f3 with
      | nx ρ3 => exact ⟨fun σ' H' => ∃ m', Step m H m' H' ∧ RepSt K G m' S3 H' ∧ RepE K G m' H' ρ3 σ', more ρ3 go, m2, G, ρ1, S2, .nx ρ3, S3, hE1.step s2, hS2, h3, fun σ' m' H' s' hS' hE' => ⟨m', s12.trans s', hS', hE'⟩⟩
      | ct ρ3 => exact ⟨fun σ' H' => ∃ m', Step m H m' H' ∧ RepSt K G m' S3 H' ∧ RepE K G m' H' ρ3 σ', more ρ3 go, m2, G, ρ1, S2, .ct ρ3, S3, hE1.step s2, hS2, h3, fun σ' m' H' s' hS' hE' => ⟨m', s12.trans s', hS', hE'⟩⟩
      | bk ρ3 =>
        cases go
        exact ⟨fun _ _ => False, fun _ _ z => z.elim, m2, G, ρ1, S2, .bk ρ3, _, hE1.step s2, hS2, h3, fun σ' m' H' s' hS' hE' => k σ' m' H' (s12.trans s') hS' hE'⟩
      | rt r =>
        cases go
        exact ⟨fun _ _ => False, fun _ _ z => z.elim, m2, G, ρ1, S2, .rt r, _, hE1.step s2, hS2, h3, fun v m' H' s' hS' q o => k v m' H' (s12.trans s') hS' q (o.back s12.dom)⟩
theorem xs_while {X : Cx} {c : Expr} {body : List Stmt} {pos : Pos} {n : Nat} {t : XT} {b : XS} (hp : PassesOwn (model X.prog X.w) X.A X.env X.xe) (hc : PT X c (tOfT X.K t)) (hb : PSs X body (tOfS X.K b)) : PS X (.While c body [] pos) (tOfS X.K (xWhile n t b)) :=
  PS.imp (ps_while hp hc hb) fun D σ H h => while_rd h
theorem xs_break {X : Cx} {pos : Pos} : PS X (.Break pos) (tOfS X.K fun ρ S => some (.bk ρ, S)) := PS.imp ps_break fun D σ H h => by
  obtain ⟨m, G, ρ, S, fl, S', hE, hS, hx, k⟩ := h
  cases hx
  exact k σ m H Step.refl hS hE
theorem xs_continue {X : Cx} {pos : Pos} : PS X (.Continue pos) (tOfS X.K fun ρ S => some (.ct ρ, S)) := PS.imp ps_continue fun D σ H h => by
  obtain ⟨m, G, ρ, S, fl, S', hE, hS, hx, k⟩ := h
  cases hx
  exact k σ m H Step.refl hS hE
end XL
end
section
set_option Elab.async false
set_option linter.all false
set_option maxRecDepth 100000
set_option maxHeartbeats 1000000
namespace XL
open PySem L2
/-! ### the comprehension's own slots -/
theorem wipe_get {σ : L2.St} : ∀ (vs : List Nat) (i : Nat), (wipe σ vs)[i]? = if i ∈ vs then σ[i]?.map (fun _ => none) else σ[i]?
  | [], i => by simp [wipe]
  | v :: vs, i => by
    simp only [wipe]
    by_cases c : v = i
    · subst c
      rw [if_pos (by simp)]
      by_cases hl : v < σ.length
      · rw [List.getElem?_set_self (by rw [wipe_length]; exact hl), List.getElem?_eq_getElem hl]; rfl
      · rw [List.getElem?_eq_none (by simp [wipe_length]; omega), List.getElem?_eq_none (by omega)]; rfl
    · rw [List.getElem?_set_ne c, wipe_get vs i]
      have e : (i ∈ v :: vs) = (i ∈ vs) := by simp [Ne.symm c]
      simp only [e]
theorem wipe_same {σ σ2 : L2.St} {vs ws : List Nat} (h : SameBut ws (wipe σ vs) σ2) (hw : ∀ i ∈ ws, i ∈ vs) : wipe σ2 vs = wipe σ vs := by
  apply List.ext_getElem?
  intro i
  rw [wipe_get, wipe_get]
  have hl : σ2.length = σ.length := by rw [h.1, wipe_length]
  by_cases c : i ∈ vs
  · rw [if_pos c, if_pos c]
    by_cases hi : i < σ.length
    · rw [List.getElem?_eq_getElem hi, List.getElem?_eq_getElem (by omega)]; rfl
    · rw [List.getElem?_eq_none (by omega), List.getElem?_eq_none (by omega)]
  · rw [if_neg c, if_neg c, h.2 i (fun z => c (hw i z)), wipe_get, if_neg c]
theorem wipeE_length (ρ : Env) : ∀ vs : List Nat, (wipeE ρ vs).length = ρ.length
  | [] => rfl
  | v :: vs => by simp [wipeE, wipeE_length ρ vs]
theorem wipeE_get {ρ : Env} : ∀ (vs : List Nat) (i : Nat) (d : D), (wipeE ρ vs)[i]? = some (some d) → ρ[i]? = some (some d) ∧ i ∉ vs
  | [], i, d, h => ⟨h, by simp⟩
  | v :: vs, i, d, h => by
    simp only [wipeE] at h
    by_cases c : v = i
    · subst c
      by_cases hl : v < (wipeE ρ vs).length
      · rw [List.getElem?_set_self hl] at h; simp at h
      · rw [List.getElem?_eq_none (by simp; omega)] at h; cases h
    · rw [List.getElem?_set_ne c] at h
      obtain ⟨h1, h2⟩ := wipeE_get vs i d h
      exact ⟨h1, by simp [Ne.symm c, h2]⟩
section
variable {K : PySem.W.Frag} {G G' m m' m1 m2 : List Addr} {H H' H0 H1 H2 : Hp}
theorem RepE.wipe {ρ : Env} {σ : L2.St} (h : RepE K G m H ρ σ) (vs : List Nat) : RepE K G m H (wipeE ρ vs) (wipe σ vs) :=
  ⟨by rw [wipeE_length, wipe_length]; exact h.len, fun i d e => by
    obtain ⟨e1, e2⟩ := wipeE_get vs i d e
    obtain ⟨v, hv, q⟩ := h.slot i d e1
    exact ⟨v, by rw [wipe_get, if_neg e2]; exact hv, q⟩⟩
/-- another guarded address, that was not there -/
theorem RepE.guard {ρ : Env} {σ : L2.St} {p : Addr} (h : RepE K G m H ρ σ) (hp : H p = none) (o : HO) : RepE K (p :: G) m (upd H p o) ρ σ :=
  ⟨h.len, fun i d e => by
    obtain ⟨v, hv, q⟩ := h.slot i d e
    refine ⟨v, hv, ?_⟩
    cases d with
    | p d => exact (RepP.move (G := G) (G' := p :: G) (m := m) (m' := m) (fun a o' e _ => Ext.new hp a o' e) (fun a ha => by
        simp only [List.mem_append, List.mem_cons] at ha ⊢
        rcases ha with ha | ha | ha
        · exact .inl (.inl ha)
        · subst ha; exact .inr hp
        · exact .inl (.inr ha))).1 d v q
    | ref l => exact q⟩
theorem RepSt.guard {S : Sto} {p : Addr} (h : RepSt K G m S H) (hp : H p = none) (o : HO) : RepSt K (p :: G) m S (upd H p o) :=
  ⟨h.len, h.nd, fun l a c h1 h2 => by
    have q := h.cell l a c h1 h2
    cases c with
    | lst ds =>
      obtain ⟨vs, z, r⟩ := q
      exact ⟨vs, Ext.new hp _ _ z, (RepP.move (G := G) (G' := p :: G) (m := m) (m' := m) (fun a o' e _ => Ext.new hp a o' e) (fun a ha => by
        simp only [List.mem_append, List.mem_cons] at ha ⊢
        rcases ha with ha | ha | ha
        · exact .inl (.inl ha)
        · subst ha; exact .inr hp
        · exact .inl (.inr ha))).2 ds vs r⟩
    | dct b kvs => exact q, fun a ha => by
    rcases List.mem_cons.mp ha with rfl | ha
    · exact ⟨by rw [upd_same]; simp, fun z => h.has z hp⟩
    · exact ⟨fun z => (h.gd a ha).1 ((Ext.new hp).none z), (h.gd a ha).2⟩⟩
/-- what is guarded may change -/
theorem RepPs.updG {p : Addr} {o : HO} {ds : List P} {vs : List V} (hp : p ∈ G) (h : RepPs K (m ++ G) H ds vs) : RepPs K (m ++ G) (upd H p o) ds vs :=
  (RepP.move (G := G) (G' := G) (m := m) (m' := m) (fun a o' e hm => by
    rw [upd_ne (fun z : a = p => hm (List.mem_append_right _ (by rw [z]; exact hp)))]; exact e) (fun a ha => .inl ha)).2 ds vs h
theorem RepP.updG {p : Addr} {o : HO} {d : P} {v : V} (hp : p ∈ G) (h : RepP K (m ++ G) H d v) : RepP K (m ++ G) (upd H p o) d v :=
  (RepP.move (G := G) (G' := G) (m := m) (m' := m) (fun a o' e hm => by
    rw [upd_ne (fun z : a = p => hm (List.mem_append_right _ (by rw [z]; exact hp)))]; exact e) (fun a ha => .inl ha)).1 d v h
theorem RepSt.updG {S : Sto} {p : Addr} {o : HO} (h : RepSt K G m S H) (hp : p ∈ G) : RepSt K G m S (upd H p o) :=
  ⟨h.len, h.nd, fun l a c h1 h2 => by
    have q := h.cell l a c h1 h2
    have ne : a ≠ p := fun z => (h.gd p hp).2 (z ▸ List.mem_of_getElem? h1)
    cases c with
    | lst ds => obtain ⟨vs, z, r⟩ := q; exact ⟨vs, by rw [upd_ne ne]; exact z, RepPs.updG hp r⟩
    | dct b kvs => exact q, fun a ha => ⟨fun z => by
      by_cases c : a = p
      · subst c; rw [upd_same] at z; cases z
      · rw [upd_ne c] at z; exact (h.gd a ha).1 z, (h.gd a ha).2⟩⟩
theorem RepE.updG {ρ : Env} {σ : L2.St} {p : Addr} {o : HO} (h : RepE K G m H ρ σ) (hp : p ∈ G) : RepE K G m (upd H p o) ρ σ :=
  ⟨h.len, fun i d e => by
    obtain ⟨v, hv, q⟩ := h.slot i d e
    refine ⟨v, hv, ?_⟩
    cases d with
    | p d => exact RepP.updG hp q
    | ref l => exact q⟩
theorem Step.updG {p : Addr} {o : HO} (s : Step m H m1 H1) (hp : H p = none) (h1 : H1 p ≠ none) : Step m H m1 (upd H1 p o) :=
  ⟨s.pre, fun a o' e hm => by rw [upd_ne (ne_of_none e hp)]; exact s.keep a o' e hm, fun a e => by
    by_cases c : a = p
    · subst c; exact hp
    · rw [upd_ne c] at e; exact s.dom a e⟩
/-- a guarded list that is done -/
theorem own_guard {S : Sto} {p : Addr} {vs : List V} {ds : List P} (h : RepSt K (p :: G) m S H) (hp : H p = some (.lst vs)) (r : RepPs K (m ++ p :: G) H ds vs) (hG : p ∉ G) (h0 : H0 p = none) : Own K H0 G m H S (.frl ds) (.ref p) := by
  refine ⟨p, rfl, h0, by simp [h.len], ?_, fun l a c h1 h2 => ?_, fun a ha => ⟨(h.gd a (List.mem_cons_of_mem _ ha)).1, fun z => ?_⟩⟩
  · rw [List.nodup_append]
    refine ⟨h.nd, by simp, fun a ha b hb => ?_⟩
    simp at hb; subst hb
    exact fun e => (h.gd b (by simp)).2 (e ▸ ha)
  · have ea : (m ++ [p]) ++ G = m ++ p :: G := by simp
    rw [ea]
    by_cases hl : l < m.length
    · rw [List.getElem?_append_left hl] at h1
      rw [List.getElem?_append_left (h.len ▸ hl)] at h2
      exact h.cell l a c h1 h2
    · have hl2 : l < (m ++ [p]).length := (List.getElem?_eq_some_iff.mp h1).1
      have e : l = m.length := by simp at hl2; omega
      subst e
      simp at h1
      rw [h.len] at h2
      simp at h2
      subst h1; subst h2
      exact ⟨vs, hp, r⟩
  · rcases List.mem_append.mp z with z | z
    · exact (h.gd a (List.mem_cons_of_mem _ ha)).2 z
    · simp at z; subst z; exact hG ha
end
theorem cellOk_self (lc : Option Nat) (S : Sto) : cellOk lc S S = true := by
  unfold cellOk
  split
  · rfl
  · simp
theorem lt_size {n : Nat} (h : n < big) : n < sizeLine := Nat.lt_of_lt_of_le h (by decide)

/-! ### comprehensions -/
theorem lc_rd {K : PySem.W.Frag} {it : XI} {t : Tg} {c : XT} {e : XE} {vs : List Nat} {σ : L2.St} {H : Hp} {Q : VK} (ht : ∀ i ∈ t.slots, i ∈ vs) (h : tOf K (xLc it t c e vs) σ H Q) : tLc (iOf K it) (gOf K t) (tOfT K c) (tOf K e) vs σ H Q := by
  obtain ⟨m, G, ρ, S, r, S', hE, hS, hx, k⟩ := h
  simp only [xLc, Option.bind_eq_some_iff, Option.map_eq_some_iff] at hx
  obtain ⟨⟨ds, lc, S0⟩, h1, ⟨fin, Sf⟩, hx, er⟩ := hx
  cases er
  refine ⟨m, G, ρ, S, ds, lc, S0, hE, hS, h1, fun m0 H0 J s0 hS0 ok A hA => ?_⟩
  dsimp only at hx
  have gg : ∀ a ∈ A :: G, a ∈ G ∨ H0 a = none := fun a z => by
    rcases List.mem_cons.mp z with rfl | z
    · exact .inr hA
    · exact .inl z
  have hAG : A ∉ G := fun z => (hS0.gd A z).1 hA
  refine ⟨fun i n H1 => n = ds.length - i ∧ i ≤ ds.length ∧ ∃ m1 S1 acc avs, Step m0 H0 m1 H1 ∧ RepSt K (A :: G) m1 S1 H1 ∧ RepE K (A :: G) m1 H1 (wipeE ρ vs) (wipe σ vs) ∧ H1 A = some (.lst avs) ∧ RepPs K (m1 ++ A :: G) H1 acc avs ∧ cellOk lc S0 S1 = true ∧
      lcGo lc S0 t c e (wipeE ρ vs) (ds.drop i) acc S1 = some (fin, Sf), ⟨ds.length, by simp, Nat.zero_le _, m0, S0, [], [], ?_, hS0.guard hA _, ((hE.step s0).wipe vs).guard hA _, upd_same, RepPs.nil, cellOk_self _ _, by simpa using hx⟩, ?_⟩
  · exact Step.of_ext (Ext.new hA)
  rintro i n H1 ⟨rfl, hi, m1, S1, acc, avs, s1, hS1, hE1, hD1, rD1, c1, go⟩
  by_cases hlt : i < ds.length
  · have hd : ds[i]? = some ds[i] := List.getElem?_eq_getElem hlt
    rw [List.drop_eq_getElem_cons hlt] at go
    simp only [lcGo, Option.bind_eq_some_iff] at go
    obtain ⟨ρ2, hp, ⟨b, S2⟩, hb, go⟩ := go
    dsimp only at go
    refine .inr ⟨ok.go i _ (A :: G) m1 H1 S1 hd s1.g gg hS1 c1, fun H' => i + 1 ≤ ds.length ∧ ∃ m1 S1 acc avs, Step m0 H0 m1 H' ∧ RepSt K (A :: G) m1 S1 H' ∧ RepE K (A :: G) m1 H' (wipeE ρ vs) (wipe σ vs) ∧ H' A = some (.lst avs) ∧ RepPs K (m1 ++ A :: G) H' acc avs ∧ cellOk lc S0 S1 = true ∧
      lcGo lc S0 t c e (wipeE ρ vs) (ds.drop (i + 1)) acc S1 = some (fin, Sf), fun H' w => ⟨ds.length - (i + 1), by omega, rfl, w⟩, fun x H2 hy => ?_⟩
    obtain ⟨e2, q2⟩ := ok.yld i _ (A :: G) m1 H1 S1 x H2 hd s1.g gg hS1 c1 hy
    have s2 : Step m1 H1 m1 H2 := Step.of_ext e2
    refine ⟨m1, A :: G, wipeE ρ vs, _, ρ2, hE1.step s2, q2, hp, fun σ2 hE2 sb => ⟨wipe_same sb ht, ?_⟩⟩
    refine ⟨m1, A :: G, ρ2, S1, b, S2, hE2, hS1.ext e2, hb, fun m3 H3 s3 hS3 => ?_⟩
    have AnM : ∀ {G1 m1 : List Addr} {H1 : Hp} {S1 : Sto}, RepSt K (A :: G) m1 S1 H1 → A ∉ m1 := fun h => (h.gd A (by simp)).2
    cases b with
    | false =>
      rw [if_neg (by simp)] at go
      refine iteF ?_
      split at go
      · rename_i hc
        refine ⟨hlt, m3, S2, acc, avs, (s1.trans s2).trans s3, hS3, (hE1.step s2).step s3, s3.keep _ _ (e2 _ _ hD1) (AnM (G1 := G) hS1), RepPs.step (s2.trans s3) acc avs rD1, hc, go⟩
      · cases go
    | true =>
      rw [if_pos rfl] at go
      refine iteT ?_
      simp only [Option.bind_eq_some_iff] at go
      obtain ⟨⟨r4, S4⟩, h4, d4, hf4, go⟩ := go
      dsimp only at go
      split at go
      · rename_i hc
        refine ⟨m3, A :: G, ρ2, S2, r4, S4, hE2.step s3, hS3, h4, fun y m4 H4 s4 hS4 q4 o4 => ?_⟩
        have s24 := (s2.trans s3).trans s4
        have hD4 : H4 A = some (.lst avs) := s4.keep _ _ (s3.keep _ _ (e2 _ _ hD1) (AnM (G1 := G) hS1)) (AnM (G1 := G) hS3)
        have rD4 := RepPs.step s24 acc avs rD1
        refine ⟨avs, hD4, by rw [← rD1.length]; exact lt_size hc.1, hlt, m4, S4, acc ++ [d4], avs ++ [y], (s1.trans s24).updG hA (by rw [hD4]; simp), hS4.updG (by simp), (hE1.step s24).updG (by simp), upd_same, RepPs.updG (by simp) (rD4.append (RepPs.one (q4.fz hf4))), hc.2, go⟩
      · cases go
  · have e : i = ds.length := by omega
    subst e
    rw [List.drop_length] at go
    cases go
    have hS1' : RepSt K G m1 _ H1 := (own_rep (own_guard hS1 hD1 rD1 hAG hA)).1
    refine .inl ⟨ok.stop (A :: G) m1 H1 _ s1.g gg hS1 c1, k (.ref A) m1 H1 (s0.trans s1) hS1' (own_rep (own_guard hS1 hD1 rD1 hAG hA)).2 (own_guard hS1 hD1 rD1 hAG (s0.dom A hA))⟩
theorem lc2_rd {K : PySem.W.Frag} {it it1 : XI} {t t1 : Tg} {c c1 : XT} {e : XE} {vs vs1 : List Nat} {σ : L2.St} {H : Hp} {Q : VK} (ht : ∀ i ∈ t.slots, i ∈ vs) (ht1 : ∀ i ∈ t1.slots, i ∈ vs1) (h : tOf K (xLc2 it t c it1 t1 c1 e vs vs1) σ H Q) :
    tLc2 (iOf K it) (gOf K t) (tOfT K c) (iOf K it1) (gOf K t1) (tOfT K c1) (tOf K e) vs vs1 σ H Q := by
  obtain ⟨m, G, ρ, S, r, S', hE, hS, hx, k⟩ := h
  simp only [xLc2, Option.bind_eq_some_iff, Option.map_eq_some_iff] at hx
  obtain ⟨⟨ds, lc, S0⟩, h1, ⟨fin, Sf⟩, hx, er⟩ := hx
  cases er
  refine ⟨m, G, ρ, S, ds, lc, S0, hE, hS, h1, fun m0 H0 J s0 hS0 ok A hA => ?_⟩
  dsimp only at hx
  have gg : ∀ a ∈ A :: G, a ∈ G ∨ H0 a = none := fun a z => by
    rcases List.mem_cons.mp z with rfl | z
    · exact .inr hA
    · exact .inl z
  have hAG : A ∉ G := fun z => (hS0.gd A z).1 hA
  have AnM : ∀ {m1 : List Addr} {H1 : Hp} {S1 : Sto}, RepSt K (A :: G) m1 S1 H1 → A ∉ m1 := fun h => (h.gd A (by simp)).2
  refine ⟨fun i n H1 => n = ds.length - i ∧ i ≤ ds.length ∧ ∃ m1 S1 acc avs, Step m0 H0 m1 H1 ∧ RepSt K (A :: G) m1 S1 H1 ∧ RepE K (A :: G) m1 H1 (wipeE ρ vs) (wipe σ vs) ∧ H1 A = some (.lst avs) ∧ RepPs K (m1 ++ A :: G) H1 acc avs ∧ cellOk lc S0 S1 = true ∧
      lc2Go lc S0 t c it1 t1 c1 e (wipeE ρ vs) vs1 (ds.drop i) acc S1 = some (fin, Sf), ⟨ds.length, by simp, Nat.zero_le _, m0, S0, [], [], ?_, hS0.guard hA _, ((hE.step s0).wipe vs).guard hA _, upd_same, RepPs.nil, cellOk_self _ _, by simpa using hx⟩, ?_⟩
  · exact Step.of_ext (Ext.new hA)
  rintro i n H1 ⟨rfl, hi, m1, S1, acc, avs, s1, hS1, hE1, hD1, rD1, ck1, go⟩
  by_cases hlt : i < ds.length
  · have hd : ds[i]? = some ds[i] := List.getElem?_eq_getElem hlt
    rw [List.drop_eq_getElem_cons hlt] at go
    simp only [lc2Go, Option.bind_eq_some_iff] at go
    obtain ⟨ρ2, hp, ⟨b, S2⟩, hb, go⟩ := go
    dsimp only at go
    refine .inr ⟨ok.go i _ (A :: G) m1 H1 S1 hd s1.g gg hS1 ck1, fun H' => i + 1 ≤ ds.length ∧ ∃ m1 S1 acc avs, Step m0 H0 m1 H' ∧ RepSt K (A :: G) m1 S1 H' ∧ RepE K (A :: G) m1 H' (wipeE ρ vs) (wipe σ vs) ∧ H' A = some (.lst avs) ∧ RepPs K (m1 ++ A :: G) H' acc avs ∧ cellOk lc S0 S1 = true ∧
      lc2Go lc S0 t c it1 t1 c1 e (wipeE ρ vs) vs1 (ds.drop (i + 1)) acc S1 = some (fin, Sf), fun H' w => ⟨ds.length - (i + 1), by omega, rfl, w⟩, fun x H2 hy => ?_⟩
    obtain ⟨e2, q2⟩ := ok.yld i _ (A :: G) m1 H1 S1 x H2 hd s1.g gg hS1 ck1 hy
    have s2 : Step m1 H1 m1 H2 := Step.of_ext e2
    refine ⟨m1, A :: G, wipeE ρ vs, _, ρ2, hE1.step s2, q2, hp, fun σ2 hE2 sb => ⟨wipe_same sb ht, ?_⟩⟩
    refine ⟨m1, A :: G, ρ2, S1, b, S2, hE2, hS1.ext e2, hb, fun m3 H3 s3 hS3 => ?_⟩
    have hD3 : H3 A = some (.lst avs) := s3.keep _ _ (e2 _ _ hD1) (AnM hS1)
    have rD3 := RepPs.step (s2.trans s3) acc avs rD1
    cases b with
    | false =>
      rw [if_neg (by simp)] at go
      refine iteF ?_
      split at go
      · rename_i hc
        exact ⟨hlt, m3, S2, acc, avs, (s1.trans s2).trans s3, hS3, (hE1.step s2).step s3, hD3, rD3, hc, go⟩
      · cases go
    | true =>
      rw [if_pos rfl] at go
      refine iteT ?_
      simp only [Option.bind_eq_some_iff] at go
      obtain ⟨⟨es, lc1, S4⟩, h4, ⟨facc, S5⟩, h5, go⟩ := go
      dsimp only at h5 go
      split at go
      · rename_i hc5
        refine ⟨m3, A :: G, ρ2, S2, es, lc1, S4, hE2.step s3, hS3, h4, fun m4 H4 J1 s4 hS4 ok1 => ?_⟩
        have gg1 : ∀ a ∈ A :: G, a ∈ A :: G ∨ H4 a = none := fun a z => .inl z
        have s24 := (s2.trans s3).trans s4
        have hE4 := hE2.step (s3.trans s4)
        refine ⟨fun j n H5 => n = es.length - j ∧ j ≤ es.length ∧ ∃ m5 S6 acc5 avs5, StepG (A :: G) m4 H4 m5 H5 ∧ RepSt K (A :: G) m5 S6 H5 ∧ RepE K (A :: G) m5 H5 (wipeE ρ2 vs1) (wipe σ2 vs1) ∧ RepE K (A :: G) m5 H5 (wipeE ρ vs) (wipe σ vs) ∧ H5 A = some (.lst avs5) ∧ RepPs K (m5 ++ A :: G) H5 acc5 avs5 ∧ Step m0 H0 m5 H5 ∧ cellOk lc1 S4 S6 = true ∧
            lcGo lc1 S4 t1 c1 e (wipeE ρ2 vs1) (es.drop j) acc5 S6 = some (facc, S5), ⟨es.length, by simp, Nat.zero_le _, m4, S4, acc, avs, Step.refl.g, hS4, hE4.wipe vs1, hE1.step s24, s4.keep _ _ hD3 (AnM hS3), RepPs.step s4 acc avs rD3, s1.trans s24, cellOk_self _ _, by simpa using h5⟩, ?_⟩
        rintro j n H5 ⟨rfl, hj, m5, S6, acc5, avs5, s5, hS6, hE5, hEo, hD5, rD5, s05, ck5, go1⟩
        by_cases hlt1 : j < es.length
        · have hd1 : es[j]? = some es[j] := List.getElem?_eq_getElem hlt1
          rw [List.drop_eq_getElem_cons hlt1] at go1
          simp only [lcGo, Option.bind_eq_some_iff] at go1
          obtain ⟨ρ7, hp7, ⟨b7, S7⟩, hb7, go1⟩ := go1
          dsimp only at go1
          refine .inr ⟨ok1.go j _ (A :: G) m5 H5 S6 hd1 s5 gg1 hS6 ck5, fun H' => j + 1 ≤ es.length ∧ ∃ m5 S6 acc5 avs5, StepG (A :: G) m4 H4 m5 H' ∧ RepSt K (A :: G) m5 S6 H' ∧ RepE K (A :: G) m5 H' (wipeE ρ2 vs1) (wipe σ2 vs1) ∧ RepE K (A :: G) m5 H' (wipeE ρ vs) (wipe σ vs) ∧ H' A = some (.lst avs5) ∧ RepPs K (m5 ++ A :: G) H' acc5 avs5 ∧ Step m0 H0 m5 H' ∧ cellOk lc1 S4 S6 = true ∧
            lcGo lc1 S4 t1 c1 e (wipeE ρ2 vs1) (es.drop (j + 1)) acc5 S6 = some (facc, S5), fun H' w => ⟨es.length - (j + 1), by omega, rfl, w⟩, fun x7 H7 hy7 => ?_⟩
          obtain ⟨e7, q7⟩ := ok1.yld j _ (A :: G) m5 H5 S6 x7 H7 hd1 s5 gg1 hS6 ck5 hy7
          have s7 : Step m5 H5 m5 H7 := Step.of_ext e7
          refine ⟨m5, A :: G, wipeE ρ2 vs1, _, ρ7, hE5.step s7, q7, hp7, fun σ7 hE7 sb7 => ⟨wipe_same sb7 ht1, ?_⟩⟩
          refine ⟨m5, A :: G, ρ7, S6, b7, S7, hE7, hS6.ext e7, hb7, fun m8 H8 s8 hS8 => ?_⟩
          cases b7 with
          | false =>
            rw [if_neg (by simp)] at go1
            refine iteF ?_
            split at go1
            · rename_i hc
              have s78 := s7.trans s8
              exact ⟨hlt1, m8, S7, acc5, avs5, s5.trans s78, hS8, hE5.step s78, hEo.step s78, s8.keep _ _ (e7 _ _ hD5) (AnM hS6), RepPs.step s78 acc5 avs5 rD5, s05.trans s78, hc, go1⟩
            · cases go1
          | true =>
            rw [if_pos rfl] at go1
            refine iteT ?_
            simp only [Option.bind_eq_some_iff] at go1
            obtain ⟨⟨r9, S9⟩, h9, d9, hf9, go1⟩ := go1
            dsimp only at go1
            split at go1
            · rename_i hc
              refine ⟨m8, A :: G, ρ7, S7, r9, S9, hE7.step s8, hS8, h9, fun y m9 H9 s9 hS9 q9 o9 => ?_⟩
              have s79 := (s7.trans s8).trans s9
              have hD9 : H9 A = some (.lst avs5) := s9.keep _ _ (s8.keep _ _ (e7 _ _ hD5) (AnM hS6)) (AnM hS8)
              have rD9 := RepPs.step s79 acc5 avs5 rD5
              have h9n : H9 A ≠ none := by rw [hD9]; simp
              have s49 : StepG (A :: G) m4 H4 m9 (upd H9 A (.lst (avs5 ++ [y]))) := (s5.trans s79).updG (by simp) h9n
              exact ⟨avs5, hD9, by rw [← rD5.length]; exact lt_size hc.1, hlt1, m9, S9, acc5 ++ [d9], avs5 ++ [y], s49, hS9.updG (by simp), (hE5.step s79).updG (by simp), (hEo.step s79).updG (by simp), upd_same, RepPs.updG (by simp) (rD9.append (RepPs.one (q9.fz hf9))), (s05.trans s79).updG hA h9n, hc.2, go1⟩
            · cases go1
        · have e : j = es.length := by omega
          subst e
          rw [List.drop_length] at go1
          cases go1
          exact .inl ⟨ok1.stop (A :: G) m5 H5 _ s5 gg1 hS6 ck5, hlt, m5, _, _, avs5, s05, hS6, hEo, hD5, rD5, hc5, go⟩
      · cases go
  · have e : i = ds.length := by omega
    subst e
    rw [List.drop_length] at go
    cases go
    have hS1' : RepSt K G m1 _ H1 := (own_rep (own_guard hS1 hD1 rD1 hAG hA)).1
    refine .inl ⟨ok.stop (A :: G) m1 H1 _ s1.g gg hS1 ck1, k (.ref A) m1 H1 (s0.trans s1) hS1' (own_rep (own_guard hS1 hD1 rD1 hAG hA)).2 (own_guard hS1 hD1 rD1 hAG (s0.dom A hA))⟩
end XL
end
section
set_option Elab.async false
set_option linter.all false
set_option maxRecDepth 100000
set_option maxHeartbeats 1000000
namespace XL
open PySem L2 PyProof.Rows
section
variable {X : Cx} {elt tg iter tg1 iter1 : Expr} {ifs ifs1 : List Expr} {scope : Scope} {own : List (Str × Nat)} {pos spos py : Pos} {it it1 : XI} {t t1 : Tg} {c c1 : XT} {e : XE} {vs1 : List Nat}
abbrev Blk (X : Cx) (scope : Scope) (P : Cx → Prop) : Prop := ∀ (s : Shared) (H : Hp) (C : Addr) (cl : List (Str × Addr)) (fp : List Addr), P (X.blk s H scope (compEnvC scope cl C X.env) fp)
theorem xe_lc (hc : X.calm = true) (hN : X.N.Nodup) (hi : PI X tg iter (iOf X.K it)) (ok : BlkOk X.N X.env.scope scope own) (hg : Blk X scope fun Y => PG Y tg (gOf Y.K t)) (ht : Blk X scope fun Y => PTs Y ifs (tOfT Y.K c)) (he : Blk X scope fun Y => PE Y elt (tOf Y.K e))
    (hv : ∀ i ∈ t.slots, i ∈ own.map (·.2) := by decide) (hs : ∀ x, foldedSetIterable iter X.env x = pure x := by intro _; rfl) :
    PE X (.ListComp elt [⟨tg, iter, ifs, 0⟩] scope pos) (tOf X.K (xLc it t c e (own.map (·.2)))) := PE.imp (pe_lc hc hN hi ok hg ht he hs) fun σ H Q h => lc_rd hv h
theorem xs_setLc {i : Nat} {y : Str} (hc : X.calm = true) (hN : X.N.Nodup) (hy : X.N[i]? = some y) (hyl : X.env.scope.names.lookup y = some .local)
    (hsw : swapsWith (.ListComp elt [⟨tg, iter, ifs, 0⟩] scope pos) (some (.Name y py)) spos.line X.env = pure true) (hi : PI X tg iter (iOf X.K it)) (ok : BlkOk X.N X.env.scope scope own) (hg : Blk X scope fun Y => PG Y tg (gOf Y.K t)) (ht : Blk X scope fun Y => PTs Y ifs (tOfT Y.K c)) (he : Blk X scope fun Y => PE Y elt (tOf Y.K e))
    (hv : ∀ i ∈ t.slots, i ∈ own.map (·.2) := by decide) (hs : ∀ x, foldedSetIterable iter X.env x = pure x := by intro _; rfl) :
    PS X (.Assign [.Name y py] (.ListComp elt [⟨tg, iter, ifs, 0⟩] scope pos) spos) (tOfS X.K (xSet i (xLc it t c e (own.map (·.2))))) := PS.imp (ps_setLc hc hN hy hyl hsw hi ok hg ht he hs) fun D σ H h => by
  have q := set_rd h
  exact lc_rd hv q
theorem xe_lc2 (hc : X.calm = true) (hN : X.N.Nodup) (hi : PI X tg iter (iOf X.K it)) (ok : BlkOk X.N X.env.scope scope own) (hv1 : ∀ i ∈ vs1, i ∈ own.map (·.2)) (hg : Blk X scope fun Y => PG Y tg (gOf Y.K t)) (ht : Blk X scope fun Y => PTs Y ifs (tOfT Y.K c))
    (hi1 : Blk X scope fun Y => PI Y tg1 iter1 (iOf Y.K it1)) (hg1 : Blk X scope fun Y => PG Y tg1 (gOf Y.K t1)) (ht1 : Blk X scope fun Y => PTs Y ifs1 (tOfT Y.K c1)) (he : Blk X scope fun Y => PE Y elt (tOf Y.K e))
    (hv : ∀ i ∈ t.slots, i ∈ own.map (·.2) := by decide) (hw : ∀ i ∈ t1.slots, i ∈ vs1 := by decide) (hs : ∀ x, foldedSetIterable iter X.env x = pure x := by intro _; rfl) (hs1 : ∀ env x, foldedSetIterable iter1 env x = pure x := by intro _ _; rfl) :
    PE X (.ListComp elt [⟨tg, iter, ifs, 0⟩, ⟨tg1, iter1, ifs1, 0⟩] scope pos) (tOf X.K (xLc2 it t c it1 t1 c1 e (own.map (·.2)) vs1)) := PE.imp (pe_lc2 hc hN hi ok hv1 hg ht hi1 hg1 ht1 he hs hs1) fun σ H Q h => lc2_rd hv hw h
theorem xs_setLc2 {i : Nat} {y : Str} (hc : X.calm = true) (hN : X.N.Nodup) (hy : X.N[i]? = some y) (hyl : X.env.scope.names.lookup y = some .local)
    (hsw : swapsWith (.ListComp elt [⟨tg, iter, ifs, 0⟩, ⟨tg1, iter1, ifs1, 0⟩] scope pos) (some (.Name y py)) spos.line X.env = pure true) (hi : PI X tg iter (iOf X.K it)) (ok : BlkOk X.N X.env.scope scope own) (hv1 : ∀ i ∈ vs1, i ∈ own.map (·.2)) (hg : Blk X scope fun Y => PG Y tg (gOf Y.K t)) (ht : Blk X scope fun Y => PTs Y ifs (tOfT Y.K c))
    (hi1 : Blk X scope fun Y => PI Y tg1 iter1 (iOf Y.K it1)) (hg1 : Blk X scope fun Y => PG Y tg1 (gOf Y.K t1)) (ht1 : Blk X scope fun Y => PTs Y ifs1 (tOfT Y.K c1)) (he : Blk X scope fun Y => PE Y elt (tOf Y.K e))
    (hv : ∀ i ∈ t.slots, i ∈ own.map (·.2) := by decide) (hw : ∀ i ∈ t1.slots, i ∈ vs1 := by decide) (hs : ∀ x, foldedSetIterable iter X.env x = pure x := by intro _; rfl) (hs1 : ∀ env x, foldedSetIterable iter1 env x = pure x := by intro _ _; rfl) :
    PS X (.Assign [.Name y py] (.ListComp elt [⟨tg, iter, ifs, 0⟩, ⟨tg1, iter1, ifs1, 0⟩] scope pos) spos) (tOfS X.K (xSet i (xLc2 it t c it1 t1 c1 e (own.map (·.2)) vs1))) := PS.imp (ps_setLc2 hc hN hy hyl hsw hi ok hv1 hg ht hi1 hg1 ht1 he hs hs1) fun D σ H h => by
  have q := set_rd h
  exact lc2_rd hv hw q
end

/-! ### defs -/
def spOf (K : PySem.W.Frag) (k : Nat) (f : XF) : Sp := fun vs H Q _ => ∃ m G S ds r S', vs.length = k ∧ RepSt K G m S H ∧ RepDs K G m H ds vs ∧ f ds S = some (r, S') ∧
  ∀ v H', Step m H m H' → RepSt K G m S' H' → RepR K G m H' r v → Own K H G m H' S' r v → Q v H'
theorem def_rd {K : PySem.W.Frag} {k : Nat} {f : XF} {xs : XD} {σ : L2.St} {H : Hp} {Q : VK} {E : XK} (hk : ∀ ds S r S', f ds S = some (r, S') → ds.length = k) (h : tOf K (xDef f xs) σ H Q) : tCall (spOf K k f) [] E (tOfD K xs) σ H Q := by
  obtain ⟨m, G, ρ, S, r, S', hE, hS, hx, kk⟩ := h
  simp only [xDef, Option.bind_eq_some_iff] at hx
  obtain ⟨⟨ds, S1⟩, h1, hx⟩ := hx
  refine ⟨m, G, ρ, S, ds, S1, hE, hS, h1, fun vs m1 H1 s1 hS1 q1 => ?_⟩
  show spOf K k f (vs ++ []) H1 Q E
  rw [List.append_nil]
  refine ⟨m1, G, S1, ds, r, S', by rw [← q1.length]; exact hk _ _ _ _ hx, hS1, q1, hx, fun v H' s2 hS2 q2 o2 => ?_⟩
  exact kk v m1 H' (s1.trans s2) hS2 q2 (o2.back s1.dom)
theorem mkF_len {k n : Nat} {b : XS} : ∀ ds S r S', mkF k n b ds S = some (r, S') → ds.length = k := fun ds S r S' h => by
  unfold mkF at h
  split at h
  · assumption
  · cases h
section
variable {X : Cx} {e : Expr} {es : List Expr} {x : Str} {p pos : Pos} {f : Addr} {fd : FuncData} {ps : List Str} {k j n : Nat} {b : XS} {xs : XD}
theorem xe_def (F : FnOk X.prog X.w X.K X.mg X.base CX0 j f fd ps (spOf X.K k (mkF k n b))) (hr : Room j X.A) (hg : Gl X x) (hm : X.mg x = some (.ref f)) (hk : PySem.W.keepIn X.K (.ref f) = true) (hb : Binds X.K fd ps []) (ha : PA X (e :: es) (tOfD X.K xs)) (hdb : (x == ("__debug__" : Str)) = false := by decide)
    (he : starEach (e :: es) X.env = (false, eval e X.env) :: starEach es X.env := by rfl) (hpl : (backTo pos (starEach es X.env)).any (·.1) = false := by rfl) : PE X (.Call (.Name x p) (e :: es) [] pos) (tOf X.K (xDef (mkF k n b) xs)) :=
  PE.imp (pe_call F hr hg hm hk hb .nil pass0 ha hdb he hpl) fun σ H Q h => def_rd mkF_len h
theorem xe_def0 (F : FnOk X.prog X.w X.K X.mg X.base CX0 j f fd ps (spOf X.K k (mkF k n b))) (hr : Room j X.A) (hg : Gl X x) (hm : X.mg x = some (.ref f)) (hk : PySem.W.keepIn X.K (.ref f) = true) (hb : Binds X.K fd ps []) (hdb : (x == ("__debug__" : Str)) = false := by decide) :
    PE X (.Call (.Name x p) [] [] pos) (tOf X.K (xDef (mkF k n b) xNilD)) :=
  PE.imp (pe_call0 F hr hg hm hk hb .nil pass0 hdb) fun σ H Q h => by
    have q : tCall (spOf X.K k (mkF k n b)) [] E0 (tOfD X.K xNilD) σ H Q := def_rd mkF_len h
    obtain ⟨m, G, ρ, S, ds, S', hE, hS, hx, kk⟩ := q
    cases hx
    exact kk [] m H Step.refl hS rfl
end
theorem startE_ok {K : PySem.W.Frag} {G m : List Addr} {H : Hp} {N : List Str} {ds : List D} {vs : List V} (h : RepDs K G m H ds vs) : RepE K G m H (startE N.length ds) (L2.start N vs) := by
  have hl := h.length
  refine ⟨by simp [startE, L2.start, hl], fun i d e => ?_⟩
  unfold startE at e
  by_cases c : i < ds.length
  · rw [List.getElem?_append_left (by simpa using c), List.getElem?_map] at e
    cases hd : ds[i]? with
    | none => rw [hd] at e; cases e
    | some d' =>
      rw [hd] at e
      simp only [Option.map_some, Option.some.injEq] at e
      subst e
      obtain ⟨v, hv, q⟩ := h.get hd
      refine ⟨v, ?_, q⟩
      unfold L2.start
      rw [List.getElem?_append_left (by simp; omega), List.getElem?_map, hv]; rfl
  · rw [List.getElem?_append_right (by simp; omega)] at e
    have := List.mem_of_getElem? e
    simp [List.mem_replicate] at this
/-- THE RULE for a def -/
theorem ok_def {Pg : Program} {w : World} {K : PySem.W.Frag} {mg : Str → Option Value} {base : Heap} {x qual : Str} {st : Stmt} {f : Addr} {fd : FuncData} {N ps : List Str} {j : Nat} {b : XS} (F : Fun K x qual st f fd) (Sc : FnScope N ps (defScope st))
    (hb : ∀ (cdv : Value) (A : Around) (outer : List PySem.Env) (s : Shared) (H : Hp) (E : XK), Room j (A.deeper (envOfC qual (defScope st) s.heap.objs.size f cdv)) → PSs (cxOf CX0 Pg w K mg base N qual (defScope st) f cdv A outer s H E).nox (defBody st) (tOfS K b)) :
    FnOk Pg w K mg base CX0 (j + 1) f fd ps (spOf K ps.length (mkF ps.length N.length b)) := by
  refine F.ok Sc (fun vs H Q E h => ?_) (fun cdv A outer s H vs Q E hr h => ⟨tOfS K b, hb cdv A outer s H E hr, ?_⟩)
  · obtain ⟨m, G, S, ds, r, S', hl, _⟩ := h
    exact hl
  · obtain ⟨m, G, S, ds, r, S', hl, hS, q, hf, k⟩ := h
    unfold mkF at hf
    split at hf
    · rename_i hk
      simp only [Option.bind_eq_some_iff] at hf
      obtain ⟨⟨fl, S1⟩, h1, hf⟩ := hf
      refine ⟨m, G, startE N.length ds, S, fl, S1, startE_ok q, hS, h1, ?_⟩
      cases fl with
      | nx ρ' =>
        intro σ' m' H' s' hS' hE'
        obtain ⟨a1, a2, a3⟩ := finish_ok (r := .p .non) (v := .non) hS.len s' hS' (by simp [RepR, RepP]) trivial hf
        exact k .non H' ⟨⟨[], by simp, fun _ z => by cases z⟩, s'.keep, s'.dom⟩ a1 a2 a3
      | rt r1 =>
        intro v m' H' s' hS' q' o'
        obtain ⟨a1, a2, a3⟩ := finish_ok hS.len s' hS' q' o' hf
        exact k v H' ⟨⟨[], by simp, fun _ z => by cases z⟩, s'.keep, s'.dom⟩ a1 a2 a3
      | bk ρ' => cases hf
      | ct ρ' => cases hf
    · cases hf
end XL
end
section
set_option autoImplicit false
set_option linter.all false
namespace XL
/-! ### what the operators do on data -/
def pAdd : P → P → Option R
  | .int i, .int j => some (.p (.int (i + j)))
  | .str s, .str t => if s.length + t.length ≤ big then some (.p (.str (s ++ t))) else none
  | .lst xs, .lst ys => if xs.length + ys.length ≤ big then some (.frl (xs ++ ys)) else none
  | .tup xs, .tup ys => if xs.length + ys.length ≤ big then some (.p (.tup (xs ++ ys))) else none
  | _, _ => none
def pSub : P → P → Option R
  | .int i, .int j => some (.p (.int (i - j)))
  | _, _ => none
def lim64 : Int := 18446744073709551616
def pMul : P → P → Option R
  | .int i, .int j => if (-lim64 < i ∧ i < lim64) ∨ (-lim64 < j ∧ j < lim64) then some (.p (.int (i * j))) else none
  | .tup xs, .int k => if xs ≠ [] ∧ 2 ≤ k ∧ k ≤ 1000 ∧ xs.length ≤ 1000 then some (.p (.tup (List.replicate k.toNat xs).flatten)) else none
  | _, _ => none
def pDiv : P → P → Option R
  | .int i, .int j => if 0 < j ∧ j < 1073741824 then some (.p (.int (i / j))) else none
  | _, _ => none
def pMod : P → P → Option R
  | .int i, .int j => if 0 < j then some (.p (.int (i % j))) else none
  | _, _ => none
def pPow : P → P → Option R
  | .int i, .int j => if 0 ≤ j ∧ j ≤ 1000000 ∧ (i.natAbs : Int) < lim64 then some (.p (.int (i ^ j.toNat))) else none
  | _, _ => none
def pNeg : P → Option R
  | .int i => some (.p (.int (-i)))
  | _ => none
/-! data of one kind at every place, as far as both go -/
mutual
def P.alike : P → P → Bool
  | .non, .non => true
  | .bl _, .bl _ => true
  | .int _, .int _ => true
  | .str _, .str _ => true
  | .lst xs, .lst ys => P.alikes xs ys
  | .tup xs, .tup ys => P.alikes xs ys
  | _, _ => false
def P.alikes : List P → List P → Bool
  | x :: xs, y :: ys => P.alike x y && P.alikes xs ys
  | _, _ => true
end
def natLt : List Nat → List Nat → Bool
  | [], [] => false
  | [], _ :: _ => true
  | _ :: _, [] => false
  | x :: xs, y :: ys => if x = y then natLt xs ys else decide (x < y)
/-! x < y for data that are alike -/
mutual
def P.lt : P → P → Bool
  | .bl a, .bl b => !a && b
  | .int i, .int j => decide (i < j)
  | .str s, .str t => natLt s t
  | .lst xs, .lst ys => P.lts xs ys
  | .tup xs, .tup ys => P.lts xs ys
  | _, _ => false
def P.lts : List P → List P → Bool
  | [], [] => false
  | [], _ :: _ => true
  | _ :: _, [] => false
  | x :: xs, y :: ys => if P.pyeq x y then P.lts xs ys else P.lt x y
end
def cmpOk (p q : P) : Bool := P.alike p q && P.fit 60 p && P.fit 60 q && (match p with | .non => false | _ => true)
def pLt : P → P → Option R
  | .int i, .int j => some (.p (.bl (decide (i < j))))
  | p, q => if cmpOk p q then some (.p (.bl (P.lt p q))) else none
def pLe : P → P → Option R
  | .int i, .int j => some (.p (.bl (decide (i ≤ j))))
  | p, q => if cmpOk p q then some (.p (.bl (!P.lt q p))) else none
def pGt : P → P → Option R
  | .int i, .int j => some (.p (.bl (decide (j < i))))
  | p, q => if cmpOk p q then some (.p (.bl (P.lt q p))) else none
def pGe : P → P → Option R
  | .int i, .int j => some (.p (.bl (decide (j ≤ i))))
  | p, q => if cmpOk p q then some (.p (.bl (!P.lt p q))) else none
def pEq (p q : P) : Option R := if P.fit 60 p && P.fit 60 q then some (.p (.bl (P.pyeq p q))) else none
def pNe (p q : P) : Option R := if P.fit 60 p && P.fit 60 q then some (.p (.bl (!P.pyeq p q))) else none
/-- is, is not: None and truths alone -/
def pIs : P → P → Option R
  | .non, .non => some (.p (.bl true))
  | .bl a, .bl b => some (.p (.bl (decide (a = b))))
  | .lst _, .non => some (.p (.bl false))
  | .tup _, .non => some (.p (.bl false))
  | .int _, .non => some (.p (.bl false))
  | .str _, .non => some (.p (.bl false))
  | .bl _, .non => some (.p (.bl false))
  | _, _ => none
def pIsNot : P → P → Option R
  | .non, .non => some (.p (.bl false))
  | .bl a, .bl b => some (.p (.bl (!decide (a = b))))
  | .lst _, .non => some (.p (.bl true))
  | .tup _, .non => some (.p (.bl true))
  | .int _, .non => some (.p (.bl true))
  | .str _, .non => some (.p (.bl true))
  | .bl _, .non => some (.p (.bl true))
  | _, _ => none
/-- a text in a text -/
def isPre : List Nat → List Nat → Bool
  | [], _ => true
  | _ :: _, [] => false
  | x :: xs, y :: ys => decide (x = y) && isPre xs ys
def isSub (s : List Nat) : List Nat → Bool
  | [] => s.isEmpty
  | y :: ys => isPre s (y :: ys) || isSub s ys
def inData (x : P) (ys : List P) : Bool := ys.any fun y => P.pyeq y x
/-- one sign in a text; data in a list or tuple -/
def pIn : P → P → Option R
  | .str [c], .str t => some (.p (.bl (decide (c ∈ t))))
  | x, .lst ys => if P.fit 60 x && P.fit 60 (.lst ys) then some (.p (.bl (inData x ys))) else none
  | x, .tup ys => if P.fit 60 x && P.fit 60 (.tup ys) then some (.p (.bl (inData x ys))) else none
  | _, _ => none
def pNotIn : P → P → Option R
  | .str [c], .str t => some (.p (.bl (!decide (c ∈ t))))
  | x, .lst ys => if P.fit 60 x && P.fit 60 (.lst ys) then some (.p (.bl (!inData x ys))) else none
  | x, .tup ys => if P.fit 60 x && P.fit 60 (.tup ys) then some (.p (.bl (!inData x ys))) else none
  | _, _ => none
/-- o[i] -/
def pIx : P → P → Option R
  | .lst ds, .int i => (ixP ds.length i).bind fun k => ds[k]?.map fun d => .p d
  | .tup ds, .int i => (ixP ds.length i).bind fun k => ds[k]?.map fun d => .p d
  | .str s, .int i => if s.length ≤ big then (ixP s.length i).bind fun k => s[k]?.map fun c => .p (.str [c]) else none
  | _, _ => none
def isiInt : P → Bool
  | .int _ => true
  | .bl _ => true
  | _ => false
def isiBool : P → Bool
  | .bl _ => true
  | _ => false
def isiTuple : P → Bool
  | .tup _ => true
  | _ => false
def isiStr : P → Bool
  | .str _ => true
  | _ => false
def pIsi (f : P → Bool) (p : P) : Option R := some (.p (.bl (f p)))
/-! ### built-ins -/
def cLen : List P → Option R
  | [.lst ds] => some (.p (.int ds.length))
  | [.tup ds] => some (.p (.int ds.length))
  | [.str s] => if s.length ≤ big then some (.p (.int s.length)) else none
  | _ => none
def cInt : List P → Option R
  | [.int i] => some (.p (.int i))
  | [.bl b] => some (.p (.int (if b then 1 else 0)))
  | _ => none
def cTuple : List P → Option R
  | [.lst ds] => some (.p (.tup ds))
  | [.tup ds] => some (.p (.tup ds))
  | _ => none
def cList : List P → Option R
  | [.lst ds] => some (.frl ds)
  | [.tup ds] => some (.frl ds)
  | _ => none
def boolsOf : List P → Option (List Bool)
  | [] => some []
  | .bl b :: ds => (boolsOf ds).map fun bs => b :: bs
  | _ :: _ => none
def intsOf : List P → Option (List Int)
  | [] => some []
  | .int b :: ds => (intsOf ds).map fun bs => b :: bs
  | _ :: _ => none
def strsOf : List P → Option (List (List Nat))
  | [] => some []
  | .str b :: ds => (strsOf ds).map fun bs => b :: bs
  | _ :: _ => none
def cAll : List P → Option R
  | [.lst ds] => (boolsOf ds).map fun bs => .p (.bl (bs.all id))
  | _ => none
def cAny : List P → Option R
  | [.lst ds] => (boolsOf ds).map fun bs => .p (.bl (bs.any id))
  | _ => none
def cSum : List P → Option R
  | [.lst ds] => (intsOf ds).map fun bs => .p (.int bs.sum)
  | _ => none
def maxI : List Int → Int
  | [] => 0
  | [x] => x
  | x :: xs => let m := maxI xs; if x < m then m else x
def minI : List Int → Int
  | [] => 0
  | [x] => x
  | x :: xs => let m := minI xs; if m < x then m else x
def cMax : List P → Option R
  | [.lst ds] => (intsOf ds).bind fun bs => if bs = [] then none else some (.p (.int (maxI bs)))
  | [.int i, .int j] => some (.p (.int (if j > i then j else i)))
  | _ => none
def cMin : List P → Option R
  | [.lst ds] => (intsOf ds).bind fun bs => if bs = [] then none else some (.p (.int (minI bs)))
  | [.int i, .int j] => some (.p (.int (if j < i then j else i)))
  | _ => none
/-- put in by the order -/
def insP (x : P) : List P → List P
  | [] => [x]
  | y :: ys => if P.lt y x then y :: insP x ys else x :: y :: ys
def sortP : List P → List P
  | [] => []
  | x :: xs => insP x (sortP xs)
def allAlike : List P → Bool
  | [] => true
  | x :: xs => P.alike x x && xs.all (fun y => P.alike x y && P.alike y x) && allAlike xs
def notNone : P → Bool
  | .non => false
  | _ => true
def fullTup : P → Bool
  | .tup (_ :: _) => true
  | _ => false
def noTup : P → Bool
  | .tup _ => false
  | .non => false
  | _ => true
def sortOk (ds : List P) : Bool := allAlike ds && ds.all (P.fit 60) && (ds.all fullTup || ds.all noTup) && decide (ds.length ≤ big)
def cSorted : List P → Option R
  | [.lst ds] => if sortOk ds then some (.frl (sortP ds)) else none
  | _ => none
/-- each datum of a list once, the last place kept -/
def dedupP : List P → List P
  | [] => []
  | x :: xs => if x ∈ xs then dedupP xs else x :: dedupP xs
def isIntP : P → Bool | .int _ => true | _ => false
def isStrP : P → Bool | .str _ => true | _ => false
def setOk (ds : List P) : Bool := (ds.all isIntP || ds.all isStrP) && decide (ds.length ≤ 4000)
def uSortedSet : P → Option R
  | .lst ds => if setOk ds then some (.frl (sortP (dedupP ds))) else none
  | _ => none
def uLenSet : P → Option R
  | .lst ds => if setOk ds then some (.p (.int (dedupP ds).length)) else none
  | _ => none
/-! ### methods -/
def idxIn (x : P) : List P → Option Nat
  | [] => none
  | y :: ys => if P.pyeq y x then some 0 else (idxIn x ys).map (· + 1)
def mIndex : P → List P → Option R
  | .lst ds, [x] => if P.fit 60 x && P.fit 60 (.lst ds) then (idxIn x ds).map (fun (j : Nat) => R.p (P.int (j : Int))) else none
  | _, _ => none
/-- the letters of A to Z as small ones; texts of ASCII alone -/
def lowC (c : Nat) : Nat := if 65 ≤ c ∧ c ≤ 90 then c + 32 else c
def mLower : P → List P → Option R
  | .str s, [] => if s.length ≤ 1000 ∧ s.all (fun c => decide (c < 128)) then some (.p (.str (s.map lowC))) else none
  | _, _ => none
def joinT (sep : List Nat) : List (List Nat) → List Nat
  | [] => []
  | [x] => x
  | x :: xs => x ++ sep ++ joinT sep xs
def mJoin : P → List P → Option R
  | .str s, [.lst ds] => (strsOf ds).bind fun ts => if (ts.map (·.length)).sum + ts.length * s.length ≤ big then some (.p (.str (joinT s ts))) else none
  | .str s, [.tup ds] => (strsOf ds).bind fun ts => if (ts.map (·.length)).sum + ts.length * s.length ≤ big then some (.p (.str (joinT s ts))) else none
  | _, _ => none
/-- a table of the module with texts as keys -/
abbrev Tab := List (List Nat × P)
def tabIn (t : Tab) : P → Option R
  | .str s => some (.p (.bl (t.lookup s).isSome))
  | _ => none
def tabGet (t : Tab) : P → Option R
  | .str s => (t.lookup s).map fun d => .p d
  | _ => none
def uListRng : P → Option R
  | .int n => if -1000 ≤ n ∧ n ≤ big then some (.frl ((List.range n.toNat).map fun i => P.int (i : Nat))) else none
  | _ => none
/-- what is walked: a text's signs, or the items of a list or a tuple -/
def xItA (a : XE) : XI := fun ρ S => match a ρ S with
  | some (.p (.str _), _) => xItS a ρ S
  | _ => xIt a ρ S
end XL
end
section
set_option Elab.async false
set_option linter.all false
set_option maxRecDepth 100000
set_option maxHeartbeats 1000000
namespace XL
open PySem L2 PyProof.Rows
/-! ### data as the library's data -/
mutual
def toPD : P → PyData
  | .non => .none
  | .bl b => .bool b
  | .int i => .int i
  | .str s => .str ⟨s.toArray⟩
  | .tup ds => .tuple (toPDs ds)
  | .lst ds => .list (toPDs ds)
def toPDs : List P → List PyData
  | [] => []
  | d :: ds => toPD d :: toPDs ds
end
theorem toPDs_map : ∀ ds : List P, toPDs ds = ds.map toPD
  | [] => by simp [toPDs]
  | d :: ds => by simp [toPDs, toPDs_map ds]
section
variable {K : PySem.W.Frag} {m : List Addr} {H : Hp}
mutual
theorem RepP.dp : ∀ (d : P) (v : V), RepP K m H d v → Dp K H v (toPD d)
  | .non, v, h => by simp only [RepP] at h; subst h; simp only [toPD]; exact .non
  | .bl b, v, h => by simp only [RepP] at h; subst h; simp only [toPD]; exact .bl b
  | .int b, v, h => by simp only [RepP] at h; subst h; simp only [toPD]; exact .int b
  | .str b, v, h => by simp only [RepP] at h; subst h; simp only [toPD]; exact .str _
  | .tup ds, v, h => by
    simp only [RepP] at h
    obtain ⟨a, vs, rfl, f, r⟩ := h
    simp only [toPD]
    exact .tup f.sq (RepPs.dp ds vs r)
  | .lst ds, v, h => by
    simp only [RepP] at h
    obtain ⟨a, vs, rfl, f, r⟩ := h
    simp only [toPD]
    exact .lst f.sq (RepPs.dp ds vs r)
theorem RepPs.dp : ∀ (ds : List P) (vs : List V), RepPs K m H ds vs → DpAll K H vs (toPDs ds)
  | [], vs, h => by simp only [RepPs] at h; subst h; simp only [toPDs]; exact .nil
  | d :: ds, vs, h => by
    simp only [RepPs] at h
    obtain ⟨v, r, rfl, h1, h2⟩ := h
    simp only [toPDs]
    exact .cons (RepP.dp d v h1) (RepPs.dp ds r h2)
end
theorem RdT.dp : ∀ {d : P} {v : V}, RdT K m H d v → Dp K H v (toPD d)
  | .non, v, h => RepP.dp (m := m) _ v h
  | .bl _, v, h => RepP.dp (m := m) _ v h
  | .int _, v, h => RepP.dp (m := m) _ v h
  | .str _, v, h => RepP.dp (m := m) _ v h
  | .tup _, v, h => RepP.dp (m := m) _ v h
  | .lst ds, v, h => by
    obtain ⟨a, vs, rfl, f, r⟩ := h
    simp only [toPD]
    exact .lst (.inl f) (RepPs.dp ds vs r)
end
theorem beqd {α : Type} [BEq α] [LawfulBEq α] [DecidableEq α] (a b : α) : (a == b) = decide (a = b) := by
  by_cases h : a = b
  · subst h; simp
  · rw [decide_eq_false h]; exact beq_eq_false_iff_ne.mpr h
mutual
theorem eqv_pyeq : ∀ (a b : P), PyData.eqv (toPD a) (toPD b) = P.pyeq a b
  | .non, b => by cases b <;> simp [toPD, PyData.eqv, P.pyeq]
  | .bl x, b => by cases b <;> simp [toPD, PyData.eqv, P.pyeq, beqd]
  | .int x, b => by cases b <;> simp [toPD, PyData.eqv, P.pyeq, beqd]
  | .str x, b => by
    cases b <;> simp [toPD, PyData.eqv, P.pyeq, beqd]
  | .tup xs, b => by
    cases b <;> simp [toPD, PyData.eqv, P.pyeq]
    exact eqvs_pyeq xs _
  | .lst xs, b => by
    cases b <;> simp [toPD, PyData.eqv, P.pyeq]
    exact eqvs_pyeq xs _
theorem eqvs_pyeq : ∀ (a b : List P), PyData.eqvAll (toPDs a) (toPDs b) = P.pyeqs a b
  | [], b => by cases b <;> simp [toPDs, PyData.eqvAll, P.pyeqs]
  | x :: xs, b => by
    cases b with
    | nil => simp [toPDs, PyData.eqvAll, P.pyeqs]
    | cons y ys => simp [toPDs, PyData.eqvAll, P.pyeqs, eqv_pyeq x y, eqvs_pyeq xs ys]
end
theorem fit_all : ∀ (n : Nat), (∀ (d : P), P.fit n d = true → PyData.canLay0 (toPD d) = true ∧ PyData.depth (toPD d) ≤ n) ∧ ∀ (ds : List P), ds.all (P.fit n) = true → PyData.canLayAll0 (toPDs ds) = true ∧ PyData.depthAll (toPDs ds) ≤ n := by
  intro n
  induction n with
  | zero =>
    have h1 : ∀ (d : P), P.fit 0 d = true → PyData.canLay0 (toPD d) = true ∧ PyData.depth (toPD d) ≤ 0 := fun d h => by
      cases d <;> simp [P.fit, toPD, PyData.canLay0, PyData.depth, PyData.strOk] at h ⊢
      exact h
    refine ⟨h1, fun ds => ?_⟩
    induction ds with
    | nil => intro _; simp [toPDs, PyData.canLayAll0, PyData.depthAll]
    | cons d ds ih =>
      intro h
      simp only [List.all_cons, Bool.and_eq_true] at h
      obtain ⟨a1, a2⟩ := h1 d h.1
      obtain ⟨b1, b2⟩ := ih h.2
      simp only [toPDs, PyData.canLayAll0, PyData.depthAll, a1, b1, Bool.and_self, true_and]
      omega
  | succ n ih =>
    have h1 : ∀ (d : P), P.fit (n + 1) d = true → PyData.canLay0 (toPD d) = true ∧ PyData.depth (toPD d) ≤ n + 1 := fun d h => by
      cases d with
      | tup ds =>
        simp only [P.fit] at h
        obtain ⟨a1, a2⟩ := ih.2 ds h
        simp only [toPD, PyData.canLay0, PyData.depth]
        exact ⟨a1, by omega⟩
      | lst ds =>
        simp only [P.fit] at h
        obtain ⟨a1, a2⟩ := ih.2 ds h
        simp only [toPD, PyData.canLay0, PyData.depth]
        exact ⟨a1, by omega⟩
      | str s =>
        simp [P.fit, toPD, PyData.canLay0, PyData.depth, PyData.strOk] at h ⊢
        exact h
      | _ => simp [toPD, PyData.canLay0, PyData.depth]
    refine ⟨h1, fun ds => ?_⟩
    induction ds with
    | nil => intro _; simp [toPDs, PyData.canLayAll0, PyData.depthAll]
    | cons d ds ih2 =>
      intro h
      simp only [List.all_cons, Bool.and_eq_true] at h
      obtain ⟨a1, a2⟩ := h1 d h.1
      obtain ⟨b1, b2⟩ := ih2 h.2
      simp only [toPDs, PyData.canLayAll0, PyData.depthAll, a1, b1, Bool.and_self, true_and]
      omega
theorem fit_shaped {d : P} (h : P.fit 60 d = true) : SeqAt.shaped (toPD d) = true := by
  obtain ⟨a, b⟩ := (fit_all 60).1 d h
  unfold SeqAt.shaped
  rw [a, decide_eq_true (by omega : PyData.depth (toPD d) ≤ 64)]
  rfl
/-! ### the order -/
mutual
theorem alike_pd : ∀ (a b : P), PySem.W.alike (toPD a) (toPD b) = P.alike a b
  | .non, b => by cases b <;> simp [toPD, PySem.W.alike, P.alike]
  | .bl x, b => by cases b <;> simp [toPD, PySem.W.alike, P.alike]
  | .int x, b => by cases b <;> simp [toPD, PySem.W.alike, P.alike]
  | .str x, b => by cases b <;> simp [toPD, PySem.W.alike, P.alike]
  | .tup xs, b => by
    cases b <;> simp [toPD, PySem.W.alike, P.alike]
    exact alikes_pd xs _
  | .lst xs, b => by
    cases b <;> simp [toPD, PySem.W.alike, P.alike]
    exact alikes_pd xs _
theorem alikes_pd : ∀ (a b : List P), PySem.W.alikeAll (toPDs a) (toPDs b) = P.alikes a b
  | [], b => by cases b <;> simp [toPDs, PySem.W.alikeAll, P.alikes]
  | x :: xs, b => by
    cases b with
    | nil => simp [toPDs, PySem.W.alikeAll, P.alikes]
    | cons y ys => simp [toPDs, PySem.W.alikeAll, P.alikes, alike_pd x y, alikes_pd xs ys]
end
theorem natLt_iff : ∀ (s t : List Nat), natLt s t = decide (s < t)
  | [], [] => by simp [natLt]
  | [], _ :: _ => by simp [natLt]
  | _ :: _, [] => by simp [natLt]
  | x :: xs, y :: ys => by
    simp only [natLt]
    by_cases c : x = y
    · subst c
      rw [if_pos rfl, natLt_iff xs ys]
      simp
    · rw [if_neg c]
      simp [List.cons_lt_cons_iff, c]
mutual
theorem lt_pd : ∀ (a b : P), P.alike a b = true → PySem.W.dataLt (toPD a) (toPD b) = P.lt a b
  | .non, b, h => by
    cases b <;> simp [P.alike] at h
    simp only [toPD, P.lt]
    exact PyProof.Rows.lex_irrefl _
  | .bl x, b, h => by
    cases b <;> simp [P.alike] at h
    rename_i y
    simp only [toPD, P.lt]
    rw [PySem.W.dataLt_bool]
    cases x <;> cases y <;> rfl
  | .int x, b, h => by
    cases b <;> simp [P.alike] at h
    simp only [toPD, P.lt]
    rw [PySem.W.dataLt_int]
  | .str x, b, h => by
    cases b <;> simp [P.alike] at h
    simp only [toPD, P.lt]
    rw [PySem.W.dataLt_str, natLt_iff]
  | .tup xs, b, h => by
    cases b <;> simp [P.alike] at h
    rename_i ys
    simp only [toPD, P.lt]
    rw [PySem.W.dataLt_tuple]
    exact lts_pd xs ys h
  | .lst xs, b, h => by
    cases b <;> simp [P.alike] at h
    rename_i ys
    simp only [toPD, P.lt]
    rw [PySem.W.dataLt_list]
    exact lts_pd xs ys h
theorem lts_pd : ∀ (a b : List P), P.alikes a b = true → PyProof.Rows.lexLt PyProof.Rows.itemOrd (PySem.W.keyToksAll (toPDs a)) (PySem.W.keyToksAll (toPDs b)) = P.lts a b
  | [], [], _ => by
    simp only [toPDs, P.lts]
    exact PyProof.Rows.lex_irrefl _
  | [], y :: ys, _ => by
    simp only [toPDs, P.lts]
    simp only [PySem.W.keyToksAll]
    exact (PyProof.Rows.lex_diff (O := PyProof.Rows.itemOrd) (by decide)).trans rfl
  | x :: xs, [], _ => by
    simp only [toPDs, P.lts]
    simp only [PySem.W.keyToksAll]
    exact (PyProof.Rows.lex_diff (O := PyProof.Rows.itemOrd) (by decide)).trans rfl
  | x :: xs, y :: ys, h => by
    simp only [P.alikes, Bool.and_eq_true] at h
    simp only [toPDs, P.lts]
    have ha : PySem.W.alike (toPD x) (toPD y) = true := by rw [alike_pd]; exact h.1
    cases e : P.pyeq x y with
    | true =>
      rw [if_pos rfl, PySem.W.dataLt_all_yes ha (by rw [eqv_pyeq]; exact e)]
      exact lts_pd xs ys h.2
    | false =>
      rw [if_neg (by simp), PySem.W.dataLt_all_no ha (by rw [eqv_pyeq]; exact e)]
      exact lt_pd x y h.1
end
end XL
end
section
set_option Elab.async false
set_option linter.all false
set_option maxRecDepth 100000
set_option maxHeartbeats 1000000
namespace XL
open PySem L2 PyProof.Rows
section
variable {X : Cx}
theorem opr_imp {f : Value → Value → Sem Value} {r : R2} {g : P → P → Option R} (h : OpR X f r) (w : ∀ x y H Q, rOf X.K g x y H Q → r x y H Q) : OpR X f (rOf X.K g) := fun pins s σ H x y v u Q I rx ry q => h pins s σ H x y v u Q I rx ry (w x y H Q q)
theorem rep_scal {K : PySem.W.Frag} {G m : List Addr} {H : Hp} {d : P} {v : V} (h : RepP K (m ++ G) H d v) : RepR K G m H (.p d) v := h
theorem op_catL : OpR X (binaryOp .Add) (fun x y H Q => ∃ l b xs zs, x = .ref l ∧ y = .ref b ∧ Rd H l (.lst xs) ∧ Rd H b (.lst zs) ∧ xs.length + zs.length ≤ sizeLine ∧ ∀ p, H p = none → Q (.ref p) (upd H p (.lst (xs ++ zs)))) := by
  intro pins s σ H x y v u Q I rx ry h
  obtain ⟨l, b, xs, zs, rfl, rfl, hH, hB, hz, q⟩ := h
  cases rx
  cases ry
  obtain ⟨z, its, n, r, e⟩ := hH.ok I.hok
  obtain ⟨z2, its2, n2, r2, e2⟩ := hB.ok I.hok
  have hl := r.length
  have hl2 := r2.length
  refine PySem.P.add_list e e2 ?_ (by rw [List.size_toArray, List.size_toArray]; omega)
  have ea : its.toArray ++ its2.toArray = (its ++ its2).toArray := by simp
  rw [ea]
  exact ⟨.ref _, _, I.lnew (t' := s.toks) (r.append r2) (by rw [List.length_append]; omega), rfl, q _ I.fresh⟩
theorem op_addX : OpR X (binaryOp .Add) (rOf X.K pAdd) := opr_imp (OpR.or op_add (OpR.or op_add_str (OpR.or op_catL op_catA))) fun x y H Q h => by
  obtain ⟨m, G, S, p, q, r, hS, hp, hq, hf, k⟩ := h
  unfold pAdd at hf
  split at hf
  · cases hf
    simp only [RdT, RepP] at hp hq
    subst hp hq
    exact .inl ⟨_, _, rfl, rfl, k _ H (Ext.refl _) (by simp [RepR, RepP]) trivial⟩
  · split at hf
    · rename_i hl
      cases hf
      simp only [RdT, RepP] at hp hq
      subst hp hq
      refine .inr (.inl ⟨_, _, rfl, rfl, ?_, k _ H (Ext.refl _) ?_ trivial⟩)
      · show _ + _ ≤ _
        simp only [Str.length, List.size_toArray]
        exact big_size hl
      · simp only [RepR, RepP, V.str.injEq]
        show Str.append _ _ = _
        simp [Str.append]
    · cases hf
  · split at hf
    · rename_i hl
      cases hf
      obtain ⟨a, vs, rfl, f1, r1⟩ := hp
      obtain ⟨b, ws, rfl, f2, r2⟩ := hq
      refine .inr (.inr (.inl ⟨a, b, vs, ws, rfl, rfl, f1, f2, ?_, fun p hp => ?_⟩))
      · rw [← r1.length, ← r2.length]; exact big_size hl
      · have e := Ext.new (o := .lst (vs ++ ws)) hp
        exact k _ _ e ⟨p, _, rfl, hS.fresh hp, upd_same, RepPs.step (Step.of_ext e) _ _ (r1.append r2)⟩ (own_new hS hp (r1.append r2))
    · cases hf
  · split at hf
    · rename_i xs ys hl
      cases hf
      simp only [RdT, RepP] at hp hq
      obtain ⟨a, vs, rfl, f1, r1⟩ := hp
      obtain ⟨b, ws, rfl, f2, r2⟩ := hq
      have l1 := r1.length
      have l2 := r2.length
      refine .inr (.inr (.inr ⟨a, b, vs, ws, rfl, rfl, f1.sq, f2.sq, ?_, fun e => ?_, fun e1 e2 => ?_, fun e1 e2 p hp => ?_⟩))
      · rw [← l1, ← l2]; exact big_size hl
      · subst e
        have : xs = [] := List.length_eq_zero_iff.mp (by simpa using l1)
        subst this
        exact k _ H (Ext.refl _) (by simp only [RepR, RepP]; exact ⟨b, ws, rfl, f2, by simpa using r2⟩) trivial
      · subst e2
        have : ys = [] := List.length_eq_zero_iff.mp (by simpa using l2)
        subst this
        exact k _ H (Ext.refl _) (by simp only [RepR, RepP]; exact ⟨a, vs, rfl, f1, by simpa using r1⟩) trivial
      · have e := Ext.new (o := .tup (vs ++ ws)) hp
        refine k _ _ e ?_ trivial
        simp only [RepR, RepP]
        exact ⟨p, _, rfl, .inl ⟨.inl upd_same, hS.fresh hp⟩, RepPs.step (Step.of_ext e) _ _ (r1.append r2)⟩
    · cases hf
  · cases hf
theorem op_subX : OpR X (binaryOp .Sub) (rOf X.K pSub) := opr_imp op_sub fun x y H Q h => by
  obtain ⟨m, G, S, p, q, r, hS, hp, hq, hf, k⟩ := h
  unfold pSub at hf
  split at hf
  · cases hf
    simp only [RdT, RepP] at hp hq
    subst hp hq
    exact ⟨_, _, rfl, rfl, k _ H (Ext.refl _) (by simp [RepR, RepP]) trivial⟩
  · cases hf
theorem op_mulX : OpR X (binaryOp .Mult) (rOf X.K pMul) := opr_imp (OpR.or op_mul op_repT) fun x y H Q h => by
  obtain ⟨m, G, S, p, q, r, hS, hp, hq, hf, k⟩ := h
  unfold pMul at hf
  split at hf
  · split at hf
    · rename_i hc
      cases hf
      simp only [RdT, RepP] at hp hq
      subst hp hq
      exact .inl ⟨_, _, rfl, rfl, hc, k _ H (Ext.refl _) (by simp [RepR, RepP]) trivial⟩
    · cases hf
  · split at hf
    · rename_i xs kk hc
      cases hf
      simp only [RdT, RepP] at hp hq
      subst hq
      obtain ⟨a, vs, rfl, f1, r1⟩ := hp
      have l1 := r1.length
      refine .inr ⟨a, kk, vs, rfl, rfl, f1.sq, fun e => hc.1 ?_, hc.2.1, hc.2.2.1, by omega, fun p hp => ?_⟩
      · subst e
        exact List.length_eq_zero_iff.mp (by simpa using l1)
      · have e := Ext.new (o := .tup (List.replicate kk.toNat vs).flatten) hp
        refine k _ _ e ?_ trivial
        simp only [RepR, RepP]
        refine ⟨p, _, rfl, .inl ⟨.inl upd_same, hS.fresh hp⟩, RepPs.step (Step.of_ext e) _ _ ?_⟩
        generalize kk.toNat = n
        induction n with
        | zero => exact RepPs.nil
        | succ n ih => simpa [List.replicate_succ] using r1.append ih
    · cases hf
  · cases hf
theorem op_divX : OpR X (binaryOp .FloorDiv) (rOf X.K pDiv) := opr_imp op_fdiv fun x y H Q h => by
  obtain ⟨m, G, S, p, q, r, hS, hp, hq, hf, k⟩ := h
  unfold pDiv at hf
  split at hf
  · split at hf
    · rename_i hc
      cases hf
      simp only [RdT, RepP] at hp hq
      subst hp hq
      exact ⟨_, _, rfl, rfl, hc, k _ H (Ext.refl _) (by simp [RepR, RepP]) trivial⟩
    · cases hf
  · cases hf
theorem op_modX : OpR X (binaryOp .Mod) (rOf X.K pMod) := opr_imp op_mod fun x y H Q h => by
  obtain ⟨m, G, S, p, q, r, hS, hp, hq, hf, k⟩ := h
  unfold pMod at hf
  split at hf
  · split at hf
    · rename_i hc
      cases hf
      simp only [RdT, RepP] at hp hq
      subst hp hq
      exact ⟨_, _, rfl, rfl, hc, k _ H (Ext.refl _) (by simp [RepR, RepP]) trivial⟩
    · cases hf
  · cases hf
theorem op_powX : OpR X (binaryOp .Pow) (rOf X.K pPow) := opr_imp op_pow fun x y H Q h => by
  obtain ⟨m, G, S, p, q, r, hS, hp, hq, hf, k⟩ := h
  unfold pPow at hf
  split at hf
  · split at hf
    · rename_i hc
      cases hf
      simp only [RdT, RepP] at hp hq
      subst hp hq
      have h3 := hc.2.2
      unfold lim64 at h3
      exact ⟨_, _, rfl, rfl, ⟨hc.1, hc.2.1, by omega⟩, k _ H (Ext.refl _) (by simp [RepR, RepP]) trivial⟩
    · cases hf
  · cases hf
theorem un_negX : UnR X (unaryOp .USub) (uOf X.K pNeg) := fun pins s σ H x v Q I rx h => by
  obtain ⟨m, G, S, p, r, hS, hp, hf, k⟩ := h
  unfold pNeg at hf
  split at hf
  · cases hf
    simp only [RdT, RepP] at hp
    subst hp
    exact un_neg pins s σ H _ v Q I rx ⟨_, rfl, k _ H (Ext.refl _) (by simp [RepR, RepP]) trivial⟩
  · cases hf
/-! ### comparisons -/
theorem notnone {p : P} (h : (match p with | .non => false | _ => true) = true) : toPD p ≠ .none := by
  cases p <;> simp [toPD] at h ⊢
theorem cmp_room {p q : P} {A : Around} (hu : A.units + 64 < cLine) (h : P.fit 60 p = true) : A.units + min (toPD p).depth (toPD q).depth < cLine := by
  have := ((fit_all 60).1 p h).2
  have := Nat.min_le_left (toPD p).depth (toPD q).depth
  omega
theorem cmp_of {p q : P} (h : cmpOk p q = true) : PySem.W.alike (toPD p) (toPD q) = true ∧ P.alike p q = true ∧ P.fit 60 p = true ∧ P.fit 60 q = true ∧ toPD p ≠ .none := by
  unfold cmpOk at h
  simp only [Bool.and_eq_true] at h
  exact ⟨by rw [alike_pd]; exact h.1.1.1, h.1.1.1, h.1.1.2, h.1.2, notnone h.2⟩
theorem alike_symm {p q : P} (h : P.alike p q = true) : P.alike q p = true := by
  rw [← alike_pd, PySem.W.alike_comm, alike_pd]; exact h
theorem op_ltX (hu : X.A.units + 64 < cLine) : OpR X (compareOp .Lt) (rOf X.K pLt) := fun pins s σ H x y v u Q I rx ry h => by
  obtain ⟨m, G, S, p, q, r, hS, hp, hq, hf, k⟩ := h
  unfold pLt at hf
  split at hf
  · cases hf
    simp only [RdT, RepP] at hp hq
    subst hp hq
    exact op_lt pins s σ H _ _ v u Q I rx ry ⟨_, _, rfl, rfl, k _ H (Ext.refl _) (by simp [RepR, RepP]) trivial⟩
  · split at hf
    · rename_i hc
      cases hf
      obtain ⟨c1, c2, c3, c4, c5⟩ := cmp_of hc
      obtain ⟨as, r1⟩ := Dp.reads I _ x v hp.dp rx
      obtain ⟨bs, r2⟩ := Dp.reads I _ y u hq.dp ry
      refine PySem.W.lt_data r1 r2 c1 c5 (cmp_room hu c3) ?_
      rw [lt_pd _ _ c2]
      exact ⟨.bl _, H, I, rfl, k _ H (Ext.refl _) (by simp [RepR, RepP]) trivial⟩
    · cases hf
theorem op_gtX (hu : X.A.units + 64 < cLine) : OpR X (compareOp .Gt) (rOf X.K pGt) := fun pins s σ H x y v u Q I rx ry h => by
  obtain ⟨m, G, S, p, q, r, hS, hp, hq, hf, k⟩ := h
  unfold pGt at hf
  split at hf
  · cases hf
    simp only [RdT, RepP] at hp hq
    subst hp hq
    exact op_gt pins s σ H _ _ v u Q I rx ry ⟨_, _, rfl, rfl, k _ H (Ext.refl _) (by simp [RepR, RepP]) trivial⟩
  · split at hf
    · rename_i hc
      cases hf
      obtain ⟨c1, c2, c3, c4, c5⟩ := cmp_of hc
      obtain ⟨as, r1⟩ := Dp.reads I _ x v hp.dp rx
      obtain ⟨bs, r2⟩ := Dp.reads I _ y u hq.dp ry
      refine PySem.W.gt_data r1 r2 c1 c5 (cmp_room hu c3) ?_
      rw [lt_pd _ _ (alike_symm c2)]
      exact ⟨.bl _, H, I, rfl, k _ H (Ext.refl _) (by simp [RepR, RepP]) trivial⟩
    · cases hf
theorem op_leX (hu : X.A.units + 64 < cLine) : OpR X (compareOp .LtE) (rOf X.K pLe) := fun pins s σ H x y v u Q I rx ry h => by
  obtain ⟨m, G, S, p, q, r, hS, hp, hq, hf, k⟩ := h
  unfold pLe at hf
  split at hf
  · cases hf
    simp only [RdT, RepP] at hp hq
    subst hp hq
    exact op_le pins s σ H _ _ v u Q I rx ry ⟨_, _, rfl, rfl, k _ H (Ext.refl _) (by simp [RepR, RepP]) trivial⟩
  · split at hf
    · rename_i hc
      cases hf
      obtain ⟨c1, c2, c3, c4, c5⟩ := cmp_of hc
      obtain ⟨as, r1⟩ := Dp.reads I _ x v hp.dp rx
      obtain ⟨bs, r2⟩ := Dp.reads I _ y u hq.dp ry
      refine PySem.W.le_data r1 r2 c1 c5 (cmp_room hu c3) ?_
      rw [lt_pd _ _ (alike_symm c2)]
      exact ⟨.bl _, H, I, rfl, k _ H (Ext.refl _) (by simp [RepR, RepP]) trivial⟩
    · cases hf
theorem op_geX (hu : X.A.units + 64 < cLine) : OpR X (compareOp .GtE) (rOf X.K pGe) := fun pins s σ H x y v u Q I rx ry h => by
  obtain ⟨m, G, S, p, q, r, hS, hp, hq, hf, k⟩ := h
  unfold pGe at hf
  split at hf
  · cases hf
    simp only [RdT, RepP] at hp hq
    subst hp hq
    exact op_ge pins s σ H _ _ v u Q I rx ry ⟨_, _, rfl, rfl, k _ H (Ext.refl _) (by simp [RepR, RepP]) trivial⟩
  · split at hf
    · rename_i hc
      cases hf
      obtain ⟨c1, c2, c3, c4, c5⟩ := cmp_of hc
      obtain ⟨as, r1⟩ := Dp.reads I _ x v hp.dp rx
      obtain ⟨bs, r2⟩ := Dp.reads I _ y u hq.dp ry
      refine PySem.W.ge_data r1 r2 c1 c5 (cmp_room hu c3) ?_
      rw [lt_pd _ _ c2]
      exact ⟨.bl _, H, I, rfl, k _ H (Ext.refl _) (by simp [RepR, RepP]) trivial⟩
    · cases hf
theorem op_eqX (hu : X.A.units + 64 < cLine) : OpR X (compareOp .Eq) (rOf X.K pEq) := opr_imp (op_eqD hu) fun x y H Q h => by
  obtain ⟨m, G, S, p, q, r, hS, hp, hq, hf, k⟩ := h
  unfold pEq at hf
  split at hf
  · rename_i hc
    simp only [Bool.and_eq_true] at hc
    cases hf
    refine ⟨_, _, hp.dp, hq.dp, fit_shaped hc.1, fit_shaped hc.2, ?_⟩
    rw [eqv_pyeq]
    exact k _ H (Ext.refl _) (by simp [RepR, RepP]) trivial
  · cases hf
theorem op_neX (hu : X.A.units + 64 < cLine) : OpR X (compareOp .NotEq) (rOf X.K pNe) := opr_imp (op_neD hu) fun x y H Q h => by
  obtain ⟨m, G, S, p, q, r, hS, hp, hq, hf, k⟩ := h
  unfold pNe at hf
  split at hf
  · rename_i hc
    simp only [Bool.and_eq_true] at hc
    cases hf
    refine ⟨_, _, hp.dp, hq.dp, fit_shaped hc.1, fit_shaped hc.2, ?_⟩
    rw [eqv_pyeq]
    exact k _ H (Ext.refl _) (by simp [RepR, RepP]) trivial
  · cases hf
/-- data that are not None -/
theorem rdt_ref {K : PySem.W.Frag} {m : List Addr} {H : Hp} {p : P} {v : V} (h : RdT K m H p v) : v = .non ↔ p = .non := by
  cases p <;> simp only [RdT, RepP] at h <;> first | (subst h; simp) | (obtain ⟨a, vs, rfl, _⟩ := h; simp)
theorem op_isX : OpR X (compareOp .Is) (rOf X.K pIs) := opr_imp (OpR.or op_isN op_is_bl) fun x y H Q h => by
  obtain ⟨m, G, S, p, q, r, hS, hp, hq, hf, k⟩ := h
  have e := rdt_ref hp
  unfold pIs at hf
  split at hf <;> first
    | (cases hf
       simp only [RdT, RepP] at hq
       subst hq
       refine .inl ⟨rfl, ?_⟩
       have e2 : decide (x = V.non) = true := decide_eq_true (e.mpr rfl)
       rw [e2]
       exact k _ H (Ext.refl _) (by simp [RepR, RepP]) trivial)
    | (cases hf
       simp only [RdT, RepP] at hq
       subst hq
       refine .inl ⟨rfl, ?_⟩
       have e2 : decide (x = V.non) = false := decide_eq_false (fun z => nomatch (e.mp z))
       rw [e2]
       exact k _ H (Ext.refl _) (by simp [RepR, RepP]) trivial)
    | (cases hf
       simp only [RdT, RepP] at hp hq
       subst hp hq
       exact .inr ⟨_, _, rfl, rfl, k _ H (Ext.refl _) (by simp [RepR, RepP]) trivial⟩)
    | cases hf
theorem op_isNotX : OpR X (compareOp .IsNot) (rOf X.K pIsNot) := opr_imp (OpR.or op_notN op_isnot_bl) fun x y H Q h => by
  obtain ⟨m, G, S, p, q, r, hS, hp, hq, hf, k⟩ := h
  have e := rdt_ref hp
  unfold pIsNot at hf
  split at hf <;> first
    | (cases hf
       simp only [RdT, RepP] at hq
       subst hq
       refine .inl ⟨rfl, ?_⟩
       have e2 : decide (x = V.non) = true := decide_eq_true (e.mpr rfl)
       rw [e2]
       exact k _ H (Ext.refl _) (by simp [RepR, RepP]) trivial)
    | (cases hf
       simp only [RdT, RepP] at hq
       subst hq
       refine .inl ⟨rfl, ?_⟩
       have e2 : decide (x = V.non) = false := decide_eq_false (fun z => nomatch (e.mp z))
       rw [e2]
       exact k _ H (Ext.refl _) (by simp [RepR, RepP]) trivial)
    | (cases hf
       simp only [RdT, RepP] at hp hq
       subst hp hq
       exact .inr ⟨_, _, rfl, rfl, k _ H (Ext.refl _) (by simp [RepR, RepP]) trivial⟩)
    | cases hf
end
end XL
end
section
set_option Elab.async false
set_option linter.all false
set_option maxRecDepth 100000
set_option maxHeartbeats 1000000
namespace XL
open PySem L2 PyProof.Rows
/-! ### in, not in, o[i] -/
section
variable {X : Cx}
theorem room_in {n : Nat} {e : P} {A : Around} (hu : A.units + 65 < cLine) (h : P.fit 60 e = true) : A.units + 1 + min n (toPD e).depth < cLine := by
  have := ((fit_all 60).1 e h).2
  have := Nat.min_le_right n (toPD e).depth
  omega
theorem any_pd (x : P) : ∀ ys : List P, ((toPDs ys).any fun z => PyData.eqv z (toPD x)) = inData x ys
  | [] => by simp [toPDs, inData]
  | y :: ys => by
    have ih := any_pd x ys
    simp only [toPDs, List.any_cons, inData, eqv_pyeq] at ih ⊢
    rw [ih]
theorem op_inX (hu : X.A.units + 65 < cLine) : OpR X (compareOp .In) (rOf X.K pIn) := fun pins s σ H x y v u Q I rx ry h => by
  obtain ⟨m, G, S, p, q, r, hS, hp, hq, hf, k⟩ := h
  unfold pIn at hf
  split at hf
  · cases hf
    simp only [RdT, RepP] at hp hq
    subst hp hq
    exact op_in_sign pins s σ H _ _ v u Q I rx ry ⟨_, _, rfl, rfl, k _ H (Ext.refl _) (by simp [RepR, RepP]) trivial⟩
  · split at hf
    · rename_i hc
      simp only [Bool.and_eq_true] at hc
      cases hf
      obtain ⟨as, r1⟩ := Dp.reads I _ x v hp.dp rx
      obtain ⟨bs, r2⟩ := Dp.reads I _ y u hq.dp ry
      have c2 := (fit_all 60).1 _ hc.2
      simp only [toPD, PyData.canLay0] at r2 c2
      refine SeqAt.in_list_reads r2 r1 c2.1 ((fit_all 60).1 _ hc.1).1 (room_in hu hc.1) ?_
      rw [any_pd]
      exact ⟨.bl _, H, I, rfl, k _ H (Ext.refl _) (by simp [RepR, RepP]) trivial⟩
    · cases hf
  · split at hf
    · rename_i hc
      simp only [Bool.and_eq_true] at hc
      cases hf
      obtain ⟨as, r1⟩ := Dp.reads I _ x v hp.dp rx
      obtain ⟨bs, r2⟩ := Dp.reads I _ y u hq.dp ry
      have c2 := (fit_all 60).1 _ hc.2
      simp only [toPD, PyData.canLay0] at r2 c2
      refine SeqAt.in_tuple_reads r2 r1 c2.1 ((fit_all 60).1 _ hc.1).1 (room_in hu hc.1) ?_
      rw [any_pd]
      exact ⟨.bl _, H, I, rfl, k _ H (Ext.refl _) (by simp [RepR, RepP]) trivial⟩
    · cases hf
  · cases hf
theorem op_notInX (hu : X.A.units + 65 < cLine) : OpR X (compareOp .NotIn) (rOf X.K pNotIn) := fun pins s σ H x y v u Q I rx ry h => by
  obtain ⟨m, G, S, p, q, r, hS, hp, hq, hf, k⟩ := h
  unfold pNotIn at hf
  split at hf
  · cases hf
    simp only [RdT, RepP] at hp hq
    subst hp hq
    exact op_notIn_sign pins s σ H _ _ v u Q I rx ry ⟨_, _, rfl, rfl, k _ H (Ext.refl _) (by simp [RepR, RepP]) trivial⟩
  · split at hf
    · rename_i hc
      simp only [Bool.and_eq_true] at hc
      cases hf
      obtain ⟨as, r1⟩ := Dp.reads I _ x v hp.dp rx
      obtain ⟨bs, r2⟩ := Dp.reads I _ y u hq.dp ry
      have c2 := (fit_all 60).1 _ hc.2
      simp only [toPD, PyData.canLay0] at r2 c2
      refine SeqAt.notIn_list_reads r2 r1 c2.1 ((fit_all 60).1 _ hc.1).1 (room_in hu hc.1) ?_
      rw [any_pd]
      exact ⟨.bl _, H, I, rfl, k _ H (Ext.refl _) (by simp [RepR, RepP]) trivial⟩
    · cases hf
  · split at hf
    · rename_i hc
      simp only [Bool.and_eq_true] at hc
      cases hf
      obtain ⟨as, r1⟩ := Dp.reads I _ x v hp.dp rx
      obtain ⟨bs, r2⟩ := Dp.reads I _ y u hq.dp ry
      have c2 := (fit_all 60).1 _ hc.2
      simp only [toPD, PyData.canLay0] at r2 c2
      refine SeqAt.notIn_tuple_reads r2 r1 c2.1 ((fit_all 60).1 _ hc.1).1 (room_in hu hc.1) ?_
      rw [any_pd]
      exact ⟨.bl _, H, I, rfl, k _ H (Ext.refl _) (by simp [RepR, RepP]) trivial⟩
    · cases hf
  · cases hf
theorem ixP_ixN (n : Nat) (i : Int) : ixP n i = ixN n i := by
  unfold ixP ixN
  by_cases h : 0 ≤ i
  · rw [if_pos h, if_pos h]
    by_cases c : i.toNat < n
    · first | rfl | (rw [if_pos c]; split <;> first | rfl | omega) | (simp [c]; omega)
    · first | rfl | (rw [if_neg c]; split <;> first | rfl | omega) | (simp [c]; omega)
  · rw [if_neg h, if_neg h]
    by_cases c : (-i).toNat ≤ n
    · first | rfl | (rw [if_pos c]; split <;> first | rfl | (congr 1; omega) | omega) | (simp [c]; omega)
    · first | rfl | (rw [if_neg c]; split <;> first | rfl | omega) | (simp [c]; omega)
theorem ix_X : IxR X (rOf X.K pIx) := fun value slice pins s σ H x y v u Q I rx ry h hs => by
  obtain ⟨m, G, S, p, q, r, hS, hp, hq, hf, k⟩ := h
  refine ix_seq value slice pins s σ H x y v u Q I rx ry ?_ hs
  unfold pIx at hf
  split at hf
  · simp only [Option.bind_eq_some_iff, Option.map_eq_some_iff] at hf
    obtain ⟨j, hj, d, hd, e⟩ := hf
    cases e
    obtain ⟨a, vs, rfl, f, r⟩ := hp
    simp only [RdT, RepP] at hq
    subst hq
    obtain ⟨w, hw, qw⟩ := r.get hd
    refine .inl ⟨a, vs, _, w, rfl, rfl, .inl f, ?_, k w H (Ext.refl _) qw trivial⟩
    unfold atI
    rw [← ixP_ixN, ← r.length, hj]
    exact hw
  · simp only [Option.bind_eq_some_iff, Option.map_eq_some_iff] at hf
    obtain ⟨j, hj, d, hd, e⟩ := hf
    cases e
    simp only [RdT, RepP] at hp hq
    subst hq
    obtain ⟨a, vs, rfl, f, r⟩ := hp
    obtain ⟨w, hw, qw⟩ := r.get hd
    refine .inr (.inl ⟨a, vs, _, w, rfl, rfl, f.sq, ?_, k w H (Ext.refl _) qw trivial⟩)
    unfold atI
    rw [← ixP_ixN, ← r.length, hj]
    exact hw
  · split at hf
    · rename_i hb
      simp only [Option.bind_eq_some_iff, Option.map_eq_some_iff] at hf
      obtain ⟨j, hj, d, hd, e⟩ := hf
      cases e
      simp only [RdT, RepP] at hp hq
      subst hp hq
      refine .inr (.inr ⟨_, _, d, rfl, rfl, ?_, ?_, k _ H (Ext.refl _) (by simp [RepR, RepP]) trivial⟩)
      · simp only [Str.length, List.size_toArray]; exact big_size hb
      · unfold atI
        rw [← ixP_ixN]
        simp only [hj]
        exact hd
    · cases hf
  · cases hf
theorem xe_ix {a b : Expr} {xa xb : XE} {pos : Pos} (ha : PE X a (tOf X.K xa)) (hb : PE X b (tOf X.K xb)) (hs : PlainIx b) : PE X (.Subscript a b pos) (tOf X.K (xBin pIx xa xb)) := PE.imp (pe_ix ix_X ha hb hs) fun σ H Q h => tOf.bin h
end
/-! ### built-ins -/
section
variable {X : Cx} {e : Expr} {es : List Expr} {xs : XA} {x : Str} {p pos : Pos} {id T : String} {f : List P → Option R}
theorem xe_callB (hc : CallR X (.builtin id) (cOf X.K f)) (hg : Gl X x) (hm : X.mg x = none) (hv : bootBuiltins x = some (.builtin id)) (ha : PA X (e :: es) (tOfA X.K xs)) (hn : x ≠ "__name__" := by decide) (hdb : (x == ("__debug__" : Str)) = false := by decide)
    (he : starEach (e :: es) X.env = (false, eval e X.env) :: starEach es X.env := by rfl) (hpl : (backTo pos (starEach es X.env)).any (·.1) = false := by rfl) : PE X (.Call (.Name x p) (e :: es) [] pos) (tOf X.K (xCall f xs)) :=
  PE.imp (pe_callB hc hg hm hv ha hn hdb he hpl) fun σ H Q h => tOf.call h
theorem xe_callTy (hc : CallR X (.type T) (cOf X.K f)) (hg : Gl X x) (hm : X.mg x = none) (hv : bootBuiltins x = some (.type T)) (ha : PA X (e :: es) (tOfA X.K xs)) (hn : x ≠ "__name__" := by decide) (hdb : (x == ("__debug__" : Str)) = false := by decide)
    (he : starEach (e :: es) X.env = (false, eval e X.env) :: starEach es X.env := by rfl) (hpl : (backTo pos (starEach es X.env)).any (·.1) = false := by rfl) : PE X (.Call (.Name x p) (e :: es) [] pos) (tOf X.K (xCall f xs)) :=
  PE.imp (pe_callTy hc hg hm hv ha hn hdb he hpl) fun σ H Q h => tOf.call h
theorem callr_imp {g : Value} {r : List V → Hp → VK → Prop} (h : CallR X g r) (w : ∀ vs H Q, cOf X.K f vs H Q → r vs H Q) : CallR X g (cOf X.K f) := fun pins s σ H vs us Q I rv q => h pins s σ H vs us Q I rv (w vs H Q q)
theorem one_arg {K : PySem.W.Frag} {m : List Addr} {H : Hp} {d : P} {vs : List V} (h : RdTs K m H [d] vs) : ∃ v, vs = [v] ∧ RdT K m H d v := by
  obtain ⟨v, r, rfl, q, e⟩ := h
  simp only [RdTs] at e
  subst e
  exact ⟨v, rfl, q⟩
theorem two_args {K : PySem.W.Frag} {m : List Addr} {H : Hp} {d d2 : P} {vs : List V} (h : RdTs K m H [d, d2] vs) : ∃ v w, vs = [v, w] ∧ RdT K m H d v ∧ RdT K m H d2 w := by
  obtain ⟨v, r, rfl, q, w, r2, rfl, q2, e⟩ := h
  simp only [RdTs] at e
  subst e
  exact ⟨v, w, rfl, q, q2⟩
theorem cr_len : CallR X (.builtin "len") (cOf X.K cLen) := callr_imp call_len fun vs H Q h => by
  obtain ⟨m, G, S, ps, r, hS, hp, hf, k⟩ := h
  unfold cLen at hf
  split at hf
  · cases hf
    obtain ⟨v, rfl, a, ws, rfl, f, r⟩ := one_arg hp
    refine ⟨_, _, rfl, .inl ⟨ws, .inl f, rfl⟩, ?_⟩
    rw [← r.length]
    exact k _ H (Ext.refl _) (by simp [RepR, RepP]) trivial
  · cases hf
    obtain ⟨v, rfl, q⟩ := one_arg hp
    simp only [RdT, RepP] at q
    obtain ⟨a, ws, rfl, f, r⟩ := q
    refine ⟨_, _, rfl, .inr ⟨ws, f.sq, rfl⟩, ?_⟩
    rw [← r.length]
    exact k _ H (Ext.refl _) (by simp [RepR, RepP]) trivial
  · split at hf
    · rename_i hb
      cases hf
      obtain ⟨v, rfl, q⟩ := one_arg hp
      simp only [RdT, RepP] at q
      subst q
      rename_i s
      exact ⟨_, s.length, rfl, ⟨by simp only [Str.length, List.size_toArray]; exact big_size hb, by simp only [Str.length, List.size_toArray]⟩, k _ H (Ext.refl _) (by simp [RepR, RepP]) trivial⟩
    · cases hf
  · cases hf
theorem cr_int : CallR X (.type "int") (cOf X.K cInt) := callr_imp call_int1 fun vs H Q h => by
  obtain ⟨m, G, S, ps, r, hS, hp, hf, k⟩ := h
  unfold cInt at hf
  split at hf
  · cases hf
    obtain ⟨v, rfl, q⟩ := one_arg hp
    simp only [RdT, RepP] at q
    subst q
    exact .inl ⟨_, rfl, k _ H (Ext.refl _) (by simp [RepR, RepP]) trivial⟩
  · cases hf
    obtain ⟨v, rfl, q⟩ := one_arg hp
    simp only [RdT, RepP] at q
    subst q
    exact .inr ⟨_, rfl, k _ H (Ext.refl _) (by simp [RepR, RepP]) trivial⟩
  · cases hf
theorem cr_tuple : CallR X (.type "tuple") (cOf X.K cTuple) := callr_imp call_tuple_of fun vs H Q h => by
  obtain ⟨m, G, S, ps, r, hS, hp, hf, k⟩ := h
  unfold cTuple at hf
  split at hf
  · cases hf
    obtain ⟨v, rfl, a, ws, rfl, f, r⟩ := one_arg hp
    refine ⟨a, ws, rfl, .inl ⟨.inl f, fun p hp => ?_⟩⟩
    have e := Ext.new (o := .tup ws) hp
    refine k _ _ e ?_ trivial
    simp only [RepR, RepP]
    exact ⟨p, ws, rfl, .inl ⟨.inl upd_same, hS.fresh hp⟩, RepPs.step (Step.of_ext e) _ _ r⟩
  · cases hf
    obtain ⟨v, rfl, q⟩ := one_arg hp
    simp only [RdT, RepP] at q
    obtain ⟨a, ws, rfl, f, r⟩ := q
    refine ⟨a, ws, rfl, .inr ⟨f.sq, k _ H (Ext.refl _) ?_ trivial⟩⟩
    simp only [RepR, RepP]
    exact ⟨a, ws, rfl, f, r⟩
  · cases hf
theorem cr_list : CallR X (.type "list") (cOf X.K cList) := callr_imp call_list_of fun vs H Q h => by
  obtain ⟨m, G, S, ps, r, hS, hp, hf, k⟩ := h
  unfold cList at hf
  split at hf
  · cases hf
    obtain ⟨v, rfl, a, ws, rfl, f, r⟩ := one_arg hp
    refine ⟨a, ws, rfl, .inl (.inl f), fun p hp => ?_⟩
    have e := Ext.new (o := .lst ws) hp
    exact k _ _ e ⟨p, ws, rfl, hS.fresh hp, upd_same, RepPs.step (Step.of_ext e) _ _ r⟩ (own_new hS hp r)
  · cases hf
    obtain ⟨v, rfl, q⟩ := one_arg hp
    simp only [RdT, RepP] at q
    obtain ⟨a, ws, rfl, f, r⟩ := q
    refine ⟨a, ws, rfl, .inr f.sq, fun p hp => ?_⟩
    have e := Ext.new (o := .lst ws) hp
    exact k _ _ e ⟨p, ws, rfl, hS.fresh hp, upd_same, RepPs.step (Step.of_ext e) _ _ r⟩ (own_new hS hp r)
  · cases hf
theorem bools_v {K : PySem.W.Frag} {m : List Addr} {H : Hp} : ∀ {ds : List P} {bs : List Bool} {vs : List V}, boolsOf ds = some bs → RepPs K m H ds vs → vs = bs.map V.bl
  | [], bs, vs, h, q => by simp only [boolsOf, Option.some.injEq] at h; subst h; simp only [RepPs] at q; subst q; rfl
  | .bl b :: ds, bs, vs, h, q => by
    simp only [boolsOf, Option.map_eq_some_iff] at h
    obtain ⟨cs, h, rfl⟩ := h
    simp only [RepPs, RepP] at q
    obtain ⟨v, r, rfl, rfl, q⟩ := q
    rw [bools_v h q]; rfl
  | .non :: _, _, _, h, _ => by simp [boolsOf] at h
  | .int _ :: _, _, _, h, _ => by simp [boolsOf] at h
  | .str _ :: _, _, _, h, _ => by simp [boolsOf] at h
  | .tup _ :: _, _, _, h, _ => by simp [boolsOf] at h
  | .lst _ :: _, _, _, h, _ => by simp [boolsOf] at h
theorem ints_v {K : PySem.W.Frag} {m : List Addr} {H : Hp} : ∀ {ds : List P} {bs : List Int} {vs : List V}, intsOf ds = some bs → RepPs K m H ds vs → vs = bs.map V.int
  | [], bs, vs, h, q => by simp only [intsOf, Option.some.injEq] at h; subst h; simp only [RepPs] at q; subst q; rfl
  | .int b :: ds, bs, vs, h, q => by
    simp only [intsOf, Option.map_eq_some_iff] at h
    obtain ⟨cs, h, rfl⟩ := h
    simp only [RepPs, RepP] at q
    obtain ⟨v, r, rfl, rfl, q⟩ := q
    rw [ints_v h q]; rfl
  | .non :: _, _, _, h, _ => by simp [intsOf] at h
  | .bl _ :: _, _, _, h, _ => by simp [intsOf] at h
  | .str _ :: _, _, _, h, _ => by simp [intsOf] at h
  | .tup _ :: _, _, _, h, _ => by simp [intsOf] at h
  | .lst _ :: _, _, _, h, _ => by simp [intsOf] at h
theorem strs_v {K : PySem.W.Frag} {m : List Addr} {H : Hp} : ∀ {ds : List P} {bs : List (List Nat)} {vs : List V}, strsOf ds = some bs → RepPs K m H ds vs → vs = (bs.map fun s => (⟨s.toArray⟩ : Str)).map V.str
  | [], bs, vs, h, q => by simp only [strsOf, Option.some.injEq] at h; subst h; simp only [RepPs] at q; subst q; rfl
  | .str b :: ds, bs, vs, h, q => by
    simp only [strsOf, Option.map_eq_some_iff] at h
    obtain ⟨cs, h, rfl⟩ := h
    simp only [RepPs, RepP] at q
    obtain ⟨v, r, rfl, rfl, q⟩ := q
    rw [strs_v h q]; rfl
  | .non :: _, _, _, h, _ => by simp [strsOf] at h
  | .bl _ :: _, _, _, h, _ => by simp [strsOf] at h
  | .int _ :: _, _, _, h, _ => by simp [strsOf] at h
  | .tup _ :: _, _, _, h, _ => by simp [strsOf] at h
  | .lst _ :: _, _, _, h, _ => by simp [strsOf] at h
theorem cr_allX (hc : X.calm = true) : CallR X (.builtin "all") (cOf X.K cAll) := callr_imp (cr_all hc) fun vs H Q h => by
  obtain ⟨m, G, S, ps, r, hS, hp, hf, k⟩ := h
  unfold cAll at hf
  split at hf
  · simp only [Option.map_eq_some_iff] at hf
    obtain ⟨bs, hb, e⟩ := hf
    cases e
    obtain ⟨v, rfl, a, ws, rfl, f, r⟩ := one_arg hp
    have e := bools_v hb r
    subst e
    exact ⟨a, bs, rfl, .inl f, k _ H (Ext.refl _) (by simp [RepR, RepP]) trivial⟩
  · cases hf
theorem cr_anyX (hc : X.calm = true) : CallR X (.builtin "any") (cOf X.K cAny) := callr_imp (cr_any hc) fun vs H Q h => by
  obtain ⟨m, G, S, ps, r, hS, hp, hf, k⟩ := h
  unfold cAny at hf
  split at hf
  · simp only [Option.map_eq_some_iff] at hf
    obtain ⟨bs, hb, e⟩ := hf
    cases e
    obtain ⟨v, rfl, a, ws, rfl, f, r⟩ := one_arg hp
    have e := bools_v hb r
    subst e
    exact ⟨a, bs, rfl, .inl f, k _ H (Ext.refl _) (by simp [RepR, RepP]) trivial⟩
  · cases hf
theorem cr_sumX (hc : X.calm = true) : CallR X (.builtin "sum") (cOf X.K cSum) := callr_imp (cr_sum hc) fun vs H Q h => by
  obtain ⟨m, G, S, ps, r, hS, hp, hf, k⟩ := h
  unfold cSum at hf
  split at hf
  · simp only [Option.map_eq_some_iff] at hf
    obtain ⟨bs, hb, e⟩ := hf
    cases e
    obtain ⟨v, rfl, a, ws, rfl, f, r⟩ := one_arg hp
    have e := ints_v hb r
    subst e
    exact ⟨a, bs, rfl, .inl f, k _ H (Ext.refl _) (by simp [RepR, RepP]) trivial⟩
  · cases hf
theorem maxI_spec : ∀ (l : List Int), l ≠ [] → maxI l ∈ l ∧ ∀ y ∈ l, y ≤ maxI l
  | [], h => absurd rfl h
  | [x], _ => by simp [maxI]
  | x :: y :: ys, _ => by
    obtain ⟨h1, h2⟩ := maxI_spec (y :: ys) (by simp)
    simp only [maxI] at h1 h2 ⊢
    split
    · rename_i c
      exact ⟨List.mem_cons_of_mem _ h1, fun z hz => by
        rcases List.mem_cons.mp hz with rfl | hz
        · omega
        · exact h2 z hz⟩
    · rename_i c
      exact ⟨by simp, fun z hz => by
        rcases List.mem_cons.mp hz with rfl | hz
        · omega
        · have := h2 z hz; omega⟩
theorem minI_spec : ∀ (l : List Int), l ≠ [] → minI l ∈ l ∧ ∀ y ∈ l, minI l ≤ y
  | [], h => absurd rfl h
  | [x], _ => by simp [minI]
  | x :: y :: ys, _ => by
    obtain ⟨h1, h2⟩ := minI_spec (y :: ys) (by simp)
    simp only [minI] at h1 h2 ⊢
    split
    · rename_i c
      exact ⟨List.mem_cons_of_mem _ h1, fun z hz => by
        rcases List.mem_cons.mp hz with rfl | hz
        · omega
        · exact h2 z hz⟩
    · rename_i c
      exact ⟨by simp, fun z hz => by
        rcases List.mem_cons.mp hz with rfl | hz
        · omega
        · have := h2 z hz; omega⟩
theorem cr_maxX (hc : X.calm = true) : CallR X (.builtin "max") (cOf X.K cMax) := callr_imp (CallR.or (cr_max hc) (call_max2 hc)) fun vs H Q h => by
  obtain ⟨m, G, S, ps, r, hS, hp, hf, k⟩ := h
  unfold cMax at hf
  split at hf
  · simp only [Option.bind_eq_some_iff] at hf
    obtain ⟨bs, hb, e⟩ := hf
    split at e
    · cases e
    · rename_i hne
      cases e
      obtain ⟨v, rfl, a, ws, rfl, f, r⟩ := one_arg hp
      have e := ints_v hb r
      subst e
      obtain ⟨s1, s2⟩ := maxI_spec bs hne
      refine .inl ⟨a, bs, rfl, .inl f, List.length_pos_iff.mpr hne, fun z hz hy => ?_⟩
      have : z = maxI bs := Int.le_antisymm (s2 z hz) (hy _ s1)
      subst this
      exact k _ H (Ext.refl _) (by simp [RepR, RepP]) trivial
  · cases hf
    obtain ⟨v, w, rfl, q1, q2⟩ := two_args hp
    simp only [RdT, RepP] at q1 q2
    subst q1 q2
    exact .inr ⟨_, _, rfl, k _ H (Ext.refl _) (by simp [RepR, RepP]) trivial⟩
  · cases hf
theorem cr_minX (hc : X.calm = true) : CallR X (.builtin "min") (cOf X.K cMin) := callr_imp (CallR.or (cr_min hc) (call_min2 hc)) fun vs H Q h => by
  obtain ⟨m, G, S, ps, r, hS, hp, hf, k⟩ := h
  unfold cMin at hf
  split at hf
  · simp only [Option.bind_eq_some_iff] at hf
    obtain ⟨bs, hb, e⟩ := hf
    split at e
    · cases e
    · rename_i hne
      cases e
      obtain ⟨v, rfl, a, ws, rfl, f, r⟩ := one_arg hp
      have e := ints_v hb r
      subst e
      obtain ⟨s1, s2⟩ := minI_spec bs hne
      refine .inl ⟨a, bs, rfl, .inl f, List.length_pos_iff.mpr hne, fun z hz hy => ?_⟩
      have : z = minI bs := Int.le_antisymm (hy _ s1) (s2 z hz)
      subst this
      exact k _ H (Ext.refl _) (by simp [RepR, RepP]) trivial
  · cases hf
    obtain ⟨v, w, rfl, q1, q2⟩ := two_args hp
    simp only [RdT, RepP] at q1 q2
    subst q1 q2
    exact .inr ⟨_, _, rfl, k _ H (Ext.refl _) (by simp [RepR, RepP]) trivial⟩
  · cases hf
end
end XL
end
section
set_option Elab.async false
set_option linter.all false
set_option maxRecDepth 100000
set_option maxHeartbeats 3200000
namespace XL
open PySem L2 PyProof.Rows
/-! ### sets of ints and texts, made of a list -/
def keyV : Value → Option Key
  | .int k _ => some (.inl k)
  | .str x _ => some (.inr x)
  | _ => none
theorem keyV_is {k : Key} {v : Value} : keyV v = some k ↔ keyIs k v = true := by
  constructor
  · intro h
    cases v <;> simp [keyV] at h <;> subst h <;> simp [keyIs, Value.isInt, Value.isStrOf]
  · intro h
    rcases keyIs_shape h with ⟨i, t, rfl, rfl⟩ | ⟨x, t, rfl, rfl⟩ <;> rfl
theorem keyV_scan {k : Key} {v : Value} (h : keyV v = some k) : v.scannable = true := by
  cases v <;> simp [keyV] at h <;> rfl
/-- the entry of a key -/
def EntK (w : World) (e : Int × Value) (k : Key) : Prop := keyV e.2 = some k ∧ e.1 = keyH w k
/-- a set at a whose keys are ks, in some order -/
def SetM (w : World) (h : Heap) (a : Addr) (ks : List Key) : Prop :=
  ∃ o es ep t kk, h.get? a = some o ∧ o.ExactSet ∧ o.data = .set es ep t ∧ Paired (EntK w) es.toList kk ∧ kk.Perm ks ∧ ks.Nodup ∧ es.size < scanBound ∧ t.fits es.size = true ∧ Ris t.place.toList ∧ (w.params.followText "set-order" = true ∨ t.led = true)
section
variable {Pg : Program} {w : World}
theorem paired_mem {α β : Type} {F : α → β → Prop} : ∀ {l : List α} {k : List β} {x : α}, Paired F l k → x ∈ l → ∃ y ∈ k, F x y
  | _, _, _, .cons r t, h => by
    rcases List.mem_cons.mp h with rfl | h
    · exact ⟨_, List.mem_cons_self, r⟩
    · obtain ⟨y, hy, q⟩ := paired_mem t h
      exact ⟨y, List.mem_cons_of_mem _ hy, q⟩
theorem paired_mem2 {α β : Type} {F : α → β → Prop} : ∀ {l : List α} {k : List β} {y : β}, Paired F l k → y ∈ k → ∃ x ∈ l, F x y
  | _, _, _, .cons r t, h => by
    rcases List.mem_cons.mp h with rfl | h
    · exact ⟨_, List.mem_cons_self, r⟩
    · obtain ⟨y, hy, q⟩ := paired_mem2 t h
      exact ⟨y, List.mem_cons_of_mem _ hy, q⟩
theorem paired_len {α β : Type} {F : α → β → Prop} : ∀ {l : List α} {k : List β}, Paired F l k → l.length = k.length
  | _, _, .nil => rfl
  | _, _, .cons _ t => by simp [paired_len t]
theorem paired_perm {α β : Type} {F : α → β → Prop} {l l' : List α} (p : l'.Perm l) : ∀ {k : List β}, Paired F l k → ∃ k', Paired F l' k' ∧ k'.Perm k := by
  induction p with
  | nil => intro k h; exact ⟨k, h, List.Perm.refl _⟩
  | cons x _ ih =>
    intro k h
    cases h with
    | cons r t => obtain ⟨k', h1, h2⟩ := ih t; exact ⟨_, .cons r h1, h2.cons _⟩
  | swap x y l =>
    intro k h
    cases h with
    | cons r t => cases t with | cons r2 t => exact ⟨_, .cons r2 (.cons r t), List.Perm.swap _ _ _⟩
  | trans _ _ ih1 ih2 =>
    intro k h
    obtain ⟨k2, h2, p2⟩ := ih2 h
    obtain ⟨k1, h1, p1⟩ := ih1 h2
    exact ⟨k1, h1, p1.trans p2⟩
theorem entK_elems {l : List (Int × Value)} {kk : List Key} (h : Paired (EntK w) l kk) : ElemsOf (mixKind Pg w) l := fun e he => by
  obtain ⟨k, _, h1, h2⟩ := paired_mem h he
  exact ⟨⟨k, keyV_is.mp h1, h2⟩, keyV_scan h1⟩
end
section
variable {Pg : Program} {w : World} {A : Around} {E : Value → Shared → Prop} {s : Shared} {a : Addr}
/-- what is stored, and laid anew if it is too full -/
theorem setM_tail {g : Bool → Sem Unit} (hg : ∀ (b : Bool) (s₁ : Shared) (Q' : Unit → Shared → Prop), Q' () s₁ → wpAny (model Pg w) A (g b) Q' E s₁) {o : Obj} {es es1 : Array (Int × Value)} {ep : Nat} {t t2 : SetTable} {kk ks : List Key}
    (ho : s.heap.get? a = some o) (hex : o.ExactSet) (hd : o.data = .set es ep t) (hp : Paired (EntK w) es1.toList kk) (pm : kk.Perm ks) (nd : ks.Nodup) (hb : es1.size < scanBound) (hf : t2.fits es1.size = true) (hr : Ris t2.place.toList)
    (hl : w.params.followText "set-order" = true ∨ t2.led = true) {dm : Bool} {R : Option Bool → Shared → Prop} (hR : ∀ h', Heap.SameBut a s.heap h' → SetM w h' a ks → R (some true) { s with heap := h' }) :
    wpAny (model Pg w) A (do
        storeSet a es1 t2
        if (!dm && t2.tooFull) = true then do
            g (relayAll t2 es1 (SetTable.grown es1.size)).2.2
            storeSet a (relayAll t2 es1 (SetTable.grown es1.size)).1 (relayAll t2 es1 (SetTable.grown es1.size)).2.1
            pure (some true)
          else pure (some true)) R E s := by
  refine wpAny_bind (wpAny_storeSet_of ho hd ?_ (fits_of_scanBound hb))
  have o1 := store_at (es' := es1) (t' := t2) ho hd
  have b1 := Heap.SameBut.update s.heap a (Obj.putSet es1 t2)
  split
  · have q1 := relayAll_perm t2 es1 (SetTable.grown es1.size)
    have q2 := relayAll_fits t2 es1 (SetTable.grown es1.size)
    have q3 := relayAll_ris t2 es1 (SetTable.grown es1.size)
    have q4 := relayAll_led t2 es1 (SetTable.grown es1.size)
    revert q1 q2 q3 q4
    generalize relayAll t2 es1 (SetTable.grown es1.size) = Z
    obtain ⟨es2, t3, gv⟩ := Z
    intro q1 q2 q3 q4
    dsimp only at q1 q2 q3 q4 ⊢
    have sz : es2.size = es1.size := by simpa using q1.length_eq
    refine wpAny_bind (hg _ _ _ (wpAny_bind (wpAny_storeSet_of o1 rfl ?_ (fits_of_scanBound (by rw [sz]; exact hb)))))
    obtain ⟨k2, hk2, p2⟩ := paired_perm q1 hp
    exact wpAny_pure (hR _ (b1.trans (Heap.SameBut.update _ a _)) ⟨_, es2, _, t3, k2, store_at o1 rfl, hex, rfl, hk2, p2.trans pm, nd, by rw [sz]; exact hb, q2, q3, hl.imp id fun z => q4.trans z⟩)
  · exact wpAny_pure (hR _ b1 ⟨_, es1, _, t2, kk, o1, hex, rfl, hp, pm, nd, hb, hf, hr, hl⟩)
/-- one more key -/
theorem setM_add {k : Key} {v : Value} {ks : List Key} {Q : Bool → Shared → Prop} (hv : keyV v = some k) (R : SetM w s.heap a ks) (room : ks.length + 1 < scanBound)
    (h1 : k ∈ ks → Q false s) (h2 : k ∉ ks → ∀ h', Heap.SameBut a s.heap h' → SetM w h' a (k :: ks) → Q true { s with heap := h' }) : wpAny (model Pg w) A (setAddHashed a v (keyH w k)) Q E s := by
  obtain ⟨o, es, ep, t, kk, ho, hex, hd, hp, pm, nd, hb, hf, hr, hl⟩ := R
  have hkey : (mixKind Pg w).is k v = true := keyV_is.mp hv
  have hsc := keyV_scan hv
  have hel : ElemsOf (mixKind Pg w) es.toList := entK_elems hp
  unfold setAddHashed setAddHashedIn
  refine wpAny_holding (wpAny_bind (wpAny_setState_of ho hd hf ?_))
  dsimp only
  rw [byScan_of hsc hb hel]
  simp only [↓reduceIte]
  unfold setAddByScan
  refine wpAny_bind (wpAny_bind (wpAny_rule (wpAny_bind (wpAny_setScan_of hkey ho hd hf hel ?_))))
  have mem : k ∈ ks ↔ ∃ e ∈ es.toList, (mixKind Pg w).is k e.2 = true := by
    rw [← pm.mem_iff]
    constructor
    · intro z
      obtain ⟨e, he, q⟩ := paired_mem2 hp z
      exact ⟨e, he, keyV_is.mp q.1⟩
    · rintro ⟨e, he, q⟩
      obtain ⟨k', hk', q'⟩ := paired_mem hp he
      have := (keyV_is.mpr q).symm.trans q'.1
      cases this
      exact hk'
  cases hfi : List.findIdx? (fun e => (mixKind Pg w).is k e.2) es.toList with
  | some j =>
    dsimp only
    obtain ⟨hj, pj, _⟩ := List.findIdx?_eq_some_iff_getElem.mp hfi
    exact wpAny_pure (wpAny_pure (h1 (mem.mpr ⟨_, List.getElem_mem hj, pj⟩)))
  | none =>
    dsimp only
    have hn : k ∉ ks := fun z => by
      obtain ⟨e, he, q⟩ := mem.mp z
      have c := List.findIdx?_eq_none_iff.mp hfi e he
      rw [q] at c; cases c
    have hgw : ∀ (b : Bool) {s₁ : Shared} {Q' : Unit → Shared → Prop}, Q' () s₁ → wpAny (model Pg w) A (match b with | true => rule "set.scan.the-table-gave-way" | false => pure ()) Q' E s₁ := fun b s₁ Q' q => by
      cases b
      · exact wpAny_pure q
      · exact wpAny_rule q
    have q1 := layNew_perm t es (keyH w k) v
    have q2 := layNew_fits t es (keyH w k) v
    have q3 := layNew_ris t es (keyH w k) v hr
    have q4 := layNew_led t es (keyH w k) v
    show wpAny _ _ _ _ _ _
    have eh : (mixKind Pg w).hash k = keyH w k := rfl
    revert q1 q2 q3 q4
    generalize layNew t es (keyH w k) v = Z
    obtain ⟨es1, t1, dm, gv⟩ := Z
    intro q1 q2 q3 q4
    dsimp only at q1 q2 q3 q4 ⊢
    rw [Array.toList_push] at q1
    have pc : es1.toList.Perm ((keyH w k, v) :: es.toList) := q1.trans (List.perm_append_singleton _ _)
    obtain ⟨k1, hk1, p1⟩ := paired_perm pc (.cons ⟨hv, rfl⟩ hp)
    have pm1 : k1.Perm (k :: ks) := p1.trans (pm.cons k)
    have nd1 : (k :: ks).Nodup := List.nodup_cons.mpr ⟨hn, nd⟩
    have sz : es1.size = ks.length + 1 := by
      have e1 := pc.length_eq
      have e2 := paired_len hp
      have e3 := pm.length_eq
      simp only [Array.length_toList, List.length_cons] at e1 e2
      omega
    have hb1 : es1.size < scanBound := by rw [sz]; exact room
    have hl1 : w.params.followText "set-order" = true ∨ t1.led = true := hl.imp id fun z => q4.trans z
    have fin := h2 hn
    refine wpAny_bind (hgw _ ?_)
    split
    · refine wpAny_bind ?_
      rw [hashByValue_scannable 8 hsc]
      refine wpAny_pure (setM_tail (fun b s₁ Q' q => ?_) ho hex hd hk1 pm1 nd1 hb1 ?_ ?_ ?_ fun h' sb r => ?_)
      · cases b
        · exact wpAny_pure q
        · exact wpAny_rule q
      · first | exact q2 | (split <;> first | exact q2 | exact SetTable.fits_plain_off q2)
      · first | exact q3 | (split <;> exact q3)
      · first | exact hl1 | (split <;> exact hl1)
      · exact wpAny_pure (fin h' sb r)
    · refine wpAny_bind (wpAny_pure ?_)
      simp only [↓reduceIte]
      refine setM_tail (fun b s₁ Q' q => ?_) ho hex hd hk1 pm1 nd1 hb1 q2 q3 hl1 fun h' sb r => ?_
      · cases b
        · exact wpAny_pure q
        · exact wpAny_rule q
      · exact wpAny_pure (fin h' sb r)
end
end XL
namespace XL
open PySem L2 PyProof.Rows
open Classical in
noncomputable def addK (ks : List Key) (k : Key) : List Key := if k ∈ ks then ks else k :: ks
noncomputable def addAll (l : List Key) : List Key := l.foldl addK []
theorem addK_len (ks : List Key) (k : Key) : (addK ks k).length ≤ ks.length + 1 := by
  unfold addK; split <;> simp
theorem addAll_snoc (l : List Key) (k : Key) : addAll (l ++ [k]) = addK (addAll l) k := by simp [addAll]
theorem foldl_addK_len : ∀ (l ks : List Key), (l.foldl addK ks).length ≤ ks.length + l.length
  | [], ks => by simp
  | k :: l, ks => by
    have h1 := foldl_addK_len l (addK ks k)
    have h2 := addK_len ks k
    simp only [List.foldl_cons, List.length_cons]
    omega
theorem addAll_len (l : List Key) : (addAll l).length ≤ l.length := by simpa [addAll] using foldl_addK_len l []
theorem foldl_addK_mem : ∀ (l ks : List Key) (k : Key), k ∈ l.foldl addK ks ↔ k ∈ ks ∨ k ∈ l
  | [], ks, k => by simp
  | x :: l, ks, k => by
    simp only [List.foldl_cons, foldl_addK_mem l (addK ks x) k, List.mem_cons]
    unfold addK
    split
    · rename_i h
      constructor
      · rintro (z | z)
        · exact .inl z
        · exact .inr (.inr z)
      · rintro (z | z | z)
        · exact .inl z
        · subst z; exact .inl h
        · exact .inr z
    · simp only [List.mem_cons]
      constructor
      · rintro ((z | z) | z)
        · exact .inr (.inl z)
        · exact .inl z
        · exact .inr (.inr z)
      · rintro (z | z | z)
        · exact .inl (.inr z)
        · exact .inl (.inl z)
        · exact .inr z
theorem addAll_mem (l : List Key) (k : Key) : k ∈ addAll l ↔ k ∈ l := by simp [addAll, foldl_addK_mem]
section
variable {Pg : Program} {w : World} {A : Around} {E : Value → Shared → Prop} {s : Shared}
theorem SetM.at {h h' : Heap} {a : Addr} {ks : List Key} (R : SetM w h a ks) (k : ∀ o, h.get? a = some o → h'.get? a = some o) : SetM w h' a ks := by
  obtain ⟨o, es, ep, t, kk, ho, r⟩ := R
  exact ⟨o, es, ep, t, kk, k o ho, r⟩
theorem setM_fresh {h : Heap} {a : Addr} (ho : h.get? a = some { cls := .type "set", dict := none, data := .set #[] 0 (.fresh 0 0 (!w.params.followText "set-order")) }) : SetM w h a [] := by
  refine ⟨_, #[], 0, _, [], ho, ⟨rfl, rfl, rfl⟩, rfl, .nil, List.Perm.refl _, List.nodup_nil, by decide, by rfl, List.Pairwise.nil, ?_⟩
  cases q : w.params.followText "set-order"
  · exact .inr rfl
  · exact .inl rfl
theorem setM_loop {I : Addr} {fp wr : List Addr} {Gr : Array GenState → Array GenState → Prop} {n : Nat} {Pv : Nat → Value → Prop} {St : Nat → Shared → Prop} {R : Result → Shared → Prop}
    (W : WalksS Pg w A.in1 I fp wr Gr n Pv St) (Z : Addr) (hZ : Z ∉ fp) (kz : List Key) (hn : n = kz.length) (hb : kz.length + 1 < scanBound) (hval : ∀ i v, Pv i v → ∃ k, kz[i]? = some k ∧ keyV v = some k) :
    ∀ (j i : Nat) (s : Shared), n - i = j → i ≤ n → St i s → SetM w s.heap Z (addAll (kz.take i)) →
      (∀ s', Moved (Z :: wr) Gr s s' → SetM w s'.heap Z (addAll kz) → R (.ok (.ret .none)) s') → codeAny (model Pg w) A (.builtin "set.update.loop" ⟨[.ref Z, .ref I], []⟩) R s := by
  have nz : Z ∉ wr := fun h => hZ (W.sub _ h)
  have up : ∀ b ∈ wr, b ∈ Z :: wr := fun b hb => List.mem_cons_of_mem _ hb
  intro j
  induction j with
  | zero =>
    intro i s hj hi st hS hR
    obtain rfl : i = n := by omega
    refine codeAny_builtin F.entry_set_update_loop ?_
    rw [Around.under_plainId F.plain_set_update_loop _]
    refine wpAny_bind (W.done s _ _ st fun s' hm => ?_)
    rw [List.take_of_length_le (by omega)] at hS
    exact wpAny_pure (hR s' (hm.mono up) (hS.at fun o e => hm.heap Z o nz e))
  | succ j ih =>
    intro i s hj hi st hS hR
    have lt : i < n := by omega
    refine codeAny_builtin F.entry_set_update_loop ?_
    rw [Around.under_plainId F.plain_set_update_loop _]
    refine wpAny_bind (W.item i s _ _ lt st fun v s' hP st' hm => ?_)
    obtain ⟨k, hk, hv⟩ := hval i v hP
    have hS' : SetM w s'.heap Z (addAll (kz.take i)) := hS.at fun o e => hm.heap Z o nz e
    have tk : kz.take (i + 1) = kz.take i ++ [k] := by rw [List.take_add_one, hk]; rfl
    have len : (addAll (kz.take i)).length + 1 < scanBound := by
      have h1 := addAll_len (kz.take i)
      have h2 : (kz.take i).length ≤ i := by simp; omega
      omega
    refine wpAny_bind (wpAny_holding ?_)
    unfold setAdd
    refine wpAny_holding (wpAny_bind ((mixKind Pg w).pyHash (keyV_is.mp hv) ?_))
    have fin : ∀ h', Heap.SameBut Z s'.heap h' → SetM w h' Z (addAll (kz.take (i + 1))) → codeAny (model Pg w) A (.builtin "set.update.loop" ⟨[.ref Z, .ref I], []⟩) R { s' with heap := h', toks := s'.toks + 1 } := fun h' sb r => by
      refine ih (i + 1) _ (by omega) lt (W.frame _ s' _ _ st' (Nat.le_succ _) fun b hb o e => ?_) r fun s'' hm'' hS'' => ?_
      · rw [sb.2 b (fun h : b = Z => hZ (by rw [← h]; exact hb))]; exact e
      · refine hR s'' (Moved.trans W.gtrans ((hm.mono up).then_heap (Nat.le_succ _) fun b o hb e => ?_) hm'') hS''
        rw [sb.2 b (fun h : b = Z => hb (by rw [h]; exact List.mem_cons_self))]; exact e
    refine setM_add (s := { s' with toks := s'.toks + 1 }) hv hS' len (fun hin => ?_) fun hout h' sb r => ?_
    · refine wpAny_pure ⟨plainId_quiet F.plain_set_update_loop _, fin s'.heap (Heap.SameBut.refl Z _) ?_⟩
      rw [tk, addAll_snoc]
      unfold addK
      rw [if_pos hin]
      exact hS'
    · refine wpAny_pure ⟨plainId_quiet F.plain_set_update_loop _, fin h' sb ?_⟩
      rw [tk, addAll_snoc]
      unfold addK
      rw [if_neg hout]
      exact r
end
end XL
end
section
set_option Elab.async false
set_option linter.all false
set_option maxRecDepth 100000
set_option maxHeartbeats 3200000
namespace XL
open PySem L2 PyProof.Rows
abbrev emptySet (w : World) : Obj := { cls := .type "set", dict := none, data := .set #[] 0 (.fresh 0 0 (!w.params.followText "set-order")) }
section
variable {Pg : Program} {w : World} {A : Around} {E : Value → Shared → Prop} {s : Shared}
theorem setM_call {l : Addr} {items : Array Value} (kz : List Key) {Q : Value → Shared → Prop} (hh : A.handled = none) (hl : s.heap.IsList l items) (hit : items.toList.map keyV = kz.map some) (hb : kz.length + 1 < scanBound)
    (h : ∀ (h' : Heap) (tk : Nat), SetM w h' s.heap.objs.size (addAll kz) → (∀ b o, s.heap.get? b = some o → h'.get? b = some o) → Q (.ref s.heap.objs.size) { s with heap := h', toks := tk }) :
    wpAny (model Pg w) A (call (.type "set") [.ref l]) Q E s := by
  have hsz : items.size = kz.length := by simpa using congrArg List.length hit
  obtain ⟨c, tl, hmro⟩ := F.called_set.mro
  have hmade := F.called_set.made
  have hsub := F.called_set.sub
  refine wpAny_call (codeAny_of_tree ?_)
  refine wpAny_pure ⟨Code.quiet_builtin _ (by decide +kernel), codeAny_builtin F.entry_type_call ?_⟩
  rw [Around.under_plain (weight_type_call_type "set" [.ref l] []) rfl]
  have h1 := F.called_set.notType
  have h2 := F.called_set.canCreate
  have hct := F.typeCall_set_1 (.ref l)
  repeat (any_goals (first | assumption | wp_step))
  refine codeAny_mono (code_set_led1 (.ref l) (E := E) (Q₁ := fun obj s₁ => obj = .ref s.heap.objs.size ∧ s₁ = { s with heap := s.heap.push (emptySet w) }) ⟨rfl, rfl⟩) fun r s₁ hr => ?_
  cases r with
  | error e => exact hr
  | ok fl =>
    cases fl with
    | ret obj =>
      obtain ⟨rfl, rfl⟩ := hr
      have hS : (s.heap.push (emptySet w)).get? s.heap.objs.size = some (emptySet w) := Heap.get?_push_size _ rfl
      have hT : Shared.TypeIs { s with heap := s.heap.push (emptySet w) } (.ref s.heap.objs.size) "set" := ⟨_, hS, rfl⟩
      have hli := F.called_set.init.lookup
      have hbi := F.called_set.init.bind (.ref s.heap.objs.size)
      repeat (any_goals (first | assumption | wp_step))
      refine codeAny_mono (codeAny_call_builtin (R := wants (fun r s₂ => r = .none ∧ ∃ h' tk, s₂ = { s with heap := h', toks := tk } ∧ SetM w h' s.heap.objs.size (addAll kz) ∧ ∀ b o, s.heap.get? b = some o → h'.get? b = some o) E)
        F.called_set.init.plain F.entry_set_init (check_set_init_1 hT ?_)) fun r₂ s₂ hr₂ => ?_
      · obtain ⟨⟨ocls, odict, odata, oslots⟩, hol, hcl, nl, hdl⟩ := hl
        simp only at hcl hdl
        subst hcl hdl
        have hol' : (s.heap.push (emptySet w)).get? l = some { cls := .type "list", dict := odict, data := .seq items nl, slots := oslots } := Heap.get?_push_of_some _ hol
        have hsls := F.sub_list_set
        have hslf := F.sub_list_frozenset
        have hne : (Value.type "list" == Value.type "dict") = false := by decide
        have hl1 : (s.heap.push (emptySet w)).IsList l items := ⟨_, hol', rfl, nl, rfl⟩
        unfold Builtin.«set.__init__» noKeywords Builtin.Frozenset.updateFrom
        generalize hPI : pyIter = PI
        wp_walk
        subst hPI
        refine wpAny_pyIter_list hl1 (wpAny_bind (wpAny_runValue ?_))
        have hlS : l < s.heap.objs.size := Heap.lt_size hol
        have hh3 : A.in1.in1.in1.handled = none := by simp [hh]
        have hp1 : (s.heap.push (emptySet w)).objs.size = s.heap.objs.size + 1 := Heap.size_push ..
        have hneI : l ≠ (s.heap.push (emptySet w)).objs.size := by rw [hp1]; exact Nat.ne_of_lt (Nat.lt_succ_of_lt hlS)
        have hSf : s.heap.objs.size ∉ [(s.heap.push (emptySet w)).objs.size, l] := by
          rw [hp1]
          simp only [List.mem_cons, List.not_mem_nil, or_false, not_or]
          exact ⟨Nat.ne_of_lt (Nat.lt_succ_self _), Nat.ne_of_gt hlS⟩
        have hval : ∀ (i : Nat) (v : Value), items[i]? = some v → ∃ k, kz[i]? = some k ∧ keyV v = some k := fun i v hv => by
          have e1 : (items.toList.map keyV)[i]? = some (keyV v) := by rw [List.getElem?_map, Array.getElem?_toList, hv]; rfl
          rw [hit, List.getElem?_map] at e1
          cases q : kz[i]? with
          | none => rw [q] at e1; cases e1
          | some k => rw [q] at e1; exact ⟨k, rfl, (Option.some.inj e1).symm⟩
        refine setM_loop ((Walks.list hh3 _ l hneI items).toS) s.heap.objs.size hSf kz hsz hb hval (items.size - 0) 0 _ (by omega) (Nat.zero_le _) ⟨⟨_, Heap.get?_push_size _ rfl, rfl, rfl⟩, hl1.push _⟩ ?hS0 ?hR
        case hS0 => exact setM_fresh (Heap.get?_push_of_some _ hS)
        case hR =>
          intro s' hm hS'
          obtain ⟨h', g2, d', tk', os'⟩ := s'
          have eg : g2 = s.gens := hm.gens
          have ed : d' = s.drawn := hm.drawn
          have eo : os' = s.os := hm.os
          subst eg ed eo
          refine wpAny_pure (wpAny_pure ⟨rfl, h', tk', rfl, hS', fun b o e => ?_⟩)
          have hb0 : b < s.heap.objs.size := Heap.lt_size e
          refine hm.heap b o ?_ (Heap.get?_push_of_some _ (Heap.get?_push_of_some _ e))
          simp only [hp1, List.mem_cons, List.not_mem_nil, or_false, not_or]
          exact ⟨Nat.ne_of_lt hb0, Nat.ne_of_lt (Nat.lt_succ_of_lt hb0)⟩
      · cases r₂ with
        | error e => exact hr₂
        | ok fl₂ =>
          cases fl₂ with
          | ret r =>
            obtain ⟨rfl, h', tk, rfl, hS', hk'⟩ := hr₂
            repeat (any_goals (first | assumption | wp_step))
            exact h _ _ hS' hk'
          | _ => exact hr₂.elim
    | _ => exact hr.elim
end
end XL
end
section
set_option Elab.async false
set_option linter.all false
set_option maxRecDepth 100000
set_option maxHeartbeats 1000000
namespace XL
open PySem L2 PyProof.Rows PySem.W
/-! ### putting in order -/
def insG {α : Type} (lt : α → α → Bool) (x : α) : List α → List α
  | [] => [x]
  | y :: ys => if lt y x = true then y :: insG lt x ys else x :: y :: ys
def sortG {α : Type} (lt : α → α → Bool) : List α → List α
  | [] => []
  | x :: xs => insG lt x (sortG lt xs)
theorem insG_mem {α : Type} {lt : α → α → Bool} {x z : α} : ∀ {l : List α}, z ∈ insG lt x l ↔ z = x ∨ z ∈ l
  | [] => by simp [insG]
  | y :: ys => by
    unfold insG
    split
    · simp only [List.mem_cons, insG_mem (l := ys)]
      constructor
      · rintro (h | h | h)
        · exact .inr (.inl h)
        · exact .inl h
        · exact .inr (.inr h)
      · rintro (h | h | h)
        · exact .inr (.inl h)
        · exact .inl h
        · exact .inr (.inr h)
    · simp
theorem insG_pair {α : Type} {lt : α → α → Bool} (h : TotalLe fun a b => !lt b a) {x : α} : ∀ {l : List α}, l.Pairwise (fun a b => (!lt b a) = true) → (insG lt x l).Pairwise (fun a b => (!lt b a) = true)
  | [], _ => by simp [insG]
  | y :: ys, hp => by
    obtain ⟨h1, h2⟩ := List.pairwise_cons.mp hp
    unfold insG
    split
    · rename_i c
      refine List.pairwise_cons.mpr ⟨fun z hz => ?_, insG_pair h h2⟩
      rcases insG_mem.mp hz with rfl | hz
      · rcases h.total y z with q | q
        · exact q
        · rw [c] at q; cases q
      · exact h1 z hz
    · rename_i c
      have c' : (!lt y x) = true := by simpa using c
      refine List.pairwise_cons.mpr ⟨fun z hz => ?_, hp⟩
      rcases List.mem_cons.mp hz with rfl | hz
      · exact c'
      · exact h.trans x y z c' (h1 z hz)
theorem insG_filter {α : Type} {lt : α → α → Bool} (h : TotalLe fun a b => !lt b a) {x c : α} : ∀ {l : List α}, (insG lt x l).filter (sameRank (fun a b => !lt b a) c) = (x :: l).filter (sameRank (fun a b => !lt b a) c)
  | [] => by simp [insG]
  | y :: ys => by
    unfold insG
    split
    · rename_i d
      have ih := insG_filter h (x := x) (c := c) (l := ys)
      simp only [List.filter_cons] at ih ⊢
      rw [ih]
      by_cases hx : sameRank (fun a b => !lt b a) c x = true
      · by_cases hy : sameRank (fun a b => !lt b a) c y = true
        · exfalso
          unfold sameRank at hx hy
          simp only [Bool.and_eq_true] at hx hy
          have := h.trans x c y hx.2 hy.1
          simp only [d, Bool.not_true] at this
          cases this
        · simp [hx, hy]
      · simp [hx]
    · rfl
theorem sortG_merge {α : Type} {lt : α → α → Bool} (h : TotalLe fun a b => !lt b a) (l : List α) : sortG lt l = l.mergeSort (fun a b => !lt b a) := by
  refine sort_unique h ?_ fun c => ?_
  · induction l with
    | nil => exact List.Pairwise.nil
    | cons x xs ih => exact insG_pair h ih
  · induction l with
    | nil => rfl
    | cons x xs ih =>
      show (insG lt x (sortG lt xs)).filter _ = _
      rw [insG_filter h, List.filter_cons, List.filter_cons, ih]
theorem data_total {β : Type} (k : β → PyData) : TotalLe (fun a b => !dataLt (k b) (k a)) := sortLe_total (listOrd itemOrd) false fun b => keyToks (k b)
theorem sortG_data {β : Type} (k : β → PyData) (l : List β) : l.mergeSort (dataLe false k) = sortG (fun a b => dataLt (k a) (k b)) l := (sortG_merge (lt := fun a b => dataLt (k a) (k b)) (data_total k) l).symm
theorem insG_congr {α : Type} {lt lt' : α → α → Bool} {x : α} : ∀ {l : List α}, (∀ y ∈ l, lt y x = lt' y x) → insG lt x l = insG lt' x l
  | [], _ => rfl
  | y :: ys, h => by
    unfold insG
    rw [h y List.mem_cons_self, insG_congr fun z hz => h z (List.mem_cons_of_mem _ hz)]
theorem sortG_mem {α : Type} {lt : α → α → Bool} {z : α} : ∀ {l : List α}, z ∈ sortG lt l ↔ z ∈ l
  | [] => by simp [sortG]
  | x :: xs => by simp [sortG, insG_mem, sortG_mem (l := xs)]
theorem sortG_congr {α : Type} {lt lt' : α → α → Bool} : ∀ {l : List α}, (∀ x ∈ l, ∀ y ∈ l, lt x y = lt' x y) → sortG lt l = sortG lt' l
  | [], _ => rfl
  | x :: xs, h => by
    unfold sortG
    rw [sortG_congr fun a ha b hb => h a (List.mem_cons_of_mem _ ha) b (List.mem_cons_of_mem _ hb)]
    exact insG_congr fun y hy => h y (List.mem_cons_of_mem _ (sortG_mem.mp hy)) x List.mem_cons_self
theorem insG_map {α β : Type} {lt : α → α → Bool} {lt' : β → β → Bool} (f : α → β) (h : ∀ a b, lt a b = lt' (f a) (f b)) (x : α) : ∀ l : List α, (insG lt x l).map f = insG lt' (f x) (l.map f)
  | [] => rfl
  | y :: ys => by
    unfold insG
    rw [h y x]
    simp only [List.map_cons]
    split
    · rw [List.map_cons, insG_map f h x ys]
    · rfl
theorem sortG_map {α β : Type} {lt : α → α → Bool} {lt' : β → β → Bool} (f : α → β) (h : ∀ a b, lt a b = lt' (f a) (f b)) : ∀ l : List α, (sortG lt l).map f = sortG lt' (l.map f)
  | [] => rfl
  | x :: xs => by
    show (insG lt x (sortG lt xs)).map f = insG lt' (f x) (sortG lt' (xs.map f))
    rw [insG_map f h, sortG_map f h xs]
theorem insP_G (x : P) : ∀ l : List P, insP x l = insG P.lt x l
  | [] => rfl
  | y :: ys => by simp only [insP, insG, insP_G x ys]
theorem sortP_G : ∀ l : List P, sortP l = sortG P.lt l
  | [] => rfl
  | x :: xs => by simp only [sortP, sortG, insP_G, sortP_G xs]
theorem allAlike_of : ∀ {ds : List P}, allAlike ds = true → ∀ x ∈ ds, ∀ y ∈ ds, P.alike x y = true
  | [], _, x, hx, _, _ => by cases hx
  | d :: ds, h, x, hx, y, hy => by
    simp only [allAlike, Bool.and_eq_true, List.all_eq_true] at h
    rcases List.mem_cons.mp hx with ex | hx1
    · rcases List.mem_cons.mp hy with ey | hy1
      · rw [ex, ey]; exact h.1.1
      · rw [ex]; exact (h.1.2 y hy1).1
    · rcases List.mem_cons.mp hy with ey | hy1
      · rw [ey]; exact (h.1.2 x hx1).2
      · exact allAlike_of h.2 x hx1 y hy1
theorem sortP_data {ds : List P} (h : ∀ x ∈ ds, ∀ y ∈ ds, P.alike x y = true) : sortG (fun a b => dataLt (toPD a) (toPD b)) ds = sortP ds := by
  rw [sortP_G]
  exact sortG_congr fun x hx y hy => lt_pd x y (h x hx y hy)
theorem each_zip {K : PySem.W.Frag} {m : List Addr} {H : Hp} : ∀ {ds : List P} {vs : List V} {us : List Value}, RepPs K m H ds vs → Vals vs us → EachIs (fun (u : Value) (b : P × V) => RelV b.2 u) us (ds.zip vs) ∧ ∀ b ∈ ds.zip vs, RepP K m H b.1 b.2
  | [], vs, us, h, r => by
    simp only [RepPs] at h; subst h
    cases r
    exact ⟨.nil, fun b hb => by simp at hb⟩
  | d :: ds, vs, us, h, r => by
    simp only [RepPs] at h
    obtain ⟨v, w, rfl, h1, h2⟩ := h
    cases r with
    | cons r rr =>
      obtain ⟨a, b⟩ := each_zip h2 rr
      refine ⟨.cons r a, fun c hc => ?_⟩
      simp only [List.zip_cons_cons, List.mem_cons] at hc
      rcases hc with rfl | hc
      · exact h1
      · exact b c hc
theorem each_vals {us : List Value} {bs : List (P × V)} (h : EachIs (fun (u : Value) (b : P × V) => RelV b.2 u) us bs) : Vals (bs.map (·.2)) us := by
  induction h with
  | nil => exact .nil
  | cons r _ ih => exact .cons r ih
theorem reps_pairs {K : PySem.W.Frag} {m : List Addr} {H : Hp} : ∀ {bs : List (P × V)}, (∀ b ∈ bs, RepP K m H b.1 b.2) → RepPs K m H (bs.map (·.1)) (bs.map (·.2))
  | [], _ => RepPs.nil
  | b :: bs, h => RepPs.cons (h b List.mem_cons_self) (reps_pairs fun c hc => h c (List.mem_cons_of_mem _ hc))
theorem sortable_of {ds : List P} (h : (ds.all fullTup || ds.all noTup) = true) : Sortable (ds.map toPD) := by
  simp only [Bool.or_eq_true, List.all_eq_true] at h
  rcases h with h | h
  · refine .inl fun d hd => ?_
    obtain ⟨x, hx, rfl⟩ := List.mem_map.mp hd
    have q := h x hx
    cases x with
    | tup xs =>
      cases xs with
      | nil => simp [fullTup] at q
      | cons y ys => exact ⟨toPD y, toPDs ys, by simp [toPD, toPDs]⟩
    | _ => simp [fullTup] at q
  · refine .inr fun d hd => ?_
    obtain ⟨x, hx, rfl⟩ := List.mem_map.mp hd
    have q := h x hx
    cases x <;> simp [noTup] at q <;> simp [toPD]
theorem cr_sortedX {X : Cx} (hu : X.A.units + 64 < cLine) : CallR X (.builtin "sorted") (cOf X.K cSorted) := fun pins s σ H vs us Q I r h => by
  obtain ⟨m, G, S, ps, r', hS, hp, hf, k⟩ := h
  unfold cSorted at hf
  split at hf
  · rename_i ds
    split at hf
    · rename_i hc
      cases hf
      obtain ⟨v, rfl, a, ws, rfl, f, q⟩ := one_arg hp
      unfold sortOk at hc
      simp only [Bool.and_eq_true, decide_eq_true_eq] at hc
      have al := allAlike_of hc.1.1.1
      obtain ⟨z, its, n, rv, eo⟩ := f.ok I.hok
      obtain ⟨u, rfl, ru⟩ := vals1 r
      cases ru
      obtain ⟨e1, e2⟩ := each_zip q rv
      have el : (ds.zip ws).map (·.1) = ds := by
        rw [List.map_fst_zip]; rw [q.length]; exact Nat.le_refl _
      have em : (ds.zip ws).map (fun b => toPD b.1) = ds.map toPD := by
        have := congrArg (List.map toPD) el
        rw [List.map_map] at this
        exact this
      have er : EachIs (fun v b => ∃ as, Reads s.heap v (toPD b.1) as) its (ds.zip ws) := by
        have := each_mem e1
        exact this.mono fun u b ⟨hr, hb⟩ => Dp.reads I _ _ _ (RepP.dp _ _ (e2 b hb)) hr
      have hl : s.heap.IsList a its.toArray := ⟨_, eo, rfl, n, rfl⟩
      refine sorted_data (enc := fun b : P × V => toPD b.1) hl e1 er ?_ ?_ ?_ ?_ fun out ho eo => ?_
      · rw [em]
        intro d hd d' hd'
        obtain ⟨x, hx, rfl⟩ := List.mem_map.mp hd
        obtain ⟨y, hy, rfl⟩ := List.mem_map.mp hd'
        rw [alike_pd]; exact al x hx y hy
      · rw [em]; exact sortable_of hc.1.2
      · have : (ds.zip ws).length = ds.length := by rw [← List.length_map (f := (·.1)), el]
        rw [this]; exact big_size hc.2
      · intro b hb
        have hb1 : b.1 ∈ ds := by rw [← el]; exact List.mem_map_of_mem hb
        have := ((fit_all 60).1 b.1 ((List.all_eq_true.mp hc.1.1.2) _ hb1)).2
        omega
      · rw [sortG_data] at eo
        have e3 : (sortG (fun a b : P × V => dataLt (toPD a.1) (toPD b.1)) (ds.zip ws)).map (·.1) = sortP ds := by
          rw [sortG_map (lt' := fun a b => dataLt (toPD a) (toPD b)) (fun z : P × V => z.1) (fun _ _ => rfl), el, sortP_data al]
        have rr : RepPs X.K (m ++ G) H (sortP ds) ((sortG (fun a b : P × V => dataLt (toPD a.1) (toPD b.1)) (ds.zip ws)).map (·.2)) := by
          rw [← e3]
          exact reps_pairs fun b hb => e2 b (sortG_mem.mp hb)
        obtain ⟨c, hc2⟩ := sortedAll_at s.heap its out.toArray
        have hfr : H (s.heap.objs.size + 1) = none := I.hok.fresh (Nat.le_succ _)
        have lz : ((sortG (fun a b : P × V => dataLt (toPD a.1) (toPD b.1)) (ds.zip ws)).map (·.2)).length ≤ sizeLine := by
          rw [← rr.length, ← e3, List.length_map]
          have := (ho.symm.trans (EachIs.length eo))
          rw [← EachIs.length eo, ho, ← List.length_map (f := (·.1)), el]
          exact big_size hc.2
        have J : Inv X pins σ (upd H (s.heap.objs.size + 1) (.lst ((sortG (fun a b : P × V => dataLt (toPD a.1) (toPD b.1)) (ds.zip ws)).map (·.2)))) { s with heap := sortedAll s.heap its out.toArray } :=
          I.laid (t' := s.toks) (fun b o e => sortedAll_old e) (Nat.le_succ _) ⟨lz, out, c, each_vals eo, hc2⟩
        have ex := Ext.new (o := .lst ((sortG (fun a b : P × V => dataLt (toPD a.1) (toPD b.1)) (ds.zip ws)).map (·.2))) hfr
        exact ⟨.ref _, _, J, rfl, k _ _ ex ⟨_, _, rfl, hS.fresh hfr, upd_same, RepPs.step (Step.of_ext ex) _ _ rr⟩ (own_new hS hfr rr)⟩
    · cases hf
  · cases hf
end XL
end
section
set_option Elab.async false
set_option linter.all false
set_option maxRecDepth 100000
set_option maxHeartbeats 1000000
namespace XL
open PySem L2 PyProof.Rows PySem.W
/-! ### sorted(set(xs)), len(set(xs)): ints alone, texts alone -/
def keyP : P → Option Key
  | .int i => some (.inl i)
  | .str s => some (.inr ⟨s.toArray⟩)
  | _ => none
def pOfKey : Key → P
  | .inl i => .int i
  | .inr x => .str x.cps.toList
theorem pOfKey_keyP {p : P} {k : Key} (h : keyP p = some k) : pOfKey k = p := by
  cases p <;> simp [keyP] at h <;> subst h <;> simp [pOfKey]
theorem keyP_pOf (k : Key) : keyP (pOfKey k) = some k := by
  cases k <;> simp [pOfKey, keyP]
def pdK : Key → PyData := fun k => toPD (pOfKey k)
theorem pdK_inj {a b : Key} (h : keyToks (pdK a) = keyToks (pdK b)) : a = b := by
  cases a <;> cases b <;> simp [pdK, pOfKey, toPD, keyToks] at h
  · rw [h]
  · rename_i x y
    have : x = y := by
      cases x; cases y
      simp only [Str.mk.injEq]
      exact Array.toList_inj.mp (by simpa using h)
    rw [this]
def ltK (a b : Key) : Bool := dataLt (pdK a) (pdK b)
theorem ltK_irrefl (a : Key) : ltK a a = false := PyProof.Rows.lex_irrefl _
theorem ltK_trans {a b c : Key} (h1 : ltK a b = true) (h2 : ltK b c = true) : ltK a c = true := (listOrd itemOrd).trans _ _ _ h1 h2
theorem ltK_total {a b : Key} (h : a ≠ b) : ltK a b = true ∨ ltK b a = true := by
  cases q : ltK a b with
  | true => exact .inl rfl
  | false =>
    cases r : ltK b a with
    | true => exact .inr rfl
    | false => exact absurd (pdK_inj ((listOrd itemOrd).total _ _ q r)) h
theorem insG_strict {x : Key} : ∀ {l : List Key}, l.Pairwise (fun a b => ltK a b = true) → x ∉ l → (insG ltK x l).Pairwise (fun a b => ltK a b = true)
  | [], _, _ => by simp [insG]
  | y :: ys, hp, hx => by
    obtain ⟨h1, h2⟩ := List.pairwise_cons.mp hp
    simp only [List.mem_cons, not_or] at hx
    unfold insG
    split
    · rename_i c
      refine List.pairwise_cons.mpr ⟨fun z hz => ?_, insG_strict h2 hx.2⟩
      rcases insG_mem.mp hz with rfl | hz
      · exact c
      · exact h1 z hz
    · rename_i c
      have c' : ltK x y = true := (ltK_total hx.1).elim id fun z => absurd z c
      refine List.pairwise_cons.mpr ⟨fun z hz => ?_, hp⟩
      rcases List.mem_cons.mp hz with rfl | hz
      · exact c'
      · exact ltK_trans c' (h1 z hz)
theorem sortG_strict : ∀ {l : List Key}, l.Nodup → (sortG ltK l).Pairwise (fun a b => ltK a b = true)
  | [], _ => List.Pairwise.nil
  | x :: xs, h => by
    obtain ⟨h1, h2⟩ := List.nodup_cons.mp h
    exact insG_strict (sortG_strict h2) fun z => h1 (sortG_mem.mp z)
theorem strict_one : ∀ {l m : List Key}, l.Pairwise (fun a b => ltK a b = true) → m.Pairwise (fun a b => ltK a b = true) → (∀ k, k ∈ l ↔ k ∈ m) → l = m
  | [], [], _, _, _ => rfl
  | [], y :: ys, _, _, h => absurd ((h y).mpr List.mem_cons_self) (by simp)
  | x :: xs, [], _, _, h => absurd ((h x).mp List.mem_cons_self) (by simp)
  | x :: xs, y :: ys, hl, hm, h => by
    obtain ⟨a1, a2⟩ := List.pairwise_cons.mp hl
    obtain ⟨b1, b2⟩ := List.pairwise_cons.mp hm
    have irr := ltK_irrefl
    have e : x = y := by
      rcases List.mem_cons.mp ((h x).mp List.mem_cons_self) with e | e
      · exact e
      · rcases List.mem_cons.mp ((h y).mpr List.mem_cons_self) with e' | e'
        · exact e'.symm
        · have := ltK_trans (b1 x e) (a1 y e')
          rw [irr] at this; cases this
    subst e
    rw [strict_one a2 b2 fun k => ?_]
    constructor
    · intro hk
      rcases List.mem_cons.mp ((h k).mp (List.mem_cons_of_mem _ hk)) with e | e
      · subst e; have := a1 k hk; rw [irr] at this; cases this
      · exact e
    · intro hk
      rcases List.mem_cons.mp ((h k).mpr (List.mem_cons_of_mem _ hk)) with e | e
      · subst e; have := b1 k hk; rw [irr] at this; cases this
      · exact e
theorem sortG_same {l m : List Key} (hl : l.Nodup) (hm : m.Nodup) (h : ∀ k, k ∈ l ↔ k ∈ m) : sortG ltK l = sortG ltK m :=
  strict_one (sortG_strict hl) (sortG_strict hm) fun k => by rw [sortG_mem, sortG_mem]; exact h k
/-- the keys of data -/
theorem keys_of {ds : List P} (h : (ds.all isIntP || ds.all isStrP) = true) : ∃ kz : List Key, ds.map keyP = kz.map some ∧ (∀ a ∈ kz, ∀ b ∈ kz, PySem.W.alike (pdK a) (pdK b) = true) := by
  simp only [Bool.or_eq_true, List.all_eq_true] at h
  have h' : (∃ ns : List Int, ds = ns.map P.int) ∨ ∃ ss : List (List Nat), ds = ss.map P.str := by
    rcases h with h | h
    · left
      induction ds with
      | nil => exact ⟨[], rfl⟩
      | cons d ds ih =>
        obtain ⟨ns, e⟩ := ih fun x hx => h x (List.mem_cons_of_mem _ hx)
        have := h d List.mem_cons_self
        cases d <;> simp [isIntP] at this
        rename_i i
        exact ⟨i :: ns, by simp [e]⟩
    · right
      induction ds with
      | nil => exact ⟨[], rfl⟩
      | cons d ds ih =>
        obtain ⟨ns, e⟩ := ih fun x hx => h x (List.mem_cons_of_mem _ hx)
        have := h d List.mem_cons_self
        cases d <;> simp [isStrP] at this
        rename_i i
        exact ⟨i :: ns, by simp [e]⟩
  rcases h' with ⟨ns, rfl⟩ | ⟨ss, rfl⟩
  · refine ⟨ns.map Sum.inl, by simp [keyP], fun a ha b hb => ?_⟩
    obtain ⟨i, _, rfl⟩ := List.mem_map.mp ha
    obtain ⟨j, _, rfl⟩ := List.mem_map.mp hb
    simp [pdK, pOfKey, toPD, PySem.W.alike]
  · refine ⟨ss.map fun s => Sum.inr ⟨s.toArray⟩, by simp [keyP], fun a ha b hb => ?_⟩
    obtain ⟨i, _, rfl⟩ := List.mem_map.mp ha
    obtain ⟨j, _, rfl⟩ := List.mem_map.mp hb
    simp [pdK, pOfKey, toPD, PySem.W.alike]
theorem keyV_rep {K : PySem.W.Frag} {m : List Addr} {H : Hp} {d : P} {v : V} {u : Value} {k : Key} (h : RepP K m H d v) (r : RelV v u) (e : keyP d = some k) : keyV u = some k := by
  cases d <;> simp [keyP] at e <;> subst e <;> simp only [RepP] at h <;> subst h <;> obtain ⟨t, rfl⟩ := r <;> rfl
theorem keysV_rep {K : PySem.W.Frag} {m : List Addr} {H : Hp} : ∀ {ds : List P} {vs : List V} {us : List Value} {kz : List Key}, RepPs K m H ds vs → Vals vs us → ds.map keyP = kz.map some → us.map keyV = kz.map some
  | [], vs, us, kz, h, r, e => by
    simp only [RepPs] at h; subst h
    cases r
    cases kz with
    | nil => rfl
    | cons k kz => simp at e
  | d :: ds, vs, us, kz, h, r, e => by
    simp only [RepPs] at h
    obtain ⟨v, w, rfl, h1, h2⟩ := h
    cases kz with
    | nil => simp at e
    | cons k kz =>
      simp only [List.map_cons, List.cons.injEq] at e
      cases r with
      | cons r rr => simp only [List.map_cons, keyV_rep h1 r e.1, keysV_rep h2 rr e.2]
theorem dedupP_mem {x : P} : ∀ {l : List P}, x ∈ dedupP l ↔ x ∈ l
  | [] => by simp [dedupP]
  | y :: ys => by
    unfold dedupP
    split
    · rename_i h
      rw [dedupP_mem (l := ys), List.mem_cons]
      constructor
      · exact .inr
      · rintro (rfl | z)
        · exact h
        · exact z
    · simp [dedupP_mem (l := ys)]
theorem dedupP_nodup : ∀ {l : List P}, (dedupP l).Nodup
  | [] => by simp [dedupP]
  | y :: ys => by
    unfold dedupP
    split
    · exact dedupP_nodup
    · rename_i h
      exact List.nodup_cons.mpr ⟨fun z => h (dedupP_mem.mp z), dedupP_nodup⟩
theorem foldl_addK_nodup : ∀ (l ks : List Key), ks.Nodup → (l.foldl addK ks).Nodup
  | [], ks, h => h
  | x :: l, ks, h => by
    refine foldl_addK_nodup l _ ?_
    unfold addK
    split
    · exact h
    · rename_i c; exact List.nodup_cons.mpr ⟨c, h⟩
theorem addAll_nodup (l : List Key) : (addAll l).Nodup := foldl_addK_nodup l [] List.nodup_nil
/-- what sorted gives of such keys -/
theorem sorted_keys {ds : List P} {kz ks : List Key} (e : ds.map keyP = kz.map some) (al : ∀ a ∈ kz, ∀ b ∈ kz, PySem.W.alike (pdK a) (pdK b) = true) (nd : ks.Nodup) (hk : ∀ k, k ∈ ks ↔ k ∈ kz) : (sortG ltK ks).map pOfKey = sortP (dedupP ds) := by
  have memP : ∀ d ∈ ds, ∃ k ∈ kz, keyP d = some k := fun d hd => by
    have : keyP d ∈ ds.map keyP := List.mem_map_of_mem hd
    rw [e] at this
    obtain ⟨k, hk, q⟩ := List.mem_map.mp this
    exact ⟨k, hk, q.symm⟩
  have memK : ∀ k ∈ kz, ∃ d ∈ ds, keyP d = some k := fun k hk => by
    have : some k ∈ kz.map some := List.mem_map_of_mem hk
    rw [← e] at this
    obtain ⟨d, hd, q⟩ := List.mem_map.mp this
    exact ⟨d, hd, q⟩
  have hj : ∃ js : List Key, (dedupP ds) = js.map pOfKey ∧ js.Nodup ∧ ∀ k, k ∈ js ↔ k ∈ kz := by
    have : ∀ l : List P, (∀ d ∈ l, d ∈ ds) → ∃ js : List Key, l = js.map pOfKey ∧ ∀ k ∈ js, keyP (pOfKey k) = some k ∧ pOfKey k ∈ l := by
      intro l
      induction l with
      | nil => intro _; exact ⟨[], rfl, fun k hk => by cases hk⟩
      | cons d l ih =>
        intro hl
        obtain ⟨js, e1, e2⟩ := ih fun x hx => hl x (List.mem_cons_of_mem _ hx)
        obtain ⟨k, _, q⟩ := memP d (hl d List.mem_cons_self)
        refine ⟨k :: js, by rw [List.map_cons, pOfKey_keyP q, ← e1], fun k' hk' => ⟨keyP_pOf k', ?_⟩⟩
        rcases List.mem_cons.mp hk' with rfl | hk'
        · rw [pOfKey_keyP q]; exact List.mem_cons_self
        · exact List.mem_cons_of_mem _ (e2 k' hk').2
    obtain ⟨js, e1, e2⟩ := this (dedupP ds) fun d hd => dedupP_mem.mp hd
    refine ⟨js, e1, ?_, fun k => ⟨fun hk => ?_, fun hk => ?_⟩⟩
    · have := dedupP_nodup (l := ds)
      rw [e1] at this
      exact List.Pairwise.of_map pOfKey (fun a b h z => h (by rw [z])) this
    · obtain ⟨k', hk', q⟩ := memP _ (dedupP_mem.mp (e2 k hk).2)
      rw [keyP_pOf] at q
      cases q; exact hk'
    · obtain ⟨d, hd, q⟩ := memK k hk
      have : d ∈ dedupP ds := dedupP_mem.mpr hd
      rw [e1] at this
      obtain ⟨k', hk', q'⟩ := List.mem_map.mp this
      rw [← q', keyP_pOf] at q
      cases q; exact hk'
  obtain ⟨js, e1, njs, mjs⟩ := hj
  rw [sortG_same nd njs fun k => (hk k).trans (mjs k).symm, e1, sortP_G]
  rw [sortG_map (lt := ltK) (lt' := fun a b => dataLt (toPD a) (toPD b)) pOfKey (fun a b => rfl)]
  refine sortG_congr fun x hx y hy => ?_
  obtain ⟨a, ha, rfl⟩ := List.mem_map.mp hx
  obtain ⟨b, hb, rfl⟩ := List.mem_map.mp hy
  refine lt_pd _ _ ?_
  rw [← alike_pd]
  exact al a ((mjs a).mp ha) b ((mjs b).mp hb)
theorem dedup_len {ds : List P} {kz ks : List Key} (e : ds.map keyP = kz.map some) (al : ∀ a ∈ kz, ∀ b ∈ kz, PySem.W.alike (pdK a) (pdK b) = true) (nd : ks.Nodup) (hk : ∀ k, k ∈ ks ↔ k ∈ kz) : ks.length = (dedupP ds).length := by
  have h := congrArg List.length (sorted_keys e al nd hk)
  have l1 : ∀ l : List Key, (sortG ltK l).length = l.length := by
    intro l
    induction l with
    | nil => rfl
    | cons x xs ih =>
      have : ∀ m : List Key, (insG ltK x m).length = m.length + 1 := by
        intro m
        induction m with
        | nil => rfl
        | cons y ys ih => unfold insG; split <;> simp [ih]
      show (insG ltK x (sortG ltK xs)).length = _
      rw [this, ih]; rfl
  have l2 : ∀ l : List P, (sortP l).length = l.length := by
    intro l
    induction l with
    | nil => rfl
    | cons x xs ih =>
      have : ∀ m : List P, (insP x m).length = m.length + 1 := by
        intro m
        induction m with
        | nil => rfl
        | cons y ys ih => unfold insP; split <;> simp [ih]
      show (insP x (sortP xs)).length = _
      rw [this, ih]; rfl
  rw [List.length_map, l1, l2] at h
  exact h
end XL
end
section
set_option Elab.async false
set_option linter.all false
set_option maxRecDepth 100000
set_option maxHeartbeats 1000000
namespace XL
open PySem L2 PyProof.Rows PySem.W
def vK : Key → V
  | .inl i => .int i
  | .inr x => .str x
theorem relV_key {k : Key} {u : Value} (h : keyV u = some k) : RelV (vK k) u := by
  cases u <;> simp [keyV] at h <;> subst h <;> exact ⟨_, rfl⟩
theorem reads_key {h : Heap} {k : Key} {u : Value} (e : keyV u = some k) : Reads h u (pdK k) [] := by
  cases u <;> simp [keyV] at e <;> subst e
  · exact .int _ _ 
  · exact .str _ _
theorem repP_key {K : PySem.W.Frag} {m : List Addr} {H : Hp} (k : Key) : RepP K m H (pOfKey k) (vK k) := by
  cases k <;> simp [RepP, pOfKey, vK]
theorem tOf.un {K : PySem.W.Frag} {σ : L2.St} {H : Hp} {Q : VK} {f : P → Option R} {xa : XE} (h : tOf K (xUn f xa) σ H Q) : tOf K xa σ H fun v H1 => uOf K f v H1 Q := by
  obtain ⟨m, G, ρ, S, r, S', hE, hS, hx, k⟩ := h
  simp only [xUn, Option.bind_eq_some_iff, Option.map_eq_some_iff] at hx
  obtain ⟨⟨r1, S1⟩, h1, p, hp, r', hf, e⟩ := hx
  cases e
  refine ⟨m, G, ρ, S, r1, S1, hE, hS, h1, fun v1 m1 H1 s1 hS1 q1 _ => ⟨m1, G, S1, p, _, hS1, q1.rd hS1 hp, hf, fun v H' e q o => ?_⟩⟩
  exact k v m1 H' (s1.trans (Step.of_ext e)) (hS1.ext e) q (o.back s1.dom)
theorem each_of_paired {α β : Type} {F : α → β → Prop} : ∀ {l : List α} {k : List β}, Paired F l k → EachIs F l k
  | _, _, .nil => .nil
  | _, _, .cons r t => .cons r (each_of_paired t)
section
variable {Pg : Program} {w : World} {A : Around} {E : Value → Shared → Prop} {s : Shared}
theorem sorted_setM {a : Addr} {ks : List Key} {Q : Value → Shared → Prop} (R : SetM w s.heap a ks) (hh : A.handled = none) (hu : A.units + 10 < cLine) (al : ∀ a ∈ ks, ∀ b ∈ ks, PySem.W.alike (pdK a) (pdK b) = true)
    (hQ : ∀ s' p (out : List Value) (c : Nat), (∀ b o, s.heap.get? b = some o → s'.heap.get? b = some o) → s'.gens = s.gens → s'.os = s.os → s.heap.objs.size ≤ p →
      s'.heap.get? p = some (seqObj "list" out.toArray c) → EachIs (fun u k => keyV u = some k) out (sortG ltK ks) → Q (.ref p) s') :
    wpAny (model Pg w) A (call (.builtin "sorted") [.ref a]) Q E s := by
  obtain ⟨o, es, ep, t, kk, ho, hex, hd, hp, pm0, nd, hb, hf, hr, hl⟩ := R
  refine Calls.call_function_entry kind_sorted plain_sorted entry_sorted (args_sorted1 _) ?_
  unfold Builtin.«sorted»
  refine wpAny_bind (m := checkCount "sorted" 1 1 _) (wpAny_pure ?_)
  refine wpAny_bind (L2.collect_set (A := A.in1) hh ⟨o, ho, hex.1, hd⟩ hf hb hr hl fun s1 vs k1 hz g1 o1 pm => ?_)
  have hp2 : Paired (fun (u : Value) (k : Key) => keyV u = some k) (es.toList.map (·.2)) kk := by
    clear pm hl hr hb hf hd
    revert hp pm0
    generalize es.toList = l
    intro hp pm0
    clear pm0
    induction hp with
    | nil => exact .nil
    | cons r _ ih => exact .cons r.1 ih
  obtain ⟨k2, hp3, pm2⟩ := paired_perm pm hp2
  have hk2 : k2.Perm ks := pm2.trans pm0
  have hvl : vs.length < scanBound := by
    rw [pm.length_eq, List.length_map, Array.length_toList]; exact hb
  have hvz : vs.length ≤ sizeLine := by
    rw [sizeLine_eq]; unfold scanBound at hvl; omega
  refine wpAny_bind (wpAny_newList ?_ hvz)
  have hoL : (s1.heap.push (seqObj "list" vs.toArray 0)).get? s1.heap.objs.size = some (seqObj "list" vs.toArray 0) := Heap.get?_push_size _ rfl
  have ee := each_of_paired hp3
  refine wpAny_bind (wpAny_holding (list_sort_data (s := { s1 with heap := s1.heap.push (seqObj "list" vs.toArray 0) }) (enc := pdK) hoL ee (ee.mono fun u k h => ⟨[], reads_key h, by simp⟩) ?_ ?_ ?_ ?_ fun out ho eo => ?_))
  · intro d hd' d2 hd2
    obtain ⟨x, hx, rfl⟩ := List.mem_map.mp hd'
    obtain ⟨y, hy, rfl⟩ := List.mem_map.mp hd2
    exact al x (hk2.mem_iff.mp hx) y (hk2.mem_iff.mp hy)
  · refine .inr fun d hd' => ?_
    obtain ⟨x, hx, rfl⟩ := List.mem_map.mp hd'
    cases x <;> simp [pdK, pOfKey, toPD]
  · rw [← EachIs.length ee]; exact hvz
  · intro k _
    have : (pdK k).depth = 0 := by cases k <;> rfl
    rw [this]
    have : A.in1.units = A.units + 1 := rfl
    omega
  · obtain ⟨c, hc⟩ := sortedHeap_at (vs := vs) (out := out.toArray) hoL
    rw [sortG_data] at eo
    have e2 : sortG (fun a b => dataLt (pdK a) (pdK b)) k2 = sortG ltK ks := sortG_same (hk2.nodup_iff.mpr nd) nd fun k => hk2.mem_iff
    rw [e2] at eo
    refine wpAny_pure ⟨_, rfl, hQ _ s1.heap.objs.size out c (fun b u e => ?_) g1 o1 hz hc eo⟩
    have q := k1 b u e
    have hlt := Heap.lt_size q
    show (sortedHeap (s1.heap.push (seqObj "list" vs.toArray 0)) s1.heap.objs.size vs out.toArray).get? b = some u
    rw [sortedHeap_old (Nat.ne_of_lt hlt) (by rw [size_push']; exact Nat.lt_succ_of_lt hlt)]
    exact Heap.get?_push_of_some _ q
end
theorem boot_sorted : bootBuiltins "sorted" = some (.builtin "sorted") := by decide +kernel
theorem repPs_keys {K : PySem.W.Frag} {m : List Addr} {H : Hp} : ∀ ks : List Key, RepPs K m H (ks.map pOfKey) (ks.map vK)
  | [] => RepPs.nil
  | k :: ks => RepPs.cons (repP_key k) (repPs_keys ks)
theorem sortP_len : ∀ l : List P, (sortP l).length = l.length := by
  intro l
  induction l with
  | nil => rfl
  | cons x xs ih =>
    have : ∀ m : List P, (insP x m).length = m.length + 1 := by
      intro m
      induction m with
      | nil => rfl
      | cons y ys ih => unfold insP; split <;> simp [ih]
    show (insP x (sortP xs)).length = _
    rw [this, ih]; rfl
theorem vals_keys : ∀ {us : List Value} {ks : List Key}, EachIs (fun u k => keyV u = some k) us ks → Vals (ks.map vK) us
  | _, _, .nil => .nil
  | _, _, .cons r t => .cons (relV_key r) (vals_keys t)
section
variable {X : Cx} {a : Expr} {xa : XE} {p p2 q pos : Pos}
theorem rd_set {pins : List (Addr × Obj)} {σ : L2.St} {H : Hp} {s : Shared} {m : List Addr} {ds : List P} {v : V} {u : Value} (I : Inv X pins σ H s) (h : RdT X.K m H (.lst ds) v) (hc : setOk ds = true) (r : RelV v u) :
    ∃ (l : Addr) (its : Array Value) (kz : List Key), u = .ref l ∧ s.heap.IsList l its ∧ its.toList.map keyV = kz.map some ∧ kz.length + 1 < scanBound ∧ ds.map keyP = kz.map some ∧ (∀ a ∈ kz, ∀ b ∈ kz, PySem.W.alike (pdK a) (pdK b) = true) := by
  obtain ⟨l, ws, rfl, f, q⟩ := h
  unfold setOk at hc
  simp only [Bool.and_eq_true, decide_eq_true_eq] at hc
  obtain ⟨z, its, n, rv, eo⟩ := f.ok I.hok
  cases r
  obtain ⟨kz, e, al⟩ := keys_of hc.1
  have hl : kz.length = ds.length := by simpa using (congrArg List.length e).symm
  exact ⟨l, its.toArray, kz, rfl, ⟨_, eo, rfl, n, rfl⟩, keysV_rep q rv e, by rw [hl]; unfold scanBound; omega, e, al⟩
theorem xe_sortedSet (hu : X.A.units + 64 < cLine) (hc : X.calm = true) (hg : Gl X "sorted") (hm : X.mg "sorted" = none) (hg2 : Gl X "set") (hm2 : X.mg "set" = none) (ha : PE X a (tOf X.K xa))
    (na : starEach [a] X.env = (false, eval a X.env) :: starEach [] X.env := by rfl) : PE X (.Call (.Name "sorted" p) [.Call (.Name "set" p2) [a] [] q] [] pos) (tOf X.K (xUn uSortedSet xa)) := by
  refine ⟨fun pins s σ H Q I h => ?_⟩
  refine Call_ (ld_blt I hg hm boot_sorted ?_)
  refine PyProof.Rows.callWith_builtin1 (PyProof.Rows.args_cons ?_ rfl) rfl rfl
  refine Call_ (ld_blt I hg2 hm2 boot_set ?_)
  refine PyProof.Rows.callWith_type1 (PyProof.Rows.args_cons (thn (ha.run pins s σ H _ I h.un) fun v s1 ⟨x, H1, I1, r1, q1⟩ => PyProof.Rows.args_nil ?_) na) na rfl
  obtain ⟨m, G, S, ps, r', hS, hp, hf, k⟩ := q1
  unfold uSortedSet at hf
  split at hf
  · rename_i ds
    split at hf
    · rename_i hok
      cases hf
      obtain ⟨l, its, kz, rfl, hl, hk, hb, e, al⟩ := rd_set I1 hp hok r1
      refine setM_call kz (I1.ok.hd hc) hl hk hb fun h' tk hS' hk' => ?_
      refine PyProof.Rows.args_nil ?_
      have I2 : Inv X pins σ H1 { s1 with heap := h', toks := tk } := I1.kept fun b o e => hk' b o e
      have mem := addAll_mem kz
      have nd : (addAll kz).Nodup := by obtain ⟨_, _, _, _, _, _, _, _, _, _, nd, _⟩ := hS'; exact nd
      refine sorted_setM hS' (I2.ok.hd hc) (by omega) (fun a ha b hb => al a ((mem a).mp ha) b ((mem b).mp hb)) fun s' p' out c kk g o hp' hg' eo => ?_
      have er := sorted_keys e al nd mem
      have hn : H1 p' = none := I2.hok.fresh hp'
      have hlen : ((sortG ltK (addAll kz)).map vK).length ≤ sizeLine := by
        rw [List.length_map]
        have h1 := congrArg List.length er
        have h2 := dedup_len e al nd mem
        have h3 := addAll_len kz
        have h4 : (sortG ltK (addAll kz)).length = (addAll kz).length := by rw [← List.length_map (f := pOfKey), h1, sortP_len, h2]
        rw [h4, sizeLine_eq]; unfold scanBound at hb; omega
      have J : Inv X pins σ (upd H1 p' (.lst ((sortG ltK (addAll kz)).map vK))) { s1 with heap := s'.heap, gens := s'.gens, drawn := s'.drawn, toks := s'.toks } :=
        Inv.call (s := { s1 with heap := h', toks := tk }) I2 (ch := []) (Un.laid kk hp' hn) (I2.hok.laid kk hp' ⟨hlen, out, c, vals_keys eo, hg'⟩) (by rw [g]; exact I2.bare) (fun _ z => nomatch z)
      have es : s' = { s1 with heap := s'.heap, gens := s'.gens, drawn := s'.drawn, toks := s'.toks } := by
        cases s'
        cases s1
        cases o
        rfl
      rw [es]
      have rr : RepPs X.K (m ++ G) H1 (sortP (dedupP ds)) ((sortG ltK (addAll kz)).map vK) := by rw [← er]; exact repPs_keys _
      have ex := Ext.new (o := .lst ((sortG ltK (addAll kz)).map vK)) hn
      exact ⟨.ref p', _, J, rfl, k _ _ ex ⟨_, _, rfl, hS.fresh hn, upd_same, RepPs.step (Step.of_ext ex) _ _ rr⟩ (own_new hS hn rr)⟩
    · cases hf
  · cases hf
theorem xe_lenSet (hc : X.calm = true) (hg : Gl X "len") (hm : X.mg "len" = none) (hg2 : Gl X "set") (hm2 : X.mg "set" = none) (ha : PE X a (tOf X.K xa))
    (na : starEach [a] X.env = (false, eval a X.env) :: starEach [] X.env := by rfl) : PE X (.Call (.Name "len" p) [.Call (.Name "set" p2) [a] [] q] [] pos) (tOf X.K (xUn uLenSet xa)) := by
  refine ⟨fun pins s σ H Q I h => ?_⟩
  refine Call_ (ld_blt I hg hm boot_len ?_)
  refine PyProof.Rows.callWith_builtin1 (PyProof.Rows.args_cons ?_ rfl) rfl rfl
  refine Call_ (ld_blt I hg2 hm2 boot_set ?_)
  refine PyProof.Rows.callWith_type1 (PyProof.Rows.args_cons (thn (ha.run pins s σ H _ I h.un) fun v s1 ⟨x, H1, I1, r1, q1⟩ => PyProof.Rows.args_nil ?_) na) na rfl
  obtain ⟨m, G, S, ps, r', hS, hp, hf, k⟩ := q1
  unfold uLenSet at hf
  split at hf
  · rename_i ds
    split at hf
    · rename_i hok
      cases hf
      obtain ⟨l, its, kz, rfl, hl, hk, hb, e, al⟩ := rd_set I1 hp hok r1
      refine setM_call kz (I1.ok.hd hc) hl hk hb fun h' tk hS' hk' => ?_
      refine PyProof.Rows.args_nil ?_
      have I2 : Inv X pins σ H1 { s1 with heap := h', toks := tk } := I1.kept fun b o e => hk' b o e
      have mem := addAll_mem kz
      obtain ⟨o, es, ep, t, kk, ho, hex, hd, hp', pm, nd, hb2, hf2, _, _⟩ := hS'
      have h2 := dedup_len e al nd mem
      have h5 : es.size = (dedupP ds).length := by rw [← h2, ← pm.length_eq, ← paired_len hp', Array.length_toList]
      refine call_len_set ho hex hd hf2 (by unfold scanBound at hb2; omega) ⟨.int es.size, H1, I2.tok _, ⟨_, rfl⟩, k _ H1 (Ext.refl _) (by simp [RepR, RepP, h5]) trivial⟩
    · cases hf
  · cases hf
end
end XL
end
section
set_option Elab.async false
set_option linter.all false
set_option maxRecDepth 100000
set_option maxHeartbeats 1000000
namespace XL
open PySem L2 PyProof.Rows
/-! ### isinstance -/
def pTy : P → String
  | .non => "NoneType"
  | .bl _ => "bool"
  | .int _ => "int"
  | .str _ => "str"
  | .lst _ => "list"
  | .tup _ => "tuple"
theorem rdT_ty {K : PySem.W.Frag} {m : List Addr} {H : Hp} {d : P} {v : V} (h : RdT K m H d v) : TyX K H v (.type (pTy d)) := by
  cases d with
  | non => cases (show v = .non by simpa only [RdT, RepP] using h); exact .base .non
  | bl b => cases (show v = .bl b by simpa only [RdT, RepP] using h); exact .base (.bl _)
  | int b => cases (show v = .int b by simpa only [RdT, RepP] using h); exact .base (.int _)
  | str b => cases (show v = .str ⟨b.toArray⟩ by simpa only [RdT, RepP] using h); exact .base (.str _)
  | lst ds =>
    obtain ⟨a, vs, rfl, f | ⟨o, f⟩, _⟩ := h
    · exact .base (.lst f)
    · exact .base (.frz f)
  | tup ds =>
    simp only [RdT, RepP] at h
    obtain ⟨a, vs, rfl, ⟨f | ⟨o, f⟩, _⟩ | ⟨o, its, n, f, c, _⟩, _⟩ := h
    · exact .base (.tup f)
    · exact .fTuple f
    · exact .kTuple f c
theorem boot_isinstance : bootBuiltins "isinstance" = some (.builtin "isinstance") := by decide +kernel
theorem boot_int : bootBuiltins "int" = some (.type "int") := by decide +kernel
theorem boot_bool : bootBuiltins "bool" = some (.type "bool") := by decide +kernel
theorem boot_tuple : bootBuiltins "tuple" = some (.type "tuple") := by decide +kernel
theorem boot_str : bootBuiltins "str" = some (.type "str") := by decide +kernel
theorem boot_list : bootBuiltins "list" = some (.type "list") := by decide +kernel
theorem isi_int (d : P) : kitB (pTy d) "int" = some (isiInt d) := by cases d <;> (simp only [pTy, isiInt, isiBool, isiTuple, isiStr]; decide +kernel)
theorem isi_bool (d : P) : kitB (pTy d) "bool" = some (isiBool d) := by cases d <;> (simp only [pTy, isiInt, isiBool, isiTuple, isiStr]; decide +kernel)
theorem isi_tuple (d : P) : kitB (pTy d) "tuple" = some (isiTuple d) := by cases d <;> (simp only [pTy, isiInt, isiBool, isiTuple, isiStr]; decide +kernel)
theorem isi_str (d : P) : kitB (pTy d) "str" = some (isiStr d) := by cases d <;> (simp only [pTy, isiInt, isiBool, isiTuple, isiStr]; decide +kernel)
section
variable {X : Cx} {a : Expr} {xa : XE} {p p2 pos : Pos} {c : Str} {T : String} {f : P → Bool}
theorem xe_isi (hg : Gl X "isinstance") (hm : X.mg "isinstance" = none) (hg2 : Gl X c) (hm2 : X.mg c = none) (hT : bootBuiltins c = some (.type T)) (hf : ∀ d, kitB (pTy d) T = some (f d)) (ha : PE X a (tOf X.K xa))
    (hn : c ≠ "__name__" := by decide) (hdb : (c == ("__debug__" : Str)) = false := by decide)
    (he : starEach (a :: [Expr.Name c p2]) X.env = (false, eval a X.env) :: starEach [Expr.Name c p2] X.env := by rfl) : PE X (.Call (.Name "isinstance" p) [a, .Name c p2] [] pos) (tOf X.K (xUn (pIsi f) xa)) := by
  have hb : PE X (.Name c p2) (tC (.ty T)) := pe_bltn hg2 hm2 hT rfl hn hdb
  have hA : PA X [a, .Name c p2] (tCons (tOf X.K xa) (tCons (tC (.ty T)) tNil)) := pa_cons ha (pa_cons hb pa_nil rfl) he
  refine PE.imp (pe_callB call_isi hg hm boot_isinstance hA (he := he)) fun σ H Q h => ?_
  have h' := h.un
  obtain ⟨m, G, ρ, S, r, S', hE, hS, hx, k⟩ := h'
  refine ⟨m, G, ρ, S, r, S', hE, hS, hx, fun v m' H' s1 hS1 q1 o1 => ?_⟩
  obtain ⟨m2, G2, S2, d, r2, hS2, hd, hf2, k2⟩ := k v m' H' s1 hS1 q1 o1
  cases hf2
  exact ⟨v, .ty T, .type (pTy d), .type T, f d, rfl, .ty T, rdT_ty hd, kit_ty (hf d), k2 _ H' (Ext.refl _) (by simp [RepR, RepP]) trivial⟩
end
end XL
end
section
set_option Elab.async false
set_option linter.all false
set_option maxRecDepth 100000
set_option maxHeartbeats 1000000
namespace XL
open PySem L2 PyProof.Rows
/-! ### methods that read -/
def mOf (K : PySem.W.Frag) (f : P → List P → Option R) : V → List V → Hp → VK → Prop := fun x xs H Q => ∃ m G S p ps r, RepSt K G m S H ∧ RdT K (m ++ G) H p x ∧ RdTs K (m ++ G) H ps xs ∧ f p ps = some r ∧ ∀ v H', Ext H H' → RepR K G m H' r v → Own K H G m H' S r v → Q v H'
def tyN : Ty → String
  | .str => "str"
  | .lst => "list"
theorem ty_rd {K : PySem.W.Frag} {m : List Addr} {H : Hp} {p : P} {v : V} {ty : Ty} (h : RdT K m H p v) (e : isTy ty p = true) : tyV K (tyN ty) v H := by
  cases ty <;> cases p <;> simp [isTy] at e
  · simp only [RdT, RepP] at h; subst h; rfl
  · obtain ⟨a, vs, rfl, f, q⟩ := h
    exact .inl ⟨rfl, vs, .inl f⟩
section
variable {X : Cx} {o e : Expr} {es : List Expr} {xo : XE} {xs : XA} {name : Str} {apos cpos : Pos} {ty : Ty} {id : String} {f : P → List P → Option R}
theorem xe_meth (pa : PlainAttrs (tyN ty)) (slot : Slot (tyN ty) name id) (hty : typeOf (.builtin id) = pure (.type "method_descriptor")) (hm : MtR X id (mOf X.K f)) (ho : PE X o (tOf X.K xo)) (ha : PA X (e :: es) (tOfA X.K xs))
    (hbase : attributeBase o name X.env (eval o X.env) = eval o X.env := by rfl)
    (hfew : ((backTo cpos (starEach (e :: es) X.env)).all (fun x => !x.1) && (backToKw cpos (keywordEach [] X.env)).all (fun x => x.1.isSome)
      && decide ((e :: es).length + ([] : List Keyword).length + (if ([] : List Keyword).isEmpty then 0 else 1) < 30)) = true := by rfl)
    (hline : (apos.endLine == cpos.line) = true := by rfl) (hs : starEach (e :: es) X.env = (false, eval e X.env) :: starEach es X.env := by rfl) (hplain : (backTo cpos (starEach es X.env)).any (·.1) = false := by rfl) :
    PE X (.Call (.Attribute o name apos) (e :: es) [] cpos) (tOf X.K (xMeth ty f xo xs)) :=
  PE.imp (pe_bm pa slot hty hm ho ha hbase hfew hline hs hplain) fun σ H Q h => by
    obtain ⟨m, G, ρ, S, r, S', hE, hS, hx, k⟩ := h
    simp only [xMeth, Option.bind_eq_some_iff, Option.map_eq_some_iff] at hx
    obtain ⟨⟨r1, S1⟩, h1, p0, hp0, hx⟩ := hx
    split at hx
    · rename_i hi
      simp only [Option.bind_eq_some_iff, Option.map_eq_some_iff] at hx
      obtain ⟨⟨rs, S2⟩, h2, p, hp, ps, hps, r', hf, e⟩ := hx
      cases e
      refine ⟨m, G, ρ, S, r1, S1, hE, hS, h1, fun v1 m1 H1 s1 hS1 q1 _ => ⟨ty_rd (q1.rd hS1 hp0) hi, m1, G, ρ, S1, rs, S2, hE.step s1, hS1, h2, fun vs m2 H2 s2 hS2 q2 => ?_⟩⟩
      refine ⟨m2, G, S2, p, ps, _, hS2, (q1.step s2).rd hS2 hp, q2.rds hS2 hps, hf, fun v H' e q o => ?_⟩
      exact k v m2 H' ((s1.trans s2).trans (Step.of_ext e)) (hS2.ext e) q (o.back (s1.trans s2).dom)
    · cases hx
theorem xe_meth0 (pa : PlainAttrs (tyN ty)) (slot : Slot (tyN ty) name id) (hty : typeOf (.builtin id) = pure (.type "method_descriptor")) (hm : MtR X id (mOf X.K f)) (ho : PE X o (tOf X.K xo))
    (hbase : attributeBase o name X.env (eval o X.env) = eval o X.env := by rfl) (hline : (apos.endLine == cpos.line) = true := by rfl) : PE X (.Call (.Attribute o name apos) [] [] cpos) (tOf X.K (xMeth ty f xo xNil)) :=
  PE.imp (pe_bm0 pa slot hty hm ho hbase hline) fun σ H Q h => by
    obtain ⟨m, G, ρ, S, r, S', hE, hS, hx, k⟩ := h
    simp only [xMeth, Option.bind_eq_some_iff, Option.map_eq_some_iff] at hx
    obtain ⟨⟨r1, S1⟩, h1, p0, hp0, hx⟩ := hx
    split at hx
    · rename_i hi
      simp only [Option.bind_eq_some_iff, Option.map_eq_some_iff] at hx
      obtain ⟨⟨rs, S2⟩, h2, p, hp, ps, hps, r', hf, e⟩ := hx
      cases e
      cases h2
      cases hps
      refine ⟨m, G, ρ, S, r1, S1, hE, hS, h1, fun v1 m1 H1 s1 hS1 q1 _ => ⟨ty_rd (q1.rd hS1 hp0) hi, m1, G, S1, p, [], _, hS1, q1.rd hS1 hp, rfl, hf, fun v H' e q o => ?_⟩⟩
      exact k v m1 H' (s1.trans (Step.of_ext e)) (hS1.ext e) q (o.back s1.dom)
    · cases hx
end
section
variable {X : Cx}
theorem mtr_imp {id : String} {f : P → List P → Option R} {r : V → List V → Hp → VK → Prop} (h : MtR X id r) (w : ∀ v vs H Q, mOf X.K f v vs H Q → r v vs H Q) : MtR X id (mOf X.K f) := fun pins s σ H x xs v us Q I rx rv q => h pins s σ H x xs v us Q I rx rv (w x xs H Q q)
theorem idxIn_some {x : P} : ∀ {ds : List P} {j : Nat}, idxIn x ds = some j → ∃ z, ds[j]? = some z ∧ P.pyeq z x = true ∧ ∀ (m : Nat) (z' : P), m < j → ds[m]? = some z' → P.pyeq z' x = false
  | [], j, h => by simp [idxIn] at h
  | y :: ys, j, h => by
    unfold idxIn at h
    split at h
    · rename_i c
      cases h
      exact ⟨y, rfl, c, fun m z' hm => absurd hm (Nat.not_lt_zero _)⟩
    · rename_i c
      simp only [Option.map_eq_some_iff] at h
      obtain ⟨i, hi, rfl⟩ := h
      obtain ⟨z, h1, h2, h3⟩ := idxIn_some hi
      refine ⟨z, by simpa using h1, h2, fun m z' hm hz => ?_⟩
      cases m with
      | zero => simp at hz; subst hz; simpa using c
      | succ m => exact h3 m z' (by omega) (by simpa using hz)
theorem mt_indexX (hu : X.A.units + 65 < cLine) : MtR X "list.index" (mOf X.K mIndex) := mtr_imp (mt_indexD hu) fun v vs H Q h => by
  obtain ⟨m, G, S, p, ps, r, hS, hp, hps, hf, k⟩ := h
  unfold mIndex at hf
  split at hf
  · rename_i ds x
    split at hf
    · rename_i hc
      simp only [Option.map_eq_some_iff] at hf
      obtain ⟨j, hj, rfl⟩ := hf
      simp only [Bool.and_eq_true] at hc
      obtain ⟨y, rfl, hy⟩ := one_arg hps
      obtain ⟨z, h1, h2, h3⟩ := idxIn_some hj
      have hd := hp.dp
      obtain ⟨a, ws, rfl, f, q⟩ := hp
      simp only [toPD] at hd
      refine ⟨a, y, toPD x, toPDs ds, j, toPD z, rfl, rfl, hd, hy.dp, ?_, fit_shaped hc.1, ?_, by rw [eqv_pyeq]; exact h2, fun m z' hm hz => ?_, k _ H (Ext.refl _) (by simp [RepR, RepP]) trivial⟩
      · have := fit_shaped hc.2
        simpa only [toPD] using this
      · rw [toPDs_map, List.getElem?_map, h1]; rfl
      · rw [toPDs_map, List.getElem?_map] at hz
        cases q2 : ds[m]? with
        | none => rw [q2] at hz; cases hz
        | some w => rw [q2] at hz; cases hz; rw [eqv_pyeq]; exact h3 m w hm q2
    · cases hf
  · cases hf
theorem mt_lowerX : MtR X "str.lower" (mOf X.K mLower) := mtr_imp mt_lower fun v vs H Q h => by
  obtain ⟨m, G, S, p, ps, r, hS, hp, hps, hf, k⟩ := h
  unfold mLower at hf
  split at hf
  · rename_i s
    split at hf
    · rename_i hc
      cases hf
      simp only [RdT, RepP] at hp
      subst hp
      cases hps
      refine ⟨_, rfl, rfl, by simp only [Str.length, List.size_toArray]; omega, ?_⟩
      rw [lower_ascii (x := ⟨s.toArray⟩) (fun c hc' => by have := (List.all_eq_true.mp hc.2) c (by simpa using hc'); simpa using this)]
      refine k _ H (Ext.refl _) ?_ trivial
      show _ = _
      simp [RepP, lowC, lo1]
    · cases hf
  · cases hf
theorem joinT_is (a : List Nat) : ∀ ys : List (List Nat), (Txt.join ⟨a.toArray⟩ (ys.map fun y => (⟨y.toArray⟩ : Str))) = ⟨(joinT a ys).toArray⟩ := by
  intro ys
  have e : ∀ ys : List (List Nat), Str.join ⟨a.toArray⟩ (ys.map fun y => (⟨y.toArray⟩ : Str)) = ⟨(joinT a ys).toArray⟩ := by
    intro ys
    induction ys with
    | nil => rfl
    | cons y ys ih =>
      cases ys with
      | nil => rfl
      | cons z zs =>
        show ((⟨y.toArray⟩ : Str) ++ (⟨a.toArray⟩ : Str)) ++ Str.join ⟨a.toArray⟩ ((z :: zs).map fun y => (⟨y.toArray⟩ : Str)) = _
        rw [ih]
        show (⟨_⟩ : Str) = _
        simp [joinT, Str.cps_append]
  unfold Txt.join
  rw [StrLaws.glued_eq_join]
  exact e ys
theorem reps_strs {K : PySem.W.Frag} {m : List Addr} {H : Hp} : ∀ {ds : List P} {vs : List V} {ts : List (List Nat)}, RepPs K m H ds vs → strsOf ds = some ts → vs = (ts.map fun y => (⟨y.toArray⟩ : Str)).map V.str
  | [], vs, ts, h, e => by
    simp only [RepPs] at h; subst h; cases e; rfl
  | d :: ds, vs, ts, h, e => by
    simp only [RepPs] at h
    obtain ⟨v, w, rfl, h1, h2⟩ := h
    cases d <;> simp [strsOf] at e
    obtain ⟨bs, e2, rfl⟩ := e
    simp only [RepP] at h1
    subst h1
    rw [reps_strs h2 e2]; rfl
theorem mt_joinX : MtR X "str.join" (mOf X.K mJoin) := mtr_imp mt_join fun v vs H Q h => by
  obtain ⟨m, G, S, p, ps, r, hS, hp, hps, hf, k⟩ := h
  unfold mJoin at hf
  have fin : ∀ (s : List Nat) (ts : List (List Nat)) (a : Addr), RdT X.K (m ++ G) H (.str s) v → vs = [.ref a] → (SqL X.K H a ((ts.map fun y => (⟨y.toArray⟩ : Str)).map V.str) ∨ SqT X.K H a ((ts.map fun y => (⟨y.toArray⟩ : Str)).map V.str)) →
      (ts.map (·.length)).sum + ts.length * s.length ≤ big → r = .p (.str (joinT s ts)) → ∃ a p, ∃ ys : List Str, v = .str a ∧ vs = [.ref p] ∧ (SqL X.K H p (ys.map V.str) ∨ SqT X.K H p (ys.map V.str)) ∧
    (ys.map (·.length)).sum + ys.length * a.length ≤ 16777216 ∧ Q (.str (Txt.join a ys)) H := fun s ts a hp e hs hz er => by
    simp only [RdT, RepP] at hp
    refine ⟨_, a, _, hp, e, hs, ?_, ?_⟩
    · have : (ts.map fun y => (⟨y.toArray⟩ : Str)).map (·.length) = ts.map (·.length) := by simp [Str.length]
      rw [this, List.length_map]
      simp only [Str.length, List.size_toArray]
      have : big ≤ 16777216 := by decide
      omega
    · rw [joinT_is]
      subst er
      exact k _ H (Ext.refl _) (by simp [RepR, RepP]) trivial
  split at hf
  · simp only [Option.bind_eq_some_iff] at hf
    obtain ⟨ts, ht, hf⟩ := hf
    split at hf
    · rename_i hz
      cases hf
      obtain ⟨w, rfl, a, ws, rfl, f, q⟩ := one_arg hps
      have := reps_strs q ht
      subst this
      exact fin _ ts a hp rfl (.inl (.inl f)) hz rfl
    · cases hf
  · simp only [Option.bind_eq_some_iff] at hf
    obtain ⟨ts, ht, hf⟩ := hf
    split at hf
    · rename_i hz
      cases hf
      obtain ⟨w, rfl, q⟩ := one_arg hps
      simp only [RdT, RepP] at q
      obtain ⟨a, ws, rfl, f, q⟩ := q
      have := reps_strs q ht
      subst this
      exact fin _ ts a hp rfl (.inr f.sq) hz rfl
    · cases hf
  · cases hf
end
end XL
end
section
set_option Elab.async false
set_option linter.all false
set_option maxRecDepth 100000
set_option maxHeartbeats 1000000
namespace XL
open PySem L2 PyProof.Rows
/-! ### stores to cells -/
section
variable {K : PySem.W.Frag} {G m : List Addr} {H : Hp} {S : Sto}
theorem Step.write {a : Addr} {o : HO} (ha : a ∈ m) : Step m H m (upd H a o) :=
  ⟨⟨[], by simp, fun _ h => by cases h⟩, fun b u h hb => by
    have : b ≠ a := fun z => hb (z ▸ ha)
    rw [upd_ne this]; exact h, fun b h => by
    by_cases e : b = a
    · subst e; rw [upd_same] at h; cases h
    · rw [upd_ne e] at h; exact h⟩
theorem RepSt.put (hS : RepSt K G m S H) {l : Nat} {a : Addr} {ds : List P} {vs : List V} (hl : m[l]? = some a) (q : RepPs K (m ++ G) H ds vs) : RepSt K G m (S.set l (.lst ds)) (upd H a (.lst vs)) := by
  have ha : a ∈ m := List.mem_of_getElem? hl
  have st : Step m H m (upd H a (.lst vs)) := Step.write ha
  have hlm : l < m.length := (List.getElem?_eq_some_iff.mp hl).1
  refine ⟨by rw [List.length_set]; exact hS.len, hS.nd, fun j b c hj hc => ?_, fun b hb => ⟨?_, (hS.gd b hb).2⟩⟩
  · by_cases e : j = l
    · subst e
      rw [hl] at hj
      cases hj
      rw [List.getElem?_set_self (by rw [← hS.len]; exact hlm)] at hc
      cases hc
      exact ⟨vs, upd_same, RepPs.step st _ _ q⟩
    · rw [List.getElem?_set_ne (Ne.symm e)] at hc
      have hne : b ≠ a := fun z => by
        subst z
        exact e ((List.getElem?_inj (List.getElem?_eq_some_iff.mp hj).1 hS.nd).mp (hj.trans hl.symm))
      have := hS.cell j b c hj hc
      cases c with
      | lst ds' =>
        obtain ⟨vs', h1, h2⟩ := this
        exact ⟨vs', by rw [upd_ne hne]; exact h1, RepPs.step st _ _ h2⟩
      | dct _ _ => exact this.elim
  · intro z
    exact (hS.gd b hb).1 (st.dom b z)
theorem repPs_set : ∀ {ds : List P} {vs : List V} {j : Nat} {d : P} {v : V}, RepPs K m H ds vs → RepP K m H d v → RepPs K m H (ds.set j d) (vs.set j v)
  | [], vs, j, d, v, h, q => by simp only [RepPs] at h; subst h; exact RepPs.nil
  | e :: ds, vs, j, d, v, h, q => by
    simp only [RepPs] at h
    obtain ⟨u, w, rfl, h1, h2⟩ := h
    cases j with
    | zero => exact RepPs.cons q h2
    | succ j => exact RepPs.cons h1 (repPs_set h2 q)
theorem repPs_last : ∀ {ds : List P} {vs : List V} {d : P}, RepPs K m H ds vs → ds.getLast? = some d → ∃ v, vs[vs.length - 1]? = some v ∧ RepP K m H d v := by
  intro ds vs d h e
  rw [List.getLast?_eq_getElem?] at e
  obtain ⟨v, h1, h2⟩ := RepPs.get h e
  rw [h.length] at h1
  exact ⟨v, h1, h2⟩
theorem repPs_init : ∀ {ds : List P} {vs : List V}, RepPs K m H ds vs → RepPs K m H ds.dropLast vs.dropLast
  | [], vs, h => by simp only [RepPs] at h; subst h; exact RepPs.nil
  | [d], vs, h => by
    simp only [RepPs] at h
    obtain ⟨u, w, rfl, h1, rfl⟩ := h
    exact RepPs.nil
  | d :: e :: ds, vs, h => by
    simp only [RepPs] at h
    obtain ⟨u, w, rfl, h1, u2, w2, rfl, h2, h3⟩ := h
    show RepPs K m H (d :: (e :: ds).dropLast) (u :: (u2 :: w2).dropLast)
    exact RepPs.cons h1 (repPs_init (RepPs.cons h2 h3))
end
theorem type_list_extend : typeOf (.builtin "list.extend") = pure (.type "method_descriptor") := PySem.F.type_list_extend
theorem type_list_pop : typeOf (.builtin "list.pop") = pure (.type "method_descriptor") := PySem.F.type_list_pop
section
variable {X : Cx} {o e : Expr} {xo xa : XE} {apos cpos : Pos}
/-- what o.append(e) etc. stand on -/
theorem cell_of {K : PySem.W.Frag} {G m : List Addr} {S : Sto} {H : Hp} {l : Nat} {v : V} {ds : List P} (hS : RepSt K G m S H) (q : RepR K G m H (.ref l) v) (hc : S[l]? = some (.lst ds)) : ∃ a vs, v = .ref a ∧ m[l]? = some a ∧ H a = some (.lst vs) ∧ RepPs K (m ++ G) H ds vs := by
  obtain ⟨a, rfl, hl⟩ := q
  obtain ⟨vs, h1, h2⟩ := hS.cell l a _ hl hc
  exact ⟨a, vs, rfl, hl, h1, h2⟩
theorem xe_append (ho : PE X o (tOf X.K xo)) (ha : PE X e (tOf X.K xa))
    (hbase : attributeBase o "append" X.env (eval o X.env) = eval o X.env := by rfl)
    (hfew : ((backTo cpos (starEach [e] X.env)).all (fun x => !x.1) && (backToKw cpos (keywordEach [] X.env)).all (fun x => x.1.isSome)
      && decide ([e].length + ([] : List Keyword).length + (if ([] : List Keyword).isEmpty then 0 else 1) < 30)) = true := by rfl)
    (hline : (apos.endLine == cpos.line) = true := by rfl) (hs : starEach [e] X.env = (false, eval e X.env) :: starEach [] X.env := by rfl) (hplain : (backTo cpos (starEach [] X.env)).any (·.1) = false := by rfl) :
    PE X (.Call (.Attribute o "append" apos) [e] [] cpos) (tOf X.K (xApp xo xa)) :=
  PE.imp (pe_bm PySem.F.plainAttrs_list PySem.F.slot_list_append PySem.F.type_list_append (r := rAppend) mt_append ho (pa_cons ha pa_nil hs) hbase hfew hline hs hplain) fun σ H Q h => by
    obtain ⟨m, G, ρ, S, r, S', hE, hS, hx, k⟩ := h
    simp only [xApp, Option.bind_eq_some_iff] at hx
    obtain ⟨⟨r1, S1⟩, h1, ⟨r2, S2⟩, h2, hx⟩ := hx
    split at hx
    · rename_i l e1
      simp only at e1
      subst e1
      split at hx
      · rename_i ds hc
        simp only [Option.bind_eq_some_iff] at hx
        obtain ⟨d, hd, hx⟩ := hx
        split at hx
        · rename_i hz
          cases hx
          refine ⟨m, G, ρ, S, _, S1, hE, hS, h1, fun v1 m1 H1 s1 hS1 q1 _ => ⟨?_, m1, G, ρ, S1, r2, S2, hE.step s1, hS1, h2, fun v2 m2 H2 s2 hS2 q2 _ => ?_⟩⟩
          · obtain ⟨a, rfl, hl⟩ := q1
            have hl1 : l < S1.length := by rw [← hS1.len]; exact (List.getElem?_eq_some_iff.mp hl).1
            have := hS1.cell l a _ hl (List.getElem?_eq_getElem hl1)
            cases c : S1[l] with
            | lst ds' => rw [c] at this; obtain ⟨vs, h1, _⟩ := this; exact .inl ⟨rfl, vs, .inl (.inl h1)⟩
            | dct _ _ => rw [c] at this; exact this.elim
          · obtain ⟨a, vs, rfl, hl, hH, hq⟩ := cell_of hS2 (q1.step s2) hc
            refine ⟨a, vs, v2, rfl, rfl, hH, ?_, ?_⟩
            · rw [← hq.length]; exact Nat.lt_of_lt_of_le hz (by decide)
            · have st : Step m2 H2 m2 (upd H2 a (.lst (vs ++ [v2]))) := Step.write (List.mem_of_getElem? hl)
              exact k .non m2 _ ((s1.trans s2).trans st) (hS2.put hl (hq.append (RepPs.one (q2.fz hd)))) (by simp [RepR, RepP]) trivial
        · cases hx
      · cases hx
    · cases hx
theorem xe_extend (ho : PE X o (tOf X.K xo)) (ha : PE X e (tOf X.K xa))
    (hbase : attributeBase o "extend" X.env (eval o X.env) = eval o X.env := by rfl)
    (hfew : ((backTo cpos (starEach [e] X.env)).all (fun x => !x.1) && (backToKw cpos (keywordEach [] X.env)).all (fun x => x.1.isSome)
      && decide ([e].length + ([] : List Keyword).length + (if ([] : List Keyword).isEmpty then 0 else 1) < 30)) = true := by rfl)
    (hline : (apos.endLine == cpos.line) = true := by rfl) (hs : starEach [e] X.env = (false, eval e X.env) :: starEach [] X.env := by rfl) (hplain : (backTo cpos (starEach [] X.env)).any (·.1) = false := by rfl) :
    PE X (.Call (.Attribute o "extend" apos) [e] [] cpos) (tOf X.K (xExt xo xa)) :=
  PE.imp (pe_bm PySem.F.plainAttrs_list PySem.F.slot_list_extend type_list_extend (r := rExtend) mt_extend ho (pa_cons ha pa_nil hs) hbase hfew hline hs hplain) fun σ H Q h => by
    obtain ⟨m, G, ρ, S, r, S', hE, hS, hx, k⟩ := h
    simp only [xExt, Option.bind_eq_some_iff] at hx
    obtain ⟨⟨r1, S1⟩, h1, ⟨r2, S2⟩, h2, hx⟩ := hx
    split at hx
    · rename_i l e1
      simp only at e1
      subst e1
      split at hx
      · rename_i ds hc
        split at hx
        · rename_i es e2
          simp only at e2
          subst e2
          split at hx
          · rename_i hz
            cases hx
            refine ⟨m, G, ρ, S, _, S1, hE, hS, h1, fun v1 m1 H1 s1 hS1 q1 _ => ⟨?_, m1, G, ρ, S1, _, S2, hE.step s1, hS1, h2, fun v2 m2 H2 s2 hS2 q2 _ => ?_⟩⟩
            · obtain ⟨a, rfl, hl⟩ := q1
              have hl1 : l < S1.length := by rw [← hS1.len]; exact (List.getElem?_eq_some_iff.mp hl).1
              have := hS1.cell l a _ hl (List.getElem?_eq_getElem hl1)
              cases c : S1[l] with
              | lst ds' => rw [c] at this; obtain ⟨vs, h1, _⟩ := this; exact .inl ⟨rfl, vs, .inl (.inl h1)⟩
              | dct _ _ => rw [c] at this; exact this.elim
            · obtain ⟨a, vs, rfl, hl, hH, hq⟩ := cell_of hS2 (q1.step s2) hc
              obtain ⟨b, ws, rfl, hb, hB, hw⟩ := q2
              refine ⟨a, b, vs, ws, rfl, rfl, hH, hB, ?_, ?_⟩
              · rw [← hq.length, ← hw.length]; exact Nat.le_trans hz (by decide)
              · have st : Step m2 H2 m2 (upd H2 a (.lst (vs ++ ws))) := Step.write (List.mem_of_getElem? hl)
                exact k .non m2 _ ((s1.trans s2).trans st) (hS2.put hl (hq.append hw)) (by simp [RepR, RepP]) trivial
          · cases hx
        · cases hx
      · cases hx
    · cases hx
theorem xe_pop (ho : PE X o (tOf X.K xo))
    (hbase : attributeBase o "pop" X.env (eval o X.env) = eval o X.env := by rfl) (hline : (apos.endLine == cpos.line) = true := by rfl) :
    PE X (.Call (.Attribute o "pop" apos) [] [] cpos) (tOf X.K (xPop xo)) :=
  PE.imp (pe_bm0 PySem.F.plainAttrs_list PySem.F.slot_list_pop type_list_pop (r := rPop) mt_pop ho hbase hline) fun σ H Q h => by
    obtain ⟨m, G, ρ, S, r, S', hE, hS, hx, k⟩ := h
    simp only [xPop, Option.bind_eq_some_iff] at hx
    obtain ⟨⟨r1, S1⟩, h1, hx⟩ := hx
    split at hx
    · rename_i l e1
      simp only at e1
      subst e1
      split at hx
      · rename_i ds hc
        split at hx
        · rename_i d hd
          cases hx
          refine ⟨m, G, ρ, S, _, S1, hE, hS, h1, fun v1 m1 H1 s1 hS1 q1 _ => ?_⟩
          obtain ⟨a, vs, rfl, hl, hH, hq⟩ := cell_of hS1 q1 hc
          obtain ⟨y, hy, ry⟩ := repPs_last hq hd
          have st : Step m1 H1 m1 (upd H1 a (.lst vs.dropLast)) := Step.write (List.mem_of_getElem? hl)
          exact ⟨.inl ⟨rfl, vs, .inl (.inl hH)⟩, a, vs, y, rfl, rfl, hH, hy, k y m1 _ (s1.trans st) (hS1.put hl (repPs_init hq)) (RepP.step st _ _ ry) trivial⟩
        · cases hx
      · cases hx
    · cases hx
theorem ixP_N {n : Nat} {i : Int} {j : Nat} (h : ixP n i = some j) : ixN n i = some j := by
  unfold ixP at h
  unfold ixN
  split at h
  · rename_i c
    rw [if_pos c]
    split at h
    · rename_i c2; rw [if_pos (by omega)]; exact h
    · cases h
  · rename_i c
    rw [if_neg c]
    split at h
    · rename_i c2
      rw [if_pos (by omega)]
      cases h
      congr 1
      omega
    · cases h
theorem xs_putL {i : Expr} {xi : XE} {pos tpos : Pos} (he : PE X e (tOf X.K xa)) (ho : PE X o (tOf X.K xo)) (hi : PE X i (tOf X.K xi))
    (hs : swapsWithSole [.Subscript o i tpos] e pos.line X.env = pure false := by rfl) (hw : swappedStores [.Subscript o i tpos] e X.env = pure none := by rfl)
    (h1 : (assignEach [.Subscript o i tpos] X.env).map (·.2) = [assign (.Subscript o i tpos) X.env] := by rfl)
    (hasg : ∀ v, assign (.Subscript o i tpos) X.env v = (do
      let ov ← holding [v] (eval o X.env)
      let iv ← holding [v, ov] (eval i X.env)
      standAt tpos
      holding [v, ov, iv] (setItem ov iv v)
      release [v, ov, iv] []) := by intro _; rfl) : PS X (.Assign [.Subscript o i tpos] e pos) (tOfS X.K (xPutL xa xo xi)) :=
  PS.imp (ps_asg he (pg_sub ho hi set_list hasg) hs hw h1) fun D σ H h => by
    obtain ⟨m, G, ρ, S, fl, S', hE, hS, hx, k⟩ := h
    simp only [xPutL, Option.bind_eq_some_iff] at hx
    obtain ⟨⟨r0, S0⟩, h0, ⟨r1, S1⟩, h1, ⟨r2, S2⟩, h2, hx⟩ := hx
    split at hx
    · rename_i l j e1 e2
      simp only at e1 e2
      subst e1 e2
      split at hx
      · rename_i ds hc
        simp only [Option.bind_eq_some_iff, Option.map_eq_some_iff] at hx
        obtain ⟨d, hd, n, hn, e⟩ := hx
        cases e
        refine ⟨m, G, ρ, S, r0, S0, hE, hS, h0, fun v0 m0 H0 s0 hS0 q0 _ => ⟨m0, G, ρ, S0, _, S1, hE.step s0, hS0, h1, fun v1 m1 H1 s1 hS1 q1 _ => ⟨m1, G, ρ, S1, _, S2, (hE.step s0).step s1, hS1, h2, fun v2 m2 H2 s2 hS2 q2 _ => ?_⟩⟩⟩
        obtain ⟨a, vs, rfl, hl, hH, hq⟩ := cell_of hS2 (q1.step s2) hc
        have q2' : v2 = .int j := by simpa only [RepR, RepP] using q2
        subst q2'
        have st : Step m2 H2 m2 (upd H2 a (.lst (vs.set n v0))) := Step.write (List.mem_of_getElem? hl)
        refine ⟨a, vs, j, n, rfl, rfl, hH, by rw [← hq.length]; exact ixP_N hn, ?_⟩
        exact k σ m2 _ (((s0.trans s1).trans s2).trans st) (hS2.put hl (repPs_set hq ((q0.step (s1.trans s2)).fz hd))) ((((hE.step s0).step s1).step s2).step st)
      · cases hx
    · cases hx
end
end XL
end
section
set_option Elab.async false
set_option linter.all false
set_option maxRecDepth 100000
set_option maxHeartbeats 1000000
namespace XL
open PySem L2 PyProof.Rows
/-! ### list(range(n)) -/
theorem repPs_rng {K : PySem.W.Frag} {m : List Addr} {H : Hp} (f : Nat → Int) : ∀ l : List Nat, RepPs K m H (l.map fun i => P.int (f i)) (l.map fun i => V.int (f i))
  | [] => RepPs.nil
  | k :: ks => RepPs.cons (by simp [RepP]) (repPs_rng f ks)
section
variable {X : Cx} {a : Expr} {xa : XE} {p p2 q pos : Pos}
theorem xe_listRng (hc : X.calm = true) (hg : Gl X "list") (hm : X.mg "list" = none) (hg2 : Gl X "range") (hm2 : X.mg "range" = none) (ha : PE X a (tOf X.K xa))
    (na : starEach [a] X.env = (false, eval a X.env) :: starEach [] X.env := by rfl) : PE X (.Call (.Name "list" p) [.Call (.Name "range" p2) [a] [] q] [] pos) (tOf X.K (xUn uListRng xa)) :=
  PE.imp (pe_listRg hc hg hm (prg_1 hg2 hm2 ha na)) fun σ H Q h => by
    obtain ⟨m, G, ρ, S, r, S', hE, hS, hx, k⟩ := h.un
    refine ⟨m, G, ρ, S, r, S', hE, hS, hx, fun v m' H' s1 hS1 q1 o1 => ?_⟩
    obtain ⟨m2, G2, S2, d, r2, hS2, hd, hf2, k2⟩ := k v m' H' s1 hS1 q1 o1
    unfold uListRng at hf2
    split at hf2
    · rename_i n
      split at hf2
      · rename_i hb
        cases hf2
        simp only [RdT, RepP] at hd
        subst hd
        have hbg : (big : Int) = 1000000 := rfl
        refine ⟨n, rfl, ⟨by omega, by omega, by omega, by omega, by omega⟩, fun q' hq' => ?_⟩
        have rr : RepPs X.K (m2 ++ G2) H' ((List.range n.toNat).map fun i => P.int (i : Nat)) (rgV 0 n) := by
          unfold rgV
          have : (n - 0).toNat = n.toNat := by rw [Int.sub_zero]
          rw [this]
          have e2 : (fun i : Nat => V.int (0 + (i : Nat))) = fun i : Nat => V.int ((i : Nat) : Int) := by funext i; rw [Int.zero_add]
          rw [e2]
          exact repPs_rng (fun i => (i : Int)) _
        have ex := Ext.new (o := .lst (rgV 0 n)) hq'
        exact k2 _ _ ex ⟨_, _, rfl, hS2.fresh hq', upd_same, RepPs.step (Step.of_ext ex) _ _ rr⟩ (own_new hS2 hq' rr)
      · cases hf2
    · cases hf2
end
/-! ### tables of the module: texts as keys -/
def KRep (K : PySem.W.Frag) (p : P) (u : Value) : Prop := ∃ v, RelV v u ∧ ∀ m H, RepP K m H p v
theorem KRep.str {K : PySem.W.Frag} {s : List Nat} {x : Str} {t : Tok} (h : x = ⟨s.toArray⟩) : KRep K (.str s) (.str x t) := ⟨.str ⟨s.toArray⟩, ⟨t, by rw [h]⟩, fun m H => by simp [RepP]⟩
theorem KRep.int {K : PySem.W.Frag} {i : Int} {t : Tok} : KRep K (.int i) (.int i t) := ⟨.int i, ⟨t, rfl⟩, fun m H => by simp [RepP]⟩
def KReps (K : PySem.W.Frag) : List P → List Value → Prop
  | [], us => us = []
  | p :: ps, us => ∃ u r, us = u :: r ∧ KRep K p u ∧ KReps K ps r
theorem KReps.all {K : PySem.W.Frag} : ∀ {ps : List P} {us : List Value}, KReps K ps us → ∃ vs, Vals vs us ∧ ∀ m H, RepPs K m H ps vs
  | [], us, h => by cases h; exact ⟨[], .nil, fun _ _ => RepPs.nil⟩
  | p :: ps, us, h => by
    obtain ⟨u, r, rfl, ⟨v, h1, h2⟩, h3⟩ := h
    obtain ⟨vs, h4, h5⟩ := KReps.all h3
    exact ⟨v :: vs, .cons h1 h4, fun m H => RepPs.cons (h2 m H) (h5 m H)⟩
theorem KRep.tup {K : PySem.W.Frag} {ps : List P} {a : Addr} {o : Obj} {its : Array Value} {n : Nat} (h : K.lookup a = some o) (hc : o.cls = .type "tuple") (hd : o.data = .seq its n) (hz : its.size ≤ sizeLine) (q : KReps K ps its.toList) : KRep K (.tup ps) (.ref a) := by
  obtain ⟨vs, h4, h5⟩ := q.all
  refine ⟨.ref a, rfl, fun m H => ?_⟩
  simp only [RepP]
  exact ⟨a, vs, rfl, .inr ⟨o, its, n, h, hc, hd, hz, h4⟩, h5 m H⟩
def TabEs (K : PySem.W.Frag) : List DictEntry → Tab → Prop
  | [], t => t = []
  | e :: es, t => ∃ s p r, t = (s, p) :: r ∧ (∃ x tok, e.key = .str x tok ∧ x = ⟨s.toArray⟩) ∧ KRep K p e.val ∧ TabEs K es r
structure TabAt (K : PySem.W.Frag) (w : World) (d : Addr) (t : Tab) : Prop where
  ok : ∃ es n, KDict K w d es n ∧ TabEs K es.toList t
theorem str_beq {s t : List Nat} : ((⟨s.toArray⟩ : Str) == ⟨t.toArray⟩) = (s == t) := by
  by_cases h : s = t
  · subst h; simp
  · have h1 : (s == t) = false := by simpa using h
    have h2 : ((⟨s.toArray⟩ : Str) == ⟨t.toArray⟩) = false := by
      rw [beq_eq_false_iff_ne]
      intro z
      exact h (by simpa using congrArg (fun x : Str => x.cps.toList) z)
    rw [h1, h2]
theorem tabEs_find {K : PySem.W.Frag} {s : List Nat} : ∀ {es : List DictEntry} {t : Tab}, TabEs K es t → (∀ p, t.lookup s = some p → ∃ e, es.find? (·.key.isStr ⟨s.toArray⟩) = some e ∧ KRep K p e.val) ∧ (t.lookup s = none → es.find? (·.key.isStr ⟨s.toArray⟩) = none ∧ es.any (·.refKey) = false)
  | [], t, h => by
    cases h
    exact ⟨fun p h => by simp at h, fun _ => ⟨rfl, rfl⟩⟩
  | e :: es, t, h => by
    obtain ⟨s', p', r, rfl, ⟨x, tok, hk, hx⟩, hv, hr⟩ := h
    obtain ⟨i1, i2⟩ := tabEs_find (s := s) hr
    have e1 : e.key.isStr ⟨s.toArray⟩ = (s == s') := by
      rw [hk, hx]
      show Value.isStr (.str _ _) _ = _
      simp only [Value.isStr]
      first
        | exact str_beq
        | (rw [str_beq, Bool.eq_iff_iff]; simp only [beq_iff_eq]; exact eq_comm)
    have e2 : e.refKey = false := by
      simp only [DictEntry.refKey, hk]
    rw [List.lookup_cons, List.find?_cons, e1]
    cases q : s == s' with
    | true => exact ⟨fun p h => by cases h; exact ⟨e, rfl, hv⟩, fun h => by simp at h⟩
    | false =>
      refine ⟨i1, fun h => ?_⟩
      obtain ⟨j1, j2⟩ := i2 h
      exact ⟨j1, by rw [List.any_cons, e2, j2]; rfl⟩
theorem tab_ns {K : PySem.W.Frag} {w : World} {d : Addr} {es : Array DictEntry} {n : Nat} {t : Tab} (D : KDict K w d es n) (q : TabEs K es.toList t) (s : List Nat) : (∀ p, t.lookup s = some p → ∃ u, PySem.W.nsIn K d ⟨s.toArray⟩ = some (some u) ∧ KRep K p u) ∧ (t.lookup s = none → PySem.W.nsIn K d ⟨s.toArray⟩ = some none) := by
  obtain ⟨h1, h2⟩ := tabEs_find (s := s) q
  have hl := D.at_
  refine ⟨fun p h => ?_, fun h => ?_⟩
  · obtain ⟨e, he, hv⟩ := h1 p h
    refine ⟨e.val, ?_, hv⟩
    unfold PySem.W.nsIn
    rw [hl]
    simp only [he]
  · obtain ⟨h3, h4⟩ := h2 h
    unfold PySem.W.nsIn
    rw [hl]
    simp only [h3, h4, Bool.false_eq_true, if_false]
section
variable {X : Cx} {a : Expr} {xa : XE} {p p2 q pos : Pos} {d : Addr} {t : Tab} {c : Str}
theorem un_rule {xa : XE} {f : P → Option R} {σ : L2.St} {H : Hp} {Q : VK} {T : VK} (h : tOf X.K (xUn f xa) σ H Q) (w : ∀ v H1, uOf X.K f v H1 Q → T v H1) : tOf X.K xa σ H T := by
  obtain ⟨m, G, ρ, S, r, S', hE, hS, hx, k⟩ := h.un
  exact ⟨m, G, ρ, S, r, S', hE, hS, hx, fun v m' H' s1 hS1 q1 o1 => w v H' (k v m' H' s1 hS1 q1 o1)⟩
theorem xe_inTab (T : TabAt X.K X.w d t) (hg : Gl X c) (hm : X.mg c = some (.ref d)) (ha : PE X a (tOf X.K xa)) (hdb : (c == ("__debug__" : Str)) = false := by decide) : PE X (.Compare a [.In] [.Name c p] pos) (tOf X.K (xUn (tabIn t) xa)) := by
  obtain ⟨es, n, D, q⟩ := T.ok
  refine PE.imp (pe_cmpR (op_in_kd D) ha (pe_glob (v := .ref d) hg hm rfl hdb) rfl) fun σ H Q h => un_rule h fun v H1 hu => ?_
  obtain ⟨m, G, S, pp, r, hS, hp, hf, k⟩ := hu
  unfold tabIn at hf
  split at hf
  · rename_i s
    cases hf
    simp only [RdT, RepP] at hp
    subst hp
    obtain ⟨i1, i2⟩ := tab_ns D q s
    cases e : t.lookup s with
    | none => exact ⟨_, none, rfl, rfl, i2 e, by rw [e] at k; exact k _ H1 (Ext.refl _) (by simp [RepR, RepP]) trivial⟩
    | some p0 =>
      obtain ⟨u, hu, _⟩ := i1 p0 e
      exact ⟨_, some u, rfl, rfl, hu, by rw [e] at k; exact k _ H1 (Ext.refl _) (by simp [RepR, RepP]) trivial⟩
  · cases hf
theorem xe_ixTab (T : TabAt X.K X.w d t) (hg : Gl X c) (hm : X.mg c = some (.ref d)) (ha : PE X a (tOf X.K xa)) (hs : PlainIx a) (hdb : (c == ("__debug__" : Str)) = false := by decide) : PE X (.Subscript (.Name c p) a pos) (tOf X.K (xUn (tabGet t) xa)) := by
  obtain ⟨es, n, D, q⟩ := T.ok
  refine PE.imp (pe_ix ix_kdict (pe_glob (v := .ref d) hg hm rfl hdb) ha hs) fun σ H Q h => un_rule h fun v H1 hu => ?_
  obtain ⟨m, G, S, pp, r, hS, hp, hf, k⟩ := hu
  unfold tabGet at hf
  split at hf
  · rename_i s
    simp only [Option.map_eq_some_iff] at hf
    obtain ⟨p0, e, rfl⟩ := hf
    simp only [RdT, RepP] at hp
    subst hp
    obtain ⟨u, hu, v, rv, rp⟩ := (tab_ns D q s).1 p0 e
    exact ⟨d, _, v, rfl, rfl, ⟨es, n, u, D.at_, D.lit, hu, rv⟩, k v H1 (Ext.refl _) (rp _ _) trivial⟩
  · cases hf
/-- a text of the module -/
theorem xe_globS {s : List Nat} {x : Str} {tk : Tok} (hg : Gl X c) (hm : X.mg c = some (.str x tk)) (h : x = ⟨s.toArray⟩) (hdb : (c == ("__debug__" : Str)) = false := by decide) : PE X (.Name c p) (tOf X.K (xC (.str s))) :=
  xe_C (pe_glob (v := .str ⟨s.toArray⟩) hg hm ⟨tk, by rw [h]⟩ hdb) (fun m H => by simp [RepP])
end
end XL
end
section
set_option Elab.async false
set_option linter.all false
set_option maxRecDepth 100000
set_option maxHeartbeats 1000000
namespace XL
open PySem L2 PyProof.Rows
theorem xi_any {X : Cx} {tg e : Expr} {xa : XE} (he : PE X e (tOf X.K xa)) : PI X tg e (iOf X.K (xItA xa)) := by
  refine ⟨fun pins s σ H R I h => ?_⟩
  obtain ⟨m, G, ρ, S, ds, lc, S', hE, hS, hx, k⟩ := h
  unfold xItA at hx
  split at hx
  · exact (xi_str he).run pins s σ H R I ⟨m, G, ρ, S, ds, lc, S', hE, hS, hx, k⟩
  · exact (xi_seq he).run pins s σ H R I ⟨m, G, ρ, S, ds, lc, S', hE, hS, hx, k⟩
/-! ### names of the module -/
structure StrG (mg : Str → Option Value) (c : Str) (s : List Nat) : Prop where
  ok : ∃ x tk, mg c = some (.str x tk) ∧ x = ⟨s.toArray⟩
structure TabG (K : PySem.W.Frag) (w : World) (mg : Str → Option Value) (c : Str) (t : Tab) : Prop where
  ok : ∃ d, mg c = some (.ref d) ∧ TabAt K w d t
section
variable {X : Cx} {a : Expr} {xa : XE} {p pos : Pos} {t : Tab} {c : Str} {s : List Nat}
theorem xe_gS (h : StrG X.mg c s) (hg : Gl X c) (hdb : (c == ("__debug__" : Str)) = false := by decide) : PE X (.Name c p) (tOf X.K (xC (.str s))) := by
  obtain ⟨x, tk, hm, e⟩ := h.ok
  exact xe_globS hg hm e hdb
theorem xe_inT (h : TabG X.K X.w X.mg c t) (hg : Gl X c) (ha : PE X a (tOf X.K xa)) (hdb : (c == ("__debug__" : Str)) = false := by decide) : PE X (.Compare a [.In] [.Name c p] pos) (tOf X.K (xUn (tabIn t) xa)) := by
  obtain ⟨d, hm, T⟩ := h.ok
  exact xe_inTab T hg hm ha hdb
theorem xB_rd {K : PySem.W.Frag} {x : XE} {σ : L2.St} {H : Hp} {Q : Bool → Hp → Prop} (h : tOfT K (xB x) σ H Q) : tOf K x σ H (fun v H' => ∃ k, v = .bl k ∧ Q k H') := by
  obtain ⟨m, G, ρ, S, r, S', hE, hS, hx, k⟩ := h
  simp only [xB, Option.bind_eq_some_iff] at hx
  obtain ⟨⟨r1, S1⟩, h1, hx⟩ := hx
  refine ⟨m, G, ρ, S, r1, S1, hE, hS, h1, fun v1 m1 H1 s1 hS1 q1 _ => ?_⟩
  dsimp only at hx
  split at hx
  · cases hx
    simp only [RepR, RepP] at q1
    exact ⟨_, q1, k m1 H1 s1 hS1⟩
  · cases hx
theorem xt_inT (h : TabG X.K X.w X.mg c t) (hg : Gl X c) (ha : PE X a (tOf X.K xa)) (hdb : (c == ("__debug__" : Str)) = false := by decide) : PT X (.Compare a [.In] [.Name c p] pos) (tOfT X.K (xB (xUn (tabIn t) xa))) := by
  obtain ⟨d, hm, T⟩ := h.ok
  obtain ⟨es, n, D, q⟩ := T.ok
  refine PT.imp (pt_cmpR (op_in_kd D) ha (pe_glob (v := .ref d) hg hm rfl hdb) rfl) fun σ H Q h => un_rule (xB_rd h) fun v H1 hu => ?_
  obtain ⟨m, G, S, pp, r, hS, hp, hf, k⟩ := hu
  unfold tabIn at hf
  split at hf
  · rename_i s
    cases hf
    simp only [RdT, RepP] at hp
    subst hp
    obtain ⟨i1, i2⟩ := tab_ns D q s
    cases e : t.lookup s with
    | none => exact ⟨_, none, rfl, rfl, i2 e, by rw [e] at k; exact k _ H1 (Ext.refl _) (by simp [RepR, RepP]) trivial⟩
    | some p0 =>
      obtain ⟨u, hu, _⟩ := i1 p0 e
      exact ⟨_, some u, rfl, rfl, hu, by rw [e] at k; exact k _ H1 (Ext.refl _) (by simp [RepR, RepP]) trivial⟩
  · cases hf
theorem xe_ixT (h : TabG X.K X.w X.mg c t) (hg : Gl X c) (ha : PE X a (tOf X.K xa)) (hs : PlainIx a) (hdb : (c == ("__debug__" : Str)) = false := by decide) : PE X (.Subscript (.Name c p) a pos) (tOf X.K (xUn (tabGet t) xa)) := by
  obtain ⟨d, hm, T⟩ := h.ok
  exact xe_ixTab T hg hm ha hs hdb
end
/-! ### defs by name -/
structure DefOk (P : Program) (w : World) (K : PySem.W.Frag) (mg : Str → Option Value) (j : Nat) (x : Str) (ps : List Str) (k n : Nat) (b : XS) : Prop where
  ok : ∃ (f : Addr) (fd : FuncData), (∀ base : Heap, FnOk P w K mg base CX0 j f fd ps (spOf K k (mkF k n b))) ∧ mg x = some (.ref f) ∧ PySem.W.keepIn K (.ref f) = true ∧ ∀ us : List Value, us.length = ps.length → bindArgs fd ⟨us, []⟩ = pure (ps.zip us)
section
variable {X : Cx} {e : Expr} {es : List Expr} {x : Str} {ps : List Str} {p pos : Pos} {k j n : Nat} {b : XS} {xs : XD}
theorem xe_defD (D : DefOk X.prog X.w X.K X.mg j x ps k n b) (hr : Room j X.A) (hg : Gl X x) (ha : PA X (e :: es) (tOfD X.K xs)) (hdb : (x == ("__debug__" : Str)) = false := by decide)
    (he : starEach (e :: es) X.env = (false, eval e X.env) :: starEach es X.env := by rfl) (hpl : (backTo pos (starEach es X.env)).any (·.1) = false := by rfl) : PE X (.Call (.Name x p) (e :: es) [] pos) (tOf X.K (xDef (mkF k n b) xs)) := by
  obtain ⟨f, fd, F, hm, hk, hb⟩ := D.ok
  exact xe_def (F _) hr hg hm hk (.all hb) ha hdb he hpl
theorem xe_defD0 (D : DefOk X.prog X.w X.K X.mg j x ps k n b) (hr : Room j X.A) (hg : Gl X x) (hdb : (x == ("__debug__" : Str)) = false := by decide) : PE X (.Call (.Name x p) [] [] pos) (tOf X.K (xDef (mkF k n b) xNilD)) := by
  obtain ⟨f, fd, F, hm, hk, hb⟩ := D.ok
  exact xe_def0 (F _) hr hg hm hk (.all hb) hdb
end
/-- what the top has written of a def -/
structure FunAt (K : PySem.W.Frag) (mg : Str → Option Value) (x : Str) (st : Stmt) (ps : List Str) : Prop where
  ok : ∃ (f : Addr) (fd : FuncData), Fun K x x st f fd ∧ mg x = some (.ref f) ∧ PySem.W.keepIn K (.ref f) = true ∧ ∀ us : List Value, us.length = ps.length → bindArgs fd ⟨us, []⟩ = pure (ps.zip us)
theorem def_ok {Pg : Program} {w : World} {K : PySem.W.Frag} {mg : Str → Option Value} {x : Str} {st : Stmt} {N ps : List Str} {j k n : Nat} {b : XS} (F : FunAt K mg x st ps) (Sc : FnScope N ps (defScope st)) (hk : ps.length = k) (hn : N.length = n)
    (hb : ∀ (base : Heap) (f : Addr) (cdv : Value) (A : Around) (outer : List PySem.Env) (s : Shared) (H : Hp) (E : XK), Room j (A.deeper (envOfC x (defScope st) s.heap.objs.size f cdv)) → PSs (cxOf CX0 Pg w K mg base N x (defScope st) f cdv A outer s H E).nox (defBody st) (tOfS K b)) :
    DefOk Pg w K mg (j + 1) x ps k n b := by
  subst hk hn
  obtain ⟨f, fd, F, h1, h2, h3⟩ := F.ok
  exact ⟨f, fd, fun base => ok_def F Sc (fun cdv A outer s H E => hb base f cdv A outer s H E), h1, h2, h3⟩
theorem fun_at {K : PySem.W.Frag} {h : Heap} {mg : Str → Option Value} (X : K.In h) (G : h.Ns mainGlobals mg) {x : Str} {st : Stmt} {ps : List Str} {f : Addr} {oc : Value} {od an : Option Addr} {osl : Array (Option Value)} {kV doc pm cdv ct : Value}
    (a : PySem.W.nsIn K mainGlobals x = some (some (.ref f))) (l : K.lookup f = some ⟨oc, od, .func (PySem.W.fnOf x x (defArgs st) (defBody st) (defScope st) .none kV doc pm an cdv ct), osl⟩) (c : PySem.W.codeIn K cdv x = true) (k : PySem.W.keepIn K (.ref f) = true)
    (hb : ∀ (us : List Value), us.length = ps.length → bindArgs (PySem.W.fnOf x x (defArgs st) (defBody st) (defScope st) .none kV doc pm an cdv ct) ⟨us, []⟩ = pure (ps.zip us)) : FunAt K mg x st ps :=
  ⟨f, _, fun_mk (st := st) l c k, PySem.W.mg_of X G a, k, hb⟩
theorem str_at {K : PySem.W.Frag} {h : Heap} {mg : Str → Option Value} (X : K.In h) (G : h.Ns mainGlobals mg) {c : Str} {x : Str} {tk : Tok} {s : List Nat} (a : PySem.W.nsIn K mainGlobals c = some (some (.str x tk))) (e : x = ⟨s.toArray⟩) : StrG mg c s := ⟨x, tk, PySem.W.mg_of X G a, e⟩
theorem tab_at {K : PySem.W.Frag} {w : World} {h : Heap} {mg : Str → Option Value} (X : K.In h) (G : h.Ns mainGlobals mg) {c : Str} {d : Addr} {es : Array DictEntry} {n : Nat} {t : Tab} (a : PySem.W.nsIn K mainGlobals c = some (some (.ref d))) (l : K.lookup d = some ⟨.type "dict", none, .dict es n, #[]⟩)
    (kl : PySem.W.KeysLit w.params es.toList) (lo : (d == sysModules) = false) (te : TabEs K es.toList t) : TabG K w mg c t := ⟨d, PySem.W.mg_of X G a, ⟨es, n, ⟨l, kl, lo⟩, te⟩⟩
theorem law_fin {Pg : Program} {w : World} {K : PySem.W.Frag} {mg : Str → Option Value} {fa : Addr} {j n : Nat} {b : XS} {nm : Str} (hmg : mg nm = some (.ref fa)) (D : DefOk Pg w K mg j nm ["script"] 1 n b) :
    ∃ fd : FuncData, (∀ (s : Shared) (u : Value), BindsTo s fd ⟨[u], []⟩ [("script", u)]) ∧ ∀ base : Heap, K.In base → base.Ns mainGlobals mg → FnOk Pg w K mg base CX0 j fa fd ["script"] (spOf K 1 (mkF 1 n b)) := by
  obtain ⟨f, fd, F, hm, hk, hb⟩ := D.ok
  rw [hmg] at hm
  cases hm
  exact ⟨fd, fun s u => .of_eq (hb [u] rfl), fun base _ _ => F base⟩
theorem rm64 {A : Around} {k : Nat} (hr : Room k A) : A.units + 64 < cLine := hr.units
theorem rm65 {A : Around} {k : Nat} (hr : Room k A) : A.units + 65 < cLine := by have := hr.un; omega
/-! ### the end -/
def NoL (K : PySem.W.Frag) : Prop := (K.all fun p => !(p.2.cls == Value.type "list")) = true
theorem noL_lookup {K : PySem.W.Frag} (h : NoL K) {a : Addr} {o : Obj} (e : K.lookup a = some o) : o.cls ≠ .type "list" := by
  have hm : (a, o) ∈ K := by
    revert e
    clear h
    induction K with
    | nil => intro e; cases e
    | cons p r ih =>
      intro e
      obtain ⟨b, x⟩ := p
      rw [List.lookup_cons] at e
      split at e
      · rename_i q
        cases e
        have : a = b := by simpa using q
        subst this
        exact List.mem_cons_self
      · exact List.mem_cons_of_mem _ (ih e)
  have := List.all_eq_true.mp h _ hm
  intro z
  simp [z] at this
theorem script_rep {K : PySem.W.Frag} {H : Hp} : ∀ ns : List Int, RepPs K [] H (ns.map P.int) (ns.map V.int)
  | [] => RepPs.nil
  | n :: ns => RepPs.cons (by simp [RepP]) (script_rep ns)
theorem law_walk {l : PySem.W.OpenLaw} {k n : Nat} {q : Program} {loose : List Str} {XP : (Str → Option Value) → Heap → Prop} {YP : World → Heap → Prop} {d : DefRec} {K : Params → PySem.W.Frag} {f : XF}
    (hn : l.most = some n) (hn2 : n ≤ 63) (hdf : d.params.defaults = []) (hr : Room k callerA) (hY : ∀ (w : World) (h : Heap), YP w h → (K w.params).In h) (hL : ∀ P : Params, NoL (K P))
    (F : ∀ (w : World) (mg : Str → Option Value) (fa : Addr) (h : Heap), (K w.params).In h → h.Ns mainGlobals mg → mg d.name = some (.ref fa) →
      ∃ fd : FuncData, (∀ (s : Shared) (u : Value), BindsTo s fd ⟨[u], []⟩ [("script", u)]) ∧ ∀ base : Heap, (K w.params).In base → base.Ns mainGlobals mg → FnOk l.prog w (K w.params) mg base CX0 k fa fd ["script"] (spOf (K w.params) 1 f))
    (law : ∀ ns : List Int, ns.length ≤ 63 → ∃ S, f [.p (.lst (ns.map P.int))] [] = some (.p (.bl true), S)) :
    PySem.W.WalkO q loose XP YP l.row.toRowW d [] (fun f vs => PySem.call f vs) := by
  refine L2.walk_of (n := n) (k := k) (x := "script") (CX := fun _ => CX0) (sp := fun w => spOf (K w.params) 1 f) hn (Nat.le_trans hn2 (by decide)) hdf hr hY F (fun w H a ns hl hO hS => ?_) fun _ _ _ _ _ z => z
  obtain ⟨S, e⟩ := law ns (Nat.le_trans hl hn2)
  have hr : Rd H a (.lst (ns.map V.int)) := by
    rcases hS with h | ⟨o, its, m, h1, h2, _⟩
    · exact h
    · exact absurd h2 (noL_lookup (hL w.params) h1)
  refine ⟨[], [], [], [.p (.lst (ns.map P.int))], _, S, rfl, ⟨rfl, List.nodup_nil, fun l a c h => by simp at h, fun a h => by simp at h⟩, ?_, e, fun v H' _ _ q _ => ?_⟩
  · refine ⟨.ref a, [], rfl, ?_, rfl⟩
    simp only [RepD, RepP]
    exact ⟨a, _, rfl, .inl ⟨hr, by simp⟩, script_rep ns⟩
  · simpa only [RepR, RepP] using q
end XL
end
section
set_option Elab.async false
set_option linter.all false
set_option maxRecDepth 100000
set_option maxHeartbeats 4000000
namespace XL
def c_LETTERS : List Nat := [66, 68, 70, 77, 79, 83, 98, 100, 101, 102, 109, 111, 115]
def t_CONVERSES : Tab := [([98], (.str [66])), ([109], (.str [77])), ([111], (.str [79])), ([115], (.str [83])), ([100], (.str [68])), ([102], (.str [70])), ([101], (.str [101]))]
/-- _law_town(script); slots: script -/
def b_law_town : XS :=
  (xRet (xBin pAdd (xLst (xCons (xC (.int 0)) xNil)) (xCall cList (xCons (xVar 0) xNil))))
abbrev f_law_town : XF := mkF 1 1 b_law_town
/-- _law_draw(script, town, limit); slots: script town limit at left number -/
def b_law_draw : XS :=
  (xSeq (xPutL (xBin pAdd (xBin pIx (xVar 1) (xC (.int 0))) (xC (.int 1))) (xVar 1) (xC (.int 0)))
    (xSeq (xIfS (xB (xBin pEq (xVar 0) (xLst xNil)))
    (xRet (xBin pMod (xBin pDiv (xBin pMul (xBin pMul (xBin pIx (xVar 1) (xC (.int 0))) (xBin pIx (xVar 1) (xC (.int 0)))) (xC (.int 7))) (xC (.int 3))) (xVar 2)))
    xPass)
    (xSeq (xSet 3 (xBin pMod (xBin pIx (xVar 1) (xC (.int 0))) (xCall cLen (xCons (xVar 0) xNil))))
    (xSeq (xSet 4 (xBin pIx (xVar 1) (xBin pAdd (xC (.int 1)) (xVar 3))))
    (xSeq (xIfS (xTand (xB (xBin pGe (xBin pIx (xVar 0) (xVar 3)) (xBin pPow (xC (.int 10)) (xC (.int 18))))) (xB (xBin pGt (xVar 4) (xC (.int 0)))))
    (xSeq (xPutL (xBin pDiv (xVar 4) (xVar 2)) (xVar 1) (xBin pAdd (xC (.int 1)) (xVar 3)))
    (xRet (xBin pMod (xVar 4) (xVar 2))))
    xPass)
    (xSeq (xSet 5 (xBin pMod (xBin pAdd (xBin pIx (xVar 0) (xVar 3)) (xBin pMul (xC (.int 104729)) (xBin pIx (xVar 1) (xC (.int 0))))) (xC (.int 4294967291))))
    (xSeq (xSet 5 (xBin pMod (xBin pPow (xVar 5) (xC (.int 5))) (xC (.int 4294967279))))
    (xRet (xBin pMod (xBin pDiv (xBin pMod (xBin pAdd (xBin pMul (xBin pDiv (xVar 5) (xC (.int 64))) (xC (.int 69621))) (xVar 5)) (xC (.int 4294967231))) (xC (.int 8))) (xVar 2))))))))))
abbrev f_law_draw : XF := mkF 3 6 b_law_draw
/-- _law_scene(script, town, spans, far); slots: script town spans far found k begin -/
def b_law_scene : XS :=
  (xSeq (xSet 4 (xLst xNil))
    (xSeq (xFor (xRng1 (xVar 2)) (.nm 5)
    (xSeq (xSet 6 (xDef f_law_draw (xConsD (xVar 0) (xConsD (xVar 1) (xConsD (xVar 3) xNilD)))))
    (xDrop (xApp (xVar 4) (xTup (xCons (xVar 6) (xCons (xBin pAdd (xBin pAdd (xVar 6) (xC (.int 1))) (xDef f_law_draw (xConsD (xVar 0) (xConsD (xVar 1) (xConsD (xVar 3) xNilD))))) xNil)))))))
    (xRet (xCall cTuple (xCons (xVar 4) xNil)))))
abbrev f_law_scene : XF := mkF 4 7 b_law_scene
/-- _law_pick(script, town, choices); slots: script town choices -/
def b_law_pick : XS :=
  (xRet (xBin pIx (xVar 2) (xDef f_law_draw (xConsD (xVar 0) (xConsD (xVar 1) (xConsD (xCall cLen (xCons (xVar 2) xNil)) xNilD))))))
abbrev f_law_pick : XF := mkF 3 3 b_law_pick
/-- is_between(value, low, high); slots: value low high -/
def b_is_between : XS :=
  (xRet (xAnd (xUn (pIsi isiInt) (xVar 0)) (xAnd (xNot (xUn (pIsi isiBool) (xVar 0))) (xChain pLe pLe (xVar 1) (xVar 0) (xVar 2)))))
abbrev f_is_between : XF := mkF 3 3 b_is_between
/-- is_scene(value); slots: value span -/
def b_is_scene : XS :=
  (xSeq (xIfS (xTor (xTnot (xB (xUn (pIsi isiTuple) (xVar 0)))) (xTnot (xB (xChain pLe pLe (xC (.int 1)) (xCall cLen (xCons (xVar 0) xNil)) (xC (.int 5))))))
    (xRet (xC (.bl false)))
    xPass)
    (xSeq (xFor (xItA (xVar 0)) (.nm 1)
    (xSeq (xIfS (xTor (xTnot (xB (xUn (pIsi isiTuple) (xVar 1)))) (xTor (xB (xBin pNe (xCall cLen (xCons (xVar 1) xNil)) (xC (.int 2)))) (xTnot (xB (xDef f_is_between (xConsD (xBin pIx (xVar 1) (xC (.int 0))) (xConsD (xUn pNeg (xC (.int 1000))) (xConsD (xC (.int 1000)) xNilD))))))))
    (xRet (xC (.bl false)))
    xPass)
    (xIfS (xTnot (xB (xDef f_is_between (xConsD (xBin pIx (xVar 1) (xC (.int 1))) (xConsD (xBin pAdd (xBin pIx (xVar 1) (xC (.int 0))) (xC (.int 1))) (xConsD (xC (.int 1000)) xNilD))))))
    (xRet (xC (.bl false)))
    xPass)))
    (xRet (xC (.bl true)))))
abbrev f_is_scene : XF := mkF 1 2 b_is_scene
/-- check_scene(scene); slots: scene -/
def b_check_scene : XS :=
  (xIfS (xTnot (xB (xDef f_is_scene (xConsD (xVar 0) xNilD))))
    xNever
    xPass)
abbrev f_check_scene : XF := mkF 1 1 b_check_scene
/-- found_form(scene); slots: scene ends span end begin -/
def b_found_form : XS :=
  (xSeq (xSet 1 (xUn uSortedSet (xLc2 (xItA (xVar 0)) (.nm 2) xTyes (xItA (xVar 2)) (.nm 3) xTyes
      (xVar 3) [2, 3] [3])))
    (xRet (xCall cTuple (xCons (xLc (xItA (xVar 0)) (.tp [4, 3]) xTyes
      (xTup (xCons (xMeth .lst mIndex (xVar 1) (xCons (xVar 4) xNil)) (xCons (xMeth .lst mIndex (xVar 1) (xCons (xVar 3) xNil)) xNil))) [4, 3]) xNil))))
abbrev f_found_form : XF := mkF 1 5 b_found_form
/-- form_of(scene); slots: scene -/
def b_form_of : XS :=
  (xSeq (xDrop (xDef f_check_scene (xConsD (xVar 0) xNilD)))
    (xRet (xDef f_found_form (xConsD (xVar 0) xNilD))))
abbrev f_form_of : XF := mkF 1 1 b_form_of
/-- _law_normal(scene); slots: scene ends span -/
def b_law_normal : XS :=
  (xSeq (xSet 1 (xUn uSortedSet (xBin pAdd (xLc (xItA (xVar 0)) (.nm 2) xTyes
      (xBin pIx (xVar 2) (xC (.int 0))) [2]) (xLc (xItA (xVar 0)) (.nm 2) xTyes
      (xBin pIx (xVar 2) (xC (.int 1))) [2]))))
    (xRet (xCall cTuple (xCons (xLc (xItA (xVar 0)) (.nm 2) xTyes
      (xTup (xCons (xMeth .lst mIndex (xVar 1) (xCons (xBin pIx (xVar 2) (xC (.int 0))) xNil)) (xCons (xMeth .lst mIndex (xVar 1) (xCons (xBin pIx (xVar 2) (xC (.int 1))) xNil)) xNil))) [2]) xNil))))
abbrev f_law_normal : XF := mkF 1 3 b_law_normal
/-- is_form(value); slots: value -/
def b_is_form : XS :=
  (xRet (xAnd (xDef f_is_scene (xConsD (xVar 0) xNilD)) (xBin pEq (xDef f_found_form (xConsD (xVar 0) xNilD)) (xVar 0))))
abbrev f_is_form : XF := mkF 1 1 b_is_form
/-- letter_of(one, other); slots: one other -/
def b_letter_of : XS :=
  (xSeq (xIfS (xB (xBin pLe (xBin pIx (xVar 0) (xC (.int 1))) (xBin pIx (xVar 1) (xC (.int 0)))))
    (xRet (xIf (xB (xBin pEq (xBin pIx (xVar 0) (xC (.int 1))) (xBin pIx (xVar 1) (xC (.int 0))))) (xC (.str [109])) (xC (.str [98]))))
    xPass)
    (xSeq (xIfS (xB (xBin pLe (xBin pIx (xVar 1) (xC (.int 1))) (xBin pIx (xVar 0) (xC (.int 0)))))
    (xRet (xIf (xB (xBin pEq (xBin pIx (xVar 1) (xC (.int 1))) (xBin pIx (xVar 0) (xC (.int 0))))) (xC (.str [77])) (xC (.str [66]))))
    xPass)
    (xSeq (xIfS (xB (xBin pEq (xBin pIx (xVar 0) (xC (.int 0))) (xBin pIx (xVar 1) (xC (.int 0)))))
    (xRet (xIf (xB (xBin pEq (xBin pIx (xVar 0) (xC (.int 1))) (xBin pIx (xVar 1) (xC (.int 1))))) (xC (.str [101])) (xIf (xB (xBin pLt (xBin pIx (xVar 0) (xC (.int 1))) (xBin pIx (xVar 1) (xC (.int 1))))) (xC (.str [115])) (xC (.str [83])))))
    xPass)
    (xSeq (xIfS (xB (xBin pEq (xBin pIx (xVar 0) (xC (.int 1))) (xBin pIx (xVar 1) (xC (.int 1)))))
    (xRet (xIf (xB (xBin pGt (xBin pIx (xVar 0) (xC (.int 0))) (xBin pIx (xVar 1) (xC (.int 0))))) (xC (.str [102])) (xC (.str [70]))))
    xPass)
    (xSeq (xIfS (xB (xBin pLt (xBin pIx (xVar 0) (xC (.int 0))) (xBin pIx (xVar 1) (xC (.int 0)))))
    (xRet (xIf (xB (xBin pLt (xBin pIx (xVar 0) (xC (.int 1))) (xBin pIx (xVar 1) (xC (.int 1))))) (xC (.str [111])) (xC (.str [68]))))
    xPass)
    (xRet (xIf (xB (xBin pLt (xBin pIx (xVar 0) (xC (.int 1))) (xBin pIx (xVar 1) (xC (.int 1))))) (xC (.str [100])) (xC (.str [79])))))))))
abbrev f_letter_of : XF := mkF 2 2 b_letter_of
/-- way_of(scene, i, j); slots: scene i j -/
def b_way_of : XS :=
  (xSeq (xDrop (xDef f_check_scene (xConsD (xVar 0) xNilD)))
    (xSeq (xIfS (xTor (xTnot (xB (xDef f_is_between (xConsD (xVar 1) (xConsD (xC (.int 0)) (xConsD (xBin pSub (xCall cLen (xCons (xVar 0) xNil)) (xC (.int 1))) xNilD)))))) (xTnot (xB (xDef f_is_between (xConsD (xVar 2) (xConsD (xC (.int 0)) (xConsD (xBin pSub (xCall cLen (xCons (xVar 0) xNil)) (xC (.int 1))) xNilD)))))))
    xNever
    xPass)
    (xRet (xDef f_letter_of (xConsD (xBin pIx (xVar 0) (xVar 1)) (xConsD (xBin pIx (xVar 0) (xVar 2)) xNilD))))))
abbrev f_way_of : XF := mkF 3 3 b_way_of
/-- _law_letter(one, other); slots: one other first last -/
def b_law_letter : XS :=
  (xSeq (xIfS (xTor (xB (xBin pLt (xBin pIx (xVar 0) (xC (.int 1))) (xBin pIx (xVar 1) (xC (.int 0))))) (xB (xBin pLt (xBin pIx (xVar 1) (xC (.int 1))) (xBin pIx (xVar 0) (xC (.int 0))))))
    (xRet (xIf (xB (xBin pLt (xBin pIx (xVar 0) (xC (.int 1))) (xBin pIx (xVar 1) (xC (.int 0))))) (xC (.str [98])) (xC (.str [66]))))
    xPass)
    (xSeq (xIfS (xTor (xB (xBin pEq (xBin pIx (xVar 0) (xC (.int 1))) (xBin pIx (xVar 1) (xC (.int 0))))) (xB (xBin pEq (xBin pIx (xVar 1) (xC (.int 1))) (xBin pIx (xVar 0) (xC (.int 0))))))
    (xRet (xIf (xB (xBin pEq (xBin pIx (xVar 0) (xC (.int 1))) (xBin pIx (xVar 1) (xC (.int 0))))) (xC (.str [109])) (xC (.str [77]))))
    xPass)
    (xSeq (xSet 2 (xBin pSub (xBin pAdd (xC (.int 1)) (xCall cInt (xCons (xBin pGt (xBin pIx (xVar 0) (xC (.int 0))) (xBin pIx (xVar 1) (xC (.int 0)))) xNil))) (xCall cInt (xCons (xBin pLt (xBin pIx (xVar 0) (xC (.int 0))) (xBin pIx (xVar 1) (xC (.int 0)))) xNil))))
    (xSeq (xSet 3 (xBin pSub (xBin pAdd (xC (.int 1)) (xCall cInt (xCons (xBin pGt (xBin pIx (xVar 0) (xC (.int 1))) (xBin pIx (xVar 1) (xC (.int 1)))) xNil))) (xCall cInt (xCons (xBin pLt (xBin pIx (xVar 0) (xC (.int 1))) (xBin pIx (xVar 1) (xC (.int 1)))) xNil))))
    (xRet (xBin pIx (xBin pIx (xTup (xCons (xC (.str [111, 70, 68])) (xCons (xC (.str [115, 101, 83])) (xCons (xC (.str [100, 102, 79])) xNil)))) (xVar 2)) (xVar 3)))))))
abbrev f_law_letter : XF := mkF 2 4 b_law_letter
/-- is_ways(value); slots: value letter -/
def b_is_ways : XS :=
  (xSeq (xIfS (xTor (xTnot (xB (xUn (pIsi isiStr) (xVar 0)))) (xB (xBin pEq (xVar 0) (xC (.str [])))))
    (xRet (xC (.bl false)))
    xPass)
    (xRet (xBin pEq (xMeth .str mJoin (xC (.str [])) (xCons (xLc (xItA (xC (.str c_LETTERS))) (.nm 1) (xB (xBin pIn (xVar 1) (xVar 0)))
      (xVar 1) [1]) xNil)) (xVar 0))))
abbrev f_is_ways : XF := mkF 1 2 b_is_ways
/-- check_ways(ways); slots: ways -/
def b_check_ways : XS :=
  (xIfS (xTnot (xB (xDef f_is_ways (xConsD (xVar 0) xNilD))))
    xNever
    xPass)
abbrev f_check_ways : XF := mkF 1 1 b_check_ways
/-- turned(ways); slots: ways some letter -/
def b_turned : XS :=
  (xSeq (xSet 1 (xLc (xItA (xVar 0)) (.nm 2) xTyes
      (xIf (xB (xUn (tabIn t_CONVERSES) (xVar 2))) (xUn (tabGet t_CONVERSES) (xVar 2)) (xMeth .str mLower (xVar 2) xNil)) [2]))
    (xRet (xMeth .str mJoin (xC (.str [])) (xCons (xCall cSorted (xCons (xVar 1) xNil)) xNil))))
abbrev f_turned : XF := mkF 1 3 b_turned
/-- converse(ways); slots: ways -/
def b_converse : XS :=
  (xSeq (xDrop (xDef f_check_ways (xConsD (xVar 0) xNilD)))
    (xRet (xDef f_turned (xConsD (xVar 0) xNilD))))
abbrev f_converse : XF := mkF 1 1 b_converse
/-- law(script); slots: script town spans scene other later ends i by times all_ways others j letter begin end span -/
def b_law_k02 : XS :=
  (xSeq (xSet 1 (xDef f_law_town (xConsD (xVar 0) xNilD)))
    (xSeq (xSet 2 (xBin pAdd (xC (.int 1)) (xDef f_law_draw (xConsD (xVar 0) (xConsD (xVar 1) (xConsD (xC (.int 5)) xNilD))))))
    (xSeq (xSet 3 (xDef f_law_scene (xConsD (xVar 0) (xConsD (xVar 1) (xConsD (xVar 2) (xConsD (xDef f_law_pick (xConsD (xVar 0) (xConsD (xVar 1) (xConsD (xLst (xCons (xC (.int 2)) (xCons (xC (.int 4)) (xCons (xC (.int 30)) xNil)))) xNilD)))) xNilD))))))
    (xSeq (xSet 4 (xDef f_law_scene (xConsD (xVar 0) (xConsD (xVar 1) (xConsD (xVar 2) (xConsD (xC (.int 2)) xNilD))))))
    (xSeq (xPar [8, 9] (xConsB (xBin pSub (xDef f_law_draw (xConsD (xVar 0) (xConsD (xVar 1) (xConsD (xC (.int 99)) xNilD)))) (xC (.int 50))) (xConsB (xBin pAdd (xC (.int 1)) (xDef f_law_draw (xConsD (xVar 0) (xConsD (xVar 1) (xConsD (xC (.int 9)) xNilD))))) xNilD)))
    (xSeq (xSet 5 (xCall cTuple (xCons (xLc (xItA (xVar 3)) (.tp [14, 15]) xTyes
      (xTup (xCons (xBin pAdd (xBin pMul (xVar 14) (xVar 9)) (xVar 8)) (xCons (xBin pAdd (xBin pMul (xVar 15) (xVar 9)) (xVar 8)) xNil))) [14, 15]) xNil)))
    (xSeq (xIfS (xTor (xB (xBin pNe (xDef f_form_of (xConsD (xVar 3) xNilD)) (xDef f_law_normal (xConsD (xVar 3) xNilD)))) (xTor (xB (xBin pNe (xDef f_form_of (xConsD (xVar 5) xNilD)) (xDef f_form_of (xConsD (xVar 3) xNilD)))) (xB (xBin pIsNot (xDef f_is_form (xConsD (xDef f_form_of (xConsD (xVar 3) xNilD)) xNilD)) (xC (.bl true))))))
    (xRet (xC (.bl false)))
    xPass)
    (xSeq (xSet 6 (xUn uSortedSet (xBin pAdd (xLc (xItA (xDef f_form_of (xConsD (xVar 3) xNilD))) (.nm 16) xTyes
      (xBin pIx (xVar 16) (xC (.int 0))) [16]) (xLc (xItA (xDef f_form_of (xConsD (xVar 3) xNilD))) (.nm 16) xTyes
      (xBin pIx (xVar 16) (xC (.int 1))) [16]))))
    (xSeq (xIfS (xB (xBin pNe (xVar 6) (xUn uListRng (xCall cLen (xCons (xVar 6) xNil)))))
    (xRet (xC (.bl false)))
    xPass)
    (xSeq (xPar [10, 11] (xConsB (xLst xNil) (xConsB (xLst xNil) xNilD)))
    (xSeq (xFor (xRng1 (xVar 2)) (.nm 7)
    (xFor (xRng1 (xVar 2)) (.nm 12)
    (xSeq (xSet 13 (xDef f_way_of (xConsD (xVar 3) (xConsD (xVar 7) (xConsD (xVar 12) xNilD)))))
    (xSeq (xIfS (xTor (xB (xBin pNe (xVar 13) (xDef f_law_letter (xConsD (xBin pIx (xVar 3) (xVar 7)) (xConsD (xBin pIx (xVar 3) (xVar 12)) xNilD))))) (xB (xBin pNe (xVar 13) (xDef f_way_of (xConsD (xVar 5) (xConsD (xVar 7) (xConsD (xVar 12) xNilD)))))))
    (xRet (xC (.bl false)))
    xPass)
    (xSeq (xIfS (xTor (xB (xBin pNe (xDef f_way_of (xConsD (xVar 3) (xConsD (xVar 12) (xConsD (xVar 7) xNilD)))) (xDef f_converse (xConsD (xVar 13) xNilD)))) (xTand (xB (xBin pEq (xVar 7) (xVar 12))) (xB (xBin pNe (xVar 13) (xC (.str [101]))))))
    (xRet (xC (.bl false)))
    xPass)
    (xSeq (xDrop (xApp (xVar 10) (xVar 13)))
    (xDrop (xApp (xVar 11) (xDef f_way_of (xConsD (xVar 4) (xConsD (xVar 7) (xConsD (xVar 12) xNilD))))))))))))
    (xRet (xBin pEq (xBin pEq (xVar 10) (xVar 11)) (xBin pEq (xDef f_form_of (xConsD (xVar 4) xNilD)) (xDef f_form_of (xConsD (xVar 3) xNilD))))))))))))))))
abbrev f_law_k02 : XF := mkF 1 17 b_law_k02
end XL
end
section
set_option Elab.async false
set_option linter.all false
set_option maxRecDepth 100000
set_option maxHeartbeats 4000000
namespace K02
open PySem L2 PyProof.Rows XL

def topS (i : Nat) : Stmt := PySem.Challenge.pw_spansure_k02_whole_ways.main.body.getD i (.Pass ⟨0, 0, 0, 0⟩)
abbrev s_law_town : Stmt := topS 21
theorem sc_law_town : FnScope ["script"] ["script"] (defScope s_law_town) := ⟨rfl, rfl, rfl, by decide +kernel, rfl, by decide +kernel, by decide +kernel⟩
abbrev s_law_draw : Stmt := topS 22
theorem sc_law_draw : FnScope ["script", "town", "limit", "at", "left", "number"] ["script", "town", "limit"] (defScope s_law_draw) := ⟨rfl, rfl, rfl, by decide +kernel, rfl, by decide +kernel, by decide +kernel⟩
abbrev s_law_scene : Stmt := topS 25
theorem sc_law_scene : FnScope ["script", "town", "spans", "far", "found", "k", "begin"] ["script", "town", "spans", "far"] (defScope s_law_scene) := ⟨rfl, rfl, rfl, by decide +kernel, rfl, by decide +kernel, by decide +kernel⟩
abbrev s_law_pick : Stmt := topS 23
theorem sc_law_pick : FnScope ["script", "town", "choices"] ["script", "town", "choices"] (defScope s_law_pick) := ⟨rfl, rfl, rfl, by decide +kernel, rfl, by decide +kernel, by decide +kernel⟩
abbrev s_is_between : Stmt := topS 8
theorem sc_is_between : FnScope ["value", "low", "high"] ["value", "low", "high"] (defScope s_is_between) := ⟨rfl, rfl, rfl, by decide +kernel, rfl, by decide +kernel, by decide +kernel⟩
abbrev s_is_scene : Stmt := topS 9
theorem sc_is_scene : FnScope ["value", "span"] ["value"] (defScope s_is_scene) := ⟨rfl, rfl, rfl, by decide +kernel, rfl, by decide +kernel, by decide +kernel⟩
abbrev s_check_scene : Stmt := topS 10
theorem sc_check_scene : FnScope ["scene"] ["scene"] (defScope s_check_scene) := ⟨rfl, rfl, rfl, by decide +kernel, rfl, by decide +kernel, by decide +kernel⟩
abbrev s_found_form : Stmt := topS 11
theorem sc_found_form : FnScope ["scene", "ends", "span", "end", "begin"] ["scene"] (defScope s_found_form) := ⟨rfl, rfl, rfl, by decide +kernel, rfl, by decide +kernel, by decide +kernel⟩
abbrev s_form_of : Stmt := topS 12
theorem sc_form_of : FnScope ["scene"] ["scene"] (defScope s_form_of) := ⟨rfl, rfl, rfl, by decide +kernel, rfl, by decide +kernel, by decide +kernel⟩
abbrev s_law_normal : Stmt := topS 26
theorem sc_law_normal : FnScope ["scene", "ends", "span"] ["scene"] (defScope s_law_normal) := ⟨rfl, rfl, rfl, by decide +kernel, rfl, by decide +kernel, by decide +kernel⟩
abbrev s_is_form : Stmt := topS 13
theorem sc_is_form : FnScope ["value"] ["value"] (defScope s_is_form) := ⟨rfl, rfl, rfl, by decide +kernel, rfl, by decide +kernel, by decide +kernel⟩
abbrev s_letter_of : Stmt := topS 16
theorem sc_letter_of : FnScope ["one", "other"] ["one", "other"] (defScope s_letter_of) := ⟨rfl, rfl, rfl, by decide +kernel, rfl, by decide +kernel, by decide +kernel⟩
abbrev s_way_of : Stmt := topS 17
theorem sc_way_of : FnScope ["scene", "i", "j"] ["scene", "i", "j"] (defScope s_way_of) := ⟨rfl, rfl, rfl, by decide +kernel, rfl, by decide +kernel, by decide +kernel⟩
abbrev s_law_letter : Stmt := topS 24
theorem sc_law_letter : FnScope ["one", "other", "first", "last"] ["one", "other"] (defScope s_law_letter) := ⟨rfl, rfl, rfl, by decide +kernel, rfl, by decide +kernel, by decide +kernel⟩
abbrev s_is_ways : Stmt := topS 14
theorem sc_is_ways : FnScope ["value", "letter"] ["value"] (defScope s_is_ways) := ⟨rfl, rfl, rfl, by decide +kernel, rfl, by decide +kernel, by decide +kernel⟩
abbrev s_check_ways : Stmt := topS 15
theorem sc_check_ways : FnScope ["ways"] ["ways"] (defScope s_check_ways) := ⟨rfl, rfl, rfl, by decide +kernel, rfl, by decide +kernel, by decide +kernel⟩
abbrev s_turned : Stmt := topS 18
theorem sc_turned : FnScope ["ways", "some", "letter"] ["ways"] (defScope s_turned) := ⟨rfl, rfl, rfl, by decide +kernel, rfl, by decide +kernel, by decide +kernel⟩
abbrev s_converse : Stmt := topS 19
theorem sc_converse : FnScope ["ways"] ["ways"] (defScope s_converse) := ⟨rfl, rfl, rfl, by decide +kernel, rfl, by decide +kernel, by decide +kernel⟩
abbrev s_law_k02 : Stmt := topS 27
theorem sc_law_k02 : FnScope ["script", "town", "spans", "scene", "other", "later", "ends", "i", "by", "times", "all_ways", "others", "j", "letter", "begin", "end", "span"] ["script"] (defScope s_law_k02) := ⟨rfl, rfl, rfl, by decide +kernel, rfl, by decide +kernel, by decide +kernel⟩
structure Txt (w : World) (K : PySem.W.Frag) (mg : Str → Option Value) : Prop where
  z_bool : mg "bool" = none
  z_int : mg "int" = none
  z_isinstance : mg "isinstance" = none
  z_len : mg "len" = none
  z_list : mg "list" = none
  z_range : mg "range" = none
  z_set : mg "set" = none
  z_sorted : mg "sorted" = none
  z_str : mg "str" = none
  z_tuple : mg "tuple" = none
  g_LETTERS : StrG mg "LETTERS" c_LETTERS
  t_CONVERSES : TabG K w mg "CONVERSES" t_CONVERSES
section
variable {P : Program} {w : World} {K : PySem.W.Frag} {mg : Str → Option Value}
theorem ok_law_town (T : Txt w K mg) (F : FunAt K mg "_law_town" s_law_town ["script"])  : DefOk P w K mg 1 "_law_town" ["script"] 1 1 b_law_town :=
  def_ok (j := 0) F sc_law_town rfl rfl fun base f cdv A outer s H E hr =>
    (xss_one (xs_ret (xe_bin op_addX (xe_lst (xa_cons xe_int xa_nil)) (xe_callTy cr_list (by rfl) T.z_list (by decide +kernel) (xa_cons (xv 0) xa_nil)))))
theorem ok_law_draw (T : Txt w K mg) (F : FunAt K mg "_law_draw" s_law_draw ["script", "town", "limit"])  : DefOk P w K mg 1 "_law_draw" ["script", "town", "limit"] 3 6 b_law_draw :=
  def_ok (j := 0) F sc_law_draw rfl rfl fun base f cdv A outer s H E hr =>
    (xss_cons (xs_putL (xe_bin op_addX (xe_ix (xv 1) xe_int (fun _ _ => rfl)) xe_int) (xv 1) xe_int)
    (xss_cons (xs_if (xt_cmp (op_eqX (rm64 hr)) (xv 0) (xe_lst xa_nil) rfl) (xss_one (xs_ret (xe_bin op_modX (xe_bin op_divX (xe_bin op_mulX (xe_bin op_mulX (xe_ix (xv 1) xe_int (fun _ _ => rfl)) (xe_ix (xv 1) xe_int (fun _ _ => rfl))) xe_int) xe_int) (xv 2)))) xss_nil)
    (xss_cons (xs_set (i := 3) sc_law_draw.nd rfl (by first | exact .inl rfl | exact .inr rfl) (xe_bin op_modX (xe_ix (xv 1) xe_int (fun _ _ => rfl)) (xe_callB cr_len (by rfl) T.z_len (by decide +kernel) (xa_cons (xv 0) xa_nil))))
    (xss_cons (xs_set (i := 4) sc_law_draw.nd rfl (by first | exact .inl rfl | exact .inr rfl) (xe_ix (xv 1) (xe_bin op_addX xe_int (xv 3)) (fun _ _ => rfl)))
    (xss_cons (xs_if ((xt_and (xt_cmp (op_geX (rm64 hr)) (xe_ix (xv 0) (xv 3) (fun _ _ => rfl)) (xe_bin op_powX xe_int xe_int) rfl) (xt_and1 (xt_cmp (op_gtX (rm64 hr)) (xv 4) xe_int rfl)))).pt (xss_cons (xs_putL (xe_bin op_divX (xv 4) (xv 2)) (xv 1) (xe_bin op_addX xe_int (xv 3)))
    (xss_one (xs_ret (xe_bin op_modX (xv 4) (xv 2))))) xss_nil)
    (xss_cons (xs_set (i := 5) sc_law_draw.nd rfl (by first | exact .inl rfl | exact .inr rfl) (xe_bin op_modX (xe_bin op_addX (xe_ix (xv 0) (xv 3) (fun _ _ => rfl)) (xe_bin op_mulX xe_int (xe_ix (xv 1) xe_int (fun _ _ => rfl)))) xe_int))
    (xss_cons (xs_set (i := 5) sc_law_draw.nd rfl (by first | exact .inl rfl | exact .inr rfl) (xe_bin op_modX (xe_bin op_powX (xv 5) xe_int) xe_int))
    (xss_one (xs_ret (xe_bin op_modX (xe_bin op_divX (xe_bin op_modX (xe_bin op_addX (xe_bin op_mulX (xe_bin op_divX (xv 5) xe_int) xe_int) (xv 5)) xe_int) xe_int) (xv 2)))))))))))
theorem ok_law_scene (T : Txt w K mg) (F : FunAt K mg "_law_scene" s_law_scene ["script", "town", "spans", "far"]) (D_law_draw : DefOk P w K mg 1 "_law_draw" ["script", "town", "limit"] 3 6 b_law_draw) : DefOk P w K mg 2 "_law_scene" ["script", "town", "spans", "far"] 4 7 b_law_scene :=
  def_ok (j := 1) F sc_law_scene rfl rfl fun base f cdv A outer s H E hr =>
    (xss_cons (xs_set (i := 4) sc_law_scene.nd rfl (by first | exact .inl rfl | exact .inr rfl) (xe_lst xa_nil))
    (xss_cons (xs_for PassesOwn.never rfl (xi_rng1 (by rfl) T.z_range (xv 2)) (xg_name (i := 5) sc_law_scene.nd rfl (by first | exact .inl rfl | exact .inr rfl))
    (xss_cons (xs_set (i := 6) sc_law_scene.nd rfl (by first | exact .inl rfl | exact .inr rfl) (xe_defD D_law_draw (hr.mono (by decide)) (by rfl) (xd_cons (xv 0) (xd_cons (xv 1) (xd_cons (xv 3) xd_nil)))))
    (xss_one (xs_drop (xe_append (xv 4) (xe_tup (xa_cons (xv 6) (xa_cons (xe_bin op_addX (xe_bin op_addX (xv 6) xe_int) (xe_defD D_law_draw (hr.mono (by decide)) (by rfl) (xd_cons (xv 0) (xd_cons (xv 1) (xd_cons (xv 3) xd_nil))))) xa_nil))))))))
    (xss_one (xs_ret (xe_callTy cr_tuple (by rfl) T.z_tuple (by decide +kernel) (xa_cons (xv 4) xa_nil))))))
theorem ok_law_pick (T : Txt w K mg) (F : FunAt K mg "_law_pick" s_law_pick ["script", "town", "choices"]) (D_law_draw : DefOk P w K mg 1 "_law_draw" ["script", "town", "limit"] 3 6 b_law_draw) : DefOk P w K mg 2 "_law_pick" ["script", "town", "choices"] 3 3 b_law_pick :=
  def_ok (j := 1) F sc_law_pick rfl rfl fun base f cdv A outer s H E hr =>
    (xss_one (xs_ret (xe_ix (xv 2) (xe_defD D_law_draw (hr.mono (by decide)) (by rfl) (xd_cons (xv 0) (xd_cons (xv 1) (xd_cons (xe_callB cr_len (by rfl) T.z_len (by decide +kernel) (xa_cons (xv 2) xa_nil)) xd_nil)))) (fun _ _ => rfl))))
theorem ok_is_between (T : Txt w K mg) (F : FunAt K mg "is_between" s_is_between ["value", "low", "high"])  : DefOk P w K mg 1 "is_between" ["value", "low", "high"] 3 3 b_is_between :=
  def_ok (j := 0) F sc_is_between rfl rfl fun base f cdv A outer s H E hr =>
    (xss_one (xs_ret (xe_and (xe_isi (by rfl) T.z_isinstance (by rfl) T.z_int XL.boot_int isi_int (xv 0)) (xe_and (xe_not (xe_isi (by rfl) T.z_isinstance (by rfl) T.z_bool XL.boot_bool isi_bool (xv 0))) (xe_one (xe_chain (op_leX (rm64 hr)) (op_leX (rm64 hr)) (xv 1) (xv 0) (xv 2)))))))
theorem ok_is_scene (T : Txt w K mg) (F : FunAt K mg "is_scene" s_is_scene ["value"]) (D_is_between : DefOk P w K mg 1 "is_between" ["value", "low", "high"] 3 3 b_is_between) : DefOk P w K mg 2 "is_scene" ["value"] 1 2 b_is_scene :=
  def_ok (j := 1) F sc_is_scene rfl rfl fun base f cdv A outer s H E hr =>
    (xss_cons (xs_if ((xt_or (xt_not (xt_B (xe_isi (by rfl) T.z_isinstance (by rfl) T.z_tuple XL.boot_tuple isi_tuple (xv 0)))) (xt_or1 (xt_not (xt_chain (op_leX (rm64 hr)) (op_leX (rm64 hr)) xe_int (xe_callB cr_len (by rfl) T.z_len (by decide +kernel) (xa_cons (xv 0) xa_nil)) xe_int))))).pt (xss_one (xs_ret xe_bl)) xss_nil)
    (xss_cons (xs_for PassesOwn.never rfl (xi_any (xv 0)) (xg_name (i := 1) sc_is_scene.nd rfl (by first | exact .inl rfl | exact .inr rfl))
    (xss_cons (xs_if ((xt_or (xt_not (xt_B (xe_isi (by rfl) T.z_isinstance (by rfl) T.z_tuple XL.boot_tuple isi_tuple (xv 1)))) (xt_or (xt_cmp (op_neX (rm64 hr)) (xe_callB cr_len (by rfl) T.z_len (by decide +kernel) (xa_cons (xv 1) xa_nil)) xe_int rfl) (xt_or1 (xt_not (xt_B (xe_defD D_is_between (hr.mono (by decide)) (by rfl) (xd_cons (xe_ix (xv 1) xe_int (fun _ _ => rfl)) (xd_cons (xe_un un_negX xe_int) (xd_cons xe_int xd_nil)))))))))).pt (xss_one (xs_ret xe_bl)) xss_nil)
    (xss_one (xs_if (xt_not (xt_B (xe_defD D_is_between (hr.mono (by decide)) (by rfl) (xd_cons (xe_ix (xv 1) xe_int (fun _ _ => rfl)) (xd_cons (xe_bin op_addX (xe_ix (xv 1) xe_int (fun _ _ => rfl)) xe_int) (xd_cons xe_int xd_nil)))))) (xss_one (xs_ret xe_bl)) xss_nil))))
    (xss_one (xs_ret xe_bl))))
theorem ok_check_scene (T : Txt w K mg) (F : FunAt K mg "check_scene" s_check_scene ["scene"]) (D_is_scene : DefOk P w K mg 2 "is_scene" ["value"] 1 2 b_is_scene) : DefOk P w K mg 3 "check_scene" ["scene"] 1 1 b_check_scene :=
  def_ok (j := 2) F sc_check_scene rfl rfl fun base f cdv A outer s H E hr =>
    (xss_one (xs_if (xt_not (xt_B (xe_defD D_is_scene (hr.mono (by decide)) (by rfl) (xd_cons (xv 0) xd_nil)))) xss_never xss_nil))
theorem ok_found_form (T : Txt w K mg) (F : FunAt K mg "found_form" s_found_form ["scene"])  : DefOk P w K mg 1 "found_form" ["scene"] 1 5 b_found_form :=
  def_ok (j := 0) F sc_found_form rfl rfl fun base f cdv A outer s H E hr =>
    (xss_cons (xs_set (i := 1) sc_found_form.nd rfl (by first | exact .inl rfl | exact .inr rfl) (xe_sortedSet (rm64 hr) rfl (by rfl) T.z_sorted (by rfl) T.z_set (xe_lc2 rfl sc_found_form.nd (xi_any (xv 0)) (own := [("span", 2), ("end", 3)]) (vs1 := [3]) (blkOk_by (by kernel_rfl)) (by decide) (fun _ _ _ _ _ => (xg_name (i := 2) sc_found_form.nd rfl (by first | exact .inl rfl | exact .inr rfl))) (fun _ _ _ _ _ => xts_nil) (fun _ _ _ _ _ => (xi_any (xv 2))) (fun _ _ _ _ _ => (xg_name (i := 3) sc_found_form.nd rfl (by first | exact .inl rfl | exact .inr rfl))) (fun _ _ _ _ _ => xts_nil) (fun _ _ _ _ _ => (xv 3)))))
    (xss_one (xs_ret (xe_callTy cr_tuple (by rfl) T.z_tuple (by decide +kernel) (xa_cons (xe_lc rfl sc_found_form.nd (xi_any (xv 0)) (own := [("begin", 4), ("end", 3)]) (blkOk_by (by kernel_rfl)) (fun _ _ _ _ _ => (xg_tup rfl (xgs_cons (pg_name (i := 4) sc_found_form.nd rfl (by first | exact .inl rfl | exact .inr rfl)) (xgs_cons (pg_name (i := 3) sc_found_form.nd rfl (by first | exact .inl rfl | exact .inr rfl)) xgs_nil)))) (fun _ _ _ _ _ => xts_nil) (fun _ _ _ _ _ => (xe_tup (xa_cons (xe_meth (ty := .lst) PySem.F.plainAttrs_list PySem.F.slot_list_index PySem.F.type_list_index (mt_indexX (rm65 hr)) (xv 1) (xa_cons (xv 4) xa_nil)) (xa_cons (xe_meth (ty := .lst) PySem.F.plainAttrs_list PySem.F.slot_list_index PySem.F.type_list_index (mt_indexX (rm65 hr)) (xv 1) (xa_cons (xv 3) xa_nil)) xa_nil))))) xa_nil)))))
theorem ok_form_of (T : Txt w K mg) (F : FunAt K mg "form_of" s_form_of ["scene"]) (D_check_scene : DefOk P w K mg 3 "check_scene" ["scene"] 1 1 b_check_scene) (D_found_form : DefOk P w K mg 1 "found_form" ["scene"] 1 5 b_found_form) : DefOk P w K mg 4 "form_of" ["scene"] 1 1 b_form_of :=
  def_ok (j := 3) F sc_form_of rfl rfl fun base f cdv A outer s H E hr =>
    (xss_cons (xs_drop (xe_defD D_check_scene (hr.mono (by decide)) (by rfl) (xd_cons (xv 0) xd_nil)))
    (xss_one (xs_ret (xe_defD D_found_form (hr.mono (by decide)) (by rfl) (xd_cons (xv 0) xd_nil)))))
theorem ok_law_normal (T : Txt w K mg) (F : FunAt K mg "_law_normal" s_law_normal ["scene"])  : DefOk P w K mg 1 "_law_normal" ["scene"] 1 3 b_law_normal :=
  def_ok (j := 0) F sc_law_normal rfl rfl fun base f cdv A outer s H E hr =>
    (xss_cons (xs_set (i := 1) sc_law_normal.nd rfl (by first | exact .inl rfl | exact .inr rfl) (xe_sortedSet (rm64 hr) rfl (by rfl) T.z_sorted (by rfl) T.z_set (xe_bin op_addX (xe_lc rfl sc_law_normal.nd (xi_any (xv 0)) (own := [("span", 2)]) (blkOk_by (by kernel_rfl)) (fun _ _ _ _ _ => (xg_name (i := 2) sc_law_normal.nd rfl (by first | exact .inl rfl | exact .inr rfl))) (fun _ _ _ _ _ => xts_nil) (fun _ _ _ _ _ => (xe_ix (xv 2) xe_int (fun _ _ => rfl)))) (xe_lc rfl sc_law_normal.nd (xi_any (xv 0)) (own := [("span", 2)]) (blkOk_by (by kernel_rfl)) (fun _ _ _ _ _ => (xg_name (i := 2) sc_law_normal.nd rfl (by first | exact .inl rfl | exact .inr rfl))) (fun _ _ _ _ _ => xts_nil) (fun _ _ _ _ _ => (xe_ix (xv 2) xe_int (fun _ _ => rfl)))))))
    (xss_one (xs_ret (xe_callTy cr_tuple (by rfl) T.z_tuple (by decide +kernel) (xa_cons (xe_lc rfl sc_law_normal.nd (xi_any (xv 0)) (own := [("span", 2)]) (blkOk_by (by kernel_rfl)) (fun _ _ _ _ _ => (xg_name (i := 2) sc_law_normal.nd rfl (by first | exact .inl rfl | exact .inr rfl))) (fun _ _ _ _ _ => xts_nil) (fun _ _ _ _ _ => (xe_tup (xa_cons (xe_meth (ty := .lst) PySem.F.plainAttrs_list PySem.F.slot_list_index PySem.F.type_list_index (mt_indexX (rm65 hr)) (xv 1) (xa_cons (xe_ix (xv 2) xe_int (fun _ _ => rfl)) xa_nil)) (xa_cons (xe_meth (ty := .lst) PySem.F.plainAttrs_list PySem.F.slot_list_index PySem.F.type_list_index (mt_indexX (rm65 hr)) (xv 1) (xa_cons (xe_ix (xv 2) xe_int (fun _ _ => rfl)) xa_nil)) xa_nil))))) xa_nil)))))
theorem ok_is_form (T : Txt w K mg) (F : FunAt K mg "is_form" s_is_form ["value"]) (D_found_form : DefOk P w K mg 1 "found_form" ["scene"] 1 5 b_found_form) (D_is_scene : DefOk P w K mg 2 "is_scene" ["value"] 1 2 b_is_scene) : DefOk P w K mg 3 "is_form" ["value"] 1 1 b_is_form :=
  def_ok (j := 2) F sc_is_form rfl rfl fun base f cdv A outer s H E hr =>
    (xss_one (xs_ret (xe_and (xe_defD D_is_scene (hr.mono (by decide)) (by rfl) (xd_cons (xv 0) xd_nil)) (xe_one (xe_cmp (op_eqX (rm64 hr)) (xe_defD D_found_form (hr.mono (by decide)) (by rfl) (xd_cons (xv 0) xd_nil)) (xv 0) rfl)))))
theorem ok_letter_of (T : Txt w K mg) (F : FunAt K mg "letter_of" s_letter_of ["one", "other"])  : DefOk P w K mg 1 "letter_of" ["one", "other"] 2 2 b_letter_of :=
  def_ok (j := 0) F sc_letter_of rfl rfl fun base f cdv A outer s H E hr =>
    (xss_cons (xs_if (xt_cmp (op_leX (rm64 hr)) (xe_ix (xv 0) xe_int (fun _ _ => rfl)) (xe_ix (xv 1) xe_int (fun _ _ => rfl)) rfl) (xss_one (xs_ret (xe_ifExp (xt_cmp (op_eqX (rm64 hr)) (xe_ix (xv 0) xe_int (fun _ _ => rfl)) (xe_ix (xv 1) xe_int (fun _ _ => rfl)) rfl) (xe_str (by rfl)) (xe_str (by rfl))))) xss_nil)
    (xss_cons (xs_if (xt_cmp (op_leX (rm64 hr)) (xe_ix (xv 1) xe_int (fun _ _ => rfl)) (xe_ix (xv 0) xe_int (fun _ _ => rfl)) rfl) (xss_one (xs_ret (xe_ifExp (xt_cmp (op_eqX (rm64 hr)) (xe_ix (xv 1) xe_int (fun _ _ => rfl)) (xe_ix (xv 0) xe_int (fun _ _ => rfl)) rfl) (xe_str (by rfl)) (xe_str (by rfl))))) xss_nil)
    (xss_cons (xs_if (xt_cmp (op_eqX (rm64 hr)) (xe_ix (xv 0) xe_int (fun _ _ => rfl)) (xe_ix (xv 1) xe_int (fun _ _ => rfl)) rfl) (xss_one (xs_ret (xe_ifExp (xt_cmp (op_eqX (rm64 hr)) (xe_ix (xv 0) xe_int (fun _ _ => rfl)) (xe_ix (xv 1) xe_int (fun _ _ => rfl)) rfl) (xe_str (by rfl)) (xe_ifExp (xt_cmp (op_ltX (rm64 hr)) (xe_ix (xv 0) xe_int (fun _ _ => rfl)) (xe_ix (xv 1) xe_int (fun _ _ => rfl)) rfl) (xe_str (by rfl)) (xe_str (by rfl)))))) xss_nil)
    (xss_cons (xs_if (xt_cmp (op_eqX (rm64 hr)) (xe_ix (xv 0) xe_int (fun _ _ => rfl)) (xe_ix (xv 1) xe_int (fun _ _ => rfl)) rfl) (xss_one (xs_ret (xe_ifExp (xt_cmp (op_gtX (rm64 hr)) (xe_ix (xv 0) xe_int (fun _ _ => rfl)) (xe_ix (xv 1) xe_int (fun _ _ => rfl)) rfl) (xe_str (by rfl)) (xe_str (by rfl))))) xss_nil)
    (xss_cons (xs_if (xt_cmp (op_ltX (rm64 hr)) (xe_ix (xv 0) xe_int (fun _ _ => rfl)) (xe_ix (xv 1) xe_int (fun _ _ => rfl)) rfl) (xss_one (xs_ret (xe_ifExp (xt_cmp (op_ltX (rm64 hr)) (xe_ix (xv 0) xe_int (fun _ _ => rfl)) (xe_ix (xv 1) xe_int (fun _ _ => rfl)) rfl) (xe_str (by rfl)) (xe_str (by rfl))))) xss_nil)
    (xss_one (xs_ret (xe_ifExp (xt_cmp (op_ltX (rm64 hr)) (xe_ix (xv 0) xe_int (fun _ _ => rfl)) (xe_ix (xv 1) xe_int (fun _ _ => rfl)) rfl) (xe_str (by rfl)) (xe_str (by rfl))))))))))
theorem ok_way_of (T : Txt w K mg) (F : FunAt K mg "way_of" s_way_of ["scene", "i", "j"]) (D_check_scene : DefOk P w K mg 3 "check_scene" ["scene"] 1 1 b_check_scene) (D_is_between : DefOk P w K mg 1 "is_between" ["value", "low", "high"] 3 3 b_is_between) (D_letter_of : DefOk P w K mg 1 "letter_of" ["one", "other"] 2 2 b_letter_of) : DefOk P w K mg 4 "way_of" ["scene", "i", "j"] 3 3 b_way_of :=
  def_ok (j := 3) F sc_way_of rfl rfl fun base f cdv A outer s H E hr =>
    (xss_cons (xs_drop (xe_defD D_check_scene (hr.mono (by decide)) (by rfl) (xd_cons (xv 0) xd_nil)))
    (xss_cons (xs_if ((xt_or (xt_not (xt_B (xe_defD D_is_between (hr.mono (by decide)) (by rfl) (xd_cons (xv 1) (xd_cons xe_int (xd_cons (xe_bin op_subX (xe_callB cr_len (by rfl) T.z_len (by decide +kernel) (xa_cons (xv 0) xa_nil)) xe_int) xd_nil)))))) (xt_or1 (xt_not (xt_B (xe_defD D_is_between (hr.mono (by decide)) (by rfl) (xd_cons (xv 2) (xd_cons xe_int (xd_cons (xe_bin op_subX (xe_callB cr_len (by rfl) T.z_len (by decide +kernel) (xa_cons (xv 0) xa_nil)) xe_int) xd_nil))))))))).pt xss_never xss_nil)
    (xss_one (xs_ret (xe_defD D_letter_of (hr.mono (by decide)) (by rfl) (xd_cons (xe_ix (xv 0) (xv 1) (fun _ _ => rfl)) (xd_cons (xe_ix (xv 0) (xv 2) (fun _ _ => rfl)) xd_nil)))))))
theorem ok_law_letter (T : Txt w K mg) (F : FunAt K mg "_law_letter" s_law_letter ["one", "other"])  : DefOk P w K mg 1 "_law_letter" ["one", "other"] 2 4 b_law_letter :=
  def_ok (j := 0) F sc_law_letter rfl rfl fun base f cdv A outer s H E hr =>
    (xss_cons (xs_if ((xt_or (xt_cmp (op_ltX (rm64 hr)) (xe_ix (xv 0) xe_int (fun _ _ => rfl)) (xe_ix (xv 1) xe_int (fun _ _ => rfl)) rfl) (xt_or1 (xt_cmp (op_ltX (rm64 hr)) (xe_ix (xv 1) xe_int (fun _ _ => rfl)) (xe_ix (xv 0) xe_int (fun _ _ => rfl)) rfl)))).pt (xss_one (xs_ret (xe_ifExp (xt_cmp (op_ltX (rm64 hr)) (xe_ix (xv 0) xe_int (fun _ _ => rfl)) (xe_ix (xv 1) xe_int (fun _ _ => rfl)) rfl) (xe_str (by rfl)) (xe_str (by rfl))))) xss_nil)
    (xss_cons (xs_if ((xt_or (xt_cmp (op_eqX (rm64 hr)) (xe_ix (xv 0) xe_int (fun _ _ => rfl)) (xe_ix (xv 1) xe_int (fun _ _ => rfl)) rfl) (xt_or1 (xt_cmp (op_eqX (rm64 hr)) (xe_ix (xv 1) xe_int (fun _ _ => rfl)) (xe_ix (xv 0) xe_int (fun _ _ => rfl)) rfl)))).pt (xss_one (xs_ret (xe_ifExp (xt_cmp (op_eqX (rm64 hr)) (xe_ix (xv 0) xe_int (fun _ _ => rfl)) (xe_ix (xv 1) xe_int (fun _ _ => rfl)) rfl) (xe_str (by rfl)) (xe_str (by rfl))))) xss_nil)
    (xss_cons (xs_set (i := 2) sc_law_letter.nd rfl (by first | exact .inl rfl | exact .inr rfl) (xe_bin op_subX (xe_bin op_addX xe_int (xe_callTy cr_int (by rfl) T.z_int (by decide +kernel) (xa_cons (xe_cmp (op_gtX (rm64 hr)) (xe_ix (xv 0) xe_int (fun _ _ => rfl)) (xe_ix (xv 1) xe_int (fun _ _ => rfl)) rfl) xa_nil))) (xe_callTy cr_int (by rfl) T.z_int (by decide +kernel) (xa_cons (xe_cmp (op_ltX (rm64 hr)) (xe_ix (xv 0) xe_int (fun _ _ => rfl)) (xe_ix (xv 1) xe_int (fun _ _ => rfl)) rfl) xa_nil))))
    (xss_cons (xs_set (i := 3) sc_law_letter.nd rfl (by first | exact .inl rfl | exact .inr rfl) (xe_bin op_subX (xe_bin op_addX xe_int (xe_callTy cr_int (by rfl) T.z_int (by decide +kernel) (xa_cons (xe_cmp (op_gtX (rm64 hr)) (xe_ix (xv 0) xe_int (fun _ _ => rfl)) (xe_ix (xv 1) xe_int (fun _ _ => rfl)) rfl) xa_nil))) (xe_callTy cr_int (by rfl) T.z_int (by decide +kernel) (xa_cons (xe_cmp (op_ltX (rm64 hr)) (xe_ix (xv 0) xe_int (fun _ _ => rfl)) (xe_ix (xv 1) xe_int (fun _ _ => rfl)) rfl) xa_nil))))
    (xss_one (xs_ret (xe_ix (xe_ix (xe_tup (xa_cons (xe_str (by rfl)) (xa_cons (xe_str (by rfl)) (xa_cons (xe_str (by rfl)) xa_nil)))) (xv 2) (fun _ _ => rfl)) (xv 3) (fun _ _ => rfl))))))))
theorem ok_is_ways (T : Txt w K mg) (F : FunAt K mg "is_ways" s_is_ways ["value"])  : DefOk P w K mg 1 "is_ways" ["value"] 1 2 b_is_ways :=
  def_ok (j := 0) F sc_is_ways rfl rfl fun base f cdv A outer s H E hr =>
    (xss_cons (xs_if ((xt_or (xt_not (xt_B (xe_isi (by rfl) T.z_isinstance (by rfl) T.z_str XL.boot_str isi_str (xv 0)))) (xt_or1 (xt_cmp (op_eqX (rm64 hr)) (xv 0) (xe_str (by rfl)) rfl)))).pt (xss_one (xs_ret xe_bl)) xss_nil)
    (xss_one (xs_ret (xe_cmp (op_eqX (rm64 hr)) (xe_meth (ty := .str) PySem.F.plainAttrs_str PySem.F.slot_str_join PySem.F.type_str_join mt_joinX (xe_str (by rfl)) (xa_cons (xe_lc rfl sc_is_ways.nd (xi_any (xe_gS T.g_LETTERS (by rfl))) (own := [("letter", 1)]) (blkOk_by (by kernel_rfl)) (fun _ _ _ _ _ => (xg_name (i := 1) sc_is_ways.nd rfl (by first | exact .inl rfl | exact .inr rfl))) (fun _ _ _ _ _ => (xts_one (xt_cmp (op_inX (rm65 hr)) (xv 1) (xv 0) rfl))) (fun _ _ _ _ _ => (xv 1))) xa_nil)) (xv 0) rfl))))
theorem ok_check_ways (T : Txt w K mg) (F : FunAt K mg "check_ways" s_check_ways ["ways"]) (D_is_ways : DefOk P w K mg 1 "is_ways" ["value"] 1 2 b_is_ways) : DefOk P w K mg 2 "check_ways" ["ways"] 1 1 b_check_ways :=
  def_ok (j := 1) F sc_check_ways rfl rfl fun base f cdv A outer s H E hr =>
    (xss_one (xs_if (xt_not (xt_B (xe_defD D_is_ways (hr.mono (by decide)) (by rfl) (xd_cons (xv 0) xd_nil)))) xss_never xss_nil))
theorem ok_turned (T : Txt w K mg) (F : FunAt K mg "turned" s_turned ["ways"])  : DefOk P w K mg 1 "turned" ["ways"] 1 3 b_turned :=
  def_ok (j := 0) F sc_turned rfl rfl fun base f cdv A outer s H E hr =>
    (xss_cons (by first | exact xs_setLc (i := 1) rfl sc_turned.nd rfl rfl rfl (xi_any (xv 0)) (own := [("letter", 2)]) (blkOk_by (by kernel_rfl)) (fun _ _ _ _ _ => (xg_name (i := 2) sc_turned.nd rfl (by first | exact .inl rfl | exact .inr rfl))) (fun _ _ _ _ _ => xts_nil) (fun _ _ _ _ _ => (xe_ifExp (xt_inT T.t_CONVERSES (by rfl) (xv 2)) (xe_ixT T.t_CONVERSES (by rfl) (xv 2) (fun _ _ => rfl)) (xe_meth0 (ty := .str) PySem.F.plainAttrs_str PySem.F.slot_str_lower PySem.F.type_str_lower mt_lowerX (xv 2)))) | exact xs_set (i := 1) sc_turned.nd rfl (by first | exact .inl rfl | exact .inr rfl) (xe_lc rfl sc_turned.nd (xi_any (xv 0)) (own := [("letter", 2)]) (blkOk_by (by kernel_rfl)) (fun _ _ _ _ _ => (xg_name (i := 2) sc_turned.nd rfl (by first | exact .inl rfl | exact .inr rfl))) (fun _ _ _ _ _ => xts_nil) (fun _ _ _ _ _ => (xe_ifExp (xt_inT T.t_CONVERSES (by rfl) (xv 2)) (xe_ixT T.t_CONVERSES (by rfl) (xv 2) (fun _ _ => rfl)) (xe_meth0 (ty := .str) PySem.F.plainAttrs_str PySem.F.slot_str_lower PySem.F.type_str_lower mt_lowerX (xv 2))))))
    (xss_one (xs_ret (xe_meth (ty := .str) PySem.F.plainAttrs_str PySem.F.slot_str_join PySem.F.type_str_join mt_joinX (xe_str (by rfl)) (xa_cons (xe_callB (cr_sortedX (rm64 hr)) (by rfl) T.z_sorted (by decide +kernel) (xa_cons (xv 1) xa_nil)) xa_nil)))))
theorem ok_converse (T : Txt w K mg) (F : FunAt K mg "converse" s_converse ["ways"]) (D_check_ways : DefOk P w K mg 2 "check_ways" ["ways"] 1 1 b_check_ways) (D_turned : DefOk P w K mg 1 "turned" ["ways"] 1 3 b_turned) : DefOk P w K mg 3 "converse" ["ways"] 1 1 b_converse :=
  def_ok (j := 2) F sc_converse rfl rfl fun base f cdv A outer s H E hr =>
    (xss_cons (xs_drop (xe_defD D_check_ways (hr.mono (by decide)) (by rfl) (xd_cons (xv 0) xd_nil)))
    (xss_one (xs_ret (xe_defD D_turned (hr.mono (by decide)) (by rfl) (xd_cons (xv 0) xd_nil)))))
theorem ok_law_k02 (T : Txt w K mg) (F : FunAt K mg "law" s_law_k02 ["script"]) (D_law_town : DefOk P w K mg 1 "_law_town" ["script"] 1 1 b_law_town) (D_law_draw : DefOk P w K mg 1 "_law_draw" ["script", "town", "limit"] 3 6 b_law_draw) (D_law_scene : DefOk P w K mg 2 "_law_scene" ["script", "town", "spans", "far"] 4 7 b_law_scene) (D_law_pick : DefOk P w K mg 2 "_law_pick" ["script", "town", "choices"] 3 3 b_law_pick) (D_form_of : DefOk P w K mg 4 "form_of" ["scene"] 1 1 b_form_of) (D_law_normal : DefOk P w K mg 1 "_law_normal" ["scene"] 1 3 b_law_normal) (D_is_form : DefOk P w K mg 3 "is_form" ["value"] 1 1 b_is_form) (D_way_of : DefOk P w K mg 4 "way_of" ["scene", "i", "j"] 3 3 b_way_of) (D_law_letter : DefOk P w K mg 1 "_law_letter" ["one", "other"] 2 4 b_law_letter) (D_converse : DefOk P w K mg 3 "converse" ["ways"] 1 1 b_converse) : DefOk P w K mg 5 "law" ["script"] 1 17 b_law_k02 :=
  def_ok (j := 4) F sc_law_k02 rfl rfl fun base f cdv A outer s H E hr =>
    (xss_cons (xs_set (i := 1) sc_law_k02.nd rfl (by first | exact .inl rfl | exact .inr rfl) (xe_defD D_law_town (hr.mono (by decide)) (by rfl) (xd_cons (xv 0) xd_nil)))
    (xss_cons (xs_set (i := 2) sc_law_k02.nd rfl (by first | exact .inl rfl | exact .inr rfl) (xe_bin op_addX xe_int (xe_defD D_law_draw (hr.mono (by decide)) (by rfl) (xd_cons (xv 0) (xd_cons (xv 1) (xd_cons xe_int xd_nil))))))
    (xss_cons (xs_set (i := 3) sc_law_k02.nd rfl (by first | exact .inl rfl | exact .inr rfl) (xe_defD D_law_scene (hr.mono (by decide)) (by rfl) (xd_cons (xv 0) (xd_cons (xv 1) (xd_cons (xv 2) (xd_cons (xe_defD D_law_pick (hr.mono (by decide)) (by rfl) (xd_cons (xv 0) (xd_cons (xv 1) (xd_cons (xe_lst (xa_cons xe_int (xa_cons xe_int (xa_cons xe_int xa_nil)))) xd_nil)))) xd_nil))))))
    (xss_cons (xs_set (i := 4) sc_law_k02.nd rfl (by first | exact .inl rfl | exact .inr rfl) (xe_defD D_law_scene (hr.mono (by decide)) (by rfl) (xd_cons (xv 0) (xd_cons (xv 1) (xd_cons (xv 2) (xd_cons xe_int xd_nil))))))
    (xss_cons (by first | exact xs_par (i := 8) (j := 9) rfl sc_law_k02.nd rfl rfl (by decide) rfl rfl (xd_consB (xe_bin op_subX (xe_defD D_law_draw (hr.mono (by decide)) (by rfl) (xd_cons (xv 0) (xd_cons (xv 1) (xd_cons xe_int xd_nil)))) xe_int) (xd_consB (xe_bin op_addX xe_int (xe_defD D_law_draw (hr.mono (by decide)) (by rfl) (xd_cons (xv 0) (xd_cons (xv 1) (xd_cons xe_int xd_nil))))) xd_nil)) rfl | exact (xs_parT (is := [8, 9]) (xd_consB (xe_bin op_subX (xe_defD D_law_draw (hr.mono (by decide)) (by rfl) (xd_cons (xv 0) (xd_cons (xv 1) (xd_cons xe_int xd_nil)))) xe_int) (xd_consB (xe_bin op_addX xe_int (xe_defD D_law_draw (hr.mono (by decide)) (by rfl) (xd_cons (xv 0) (xd_cons (xv 1) (xd_cons xe_int xd_nil))))) xd_nil)) rfl (pgs_cons (pg_name (i := 8) sc_law_k02.nd rfl (by first | exact .inl rfl | exact .inr rfl)) (pgs_cons (pg_name (i := 9) sc_law_k02.nd rfl (by first | exact .inl rfl | exact .inr rfl)) pgs_nil)) (by decide)))
    (xss_cons (xs_set (i := 5) sc_law_k02.nd rfl (by first | exact .inl rfl | exact .inr rfl) (xe_callTy cr_tuple (by rfl) T.z_tuple (by decide +kernel) (xa_cons (xe_lc rfl sc_law_k02.nd (xi_any (xv 3)) (own := [("begin", 14), ("end", 15)]) (blkOk_by (by kernel_rfl)) (fun _ _ _ _ _ => (xg_tup rfl (xgs_cons (pg_name (i := 14) sc_law_k02.nd rfl (by first | exact .inl rfl | exact .inr rfl)) (xgs_cons (pg_name (i := 15) sc_law_k02.nd rfl (by first | exact .inl rfl | exact .inr rfl)) xgs_nil)))) (fun _ _ _ _ _ => xts_nil) (fun _ _ _ _ _ => (xe_tup (xa_cons (xe_bin op_addX (xe_bin op_mulX (xv 14) (xv 9)) (xv 8)) (xa_cons (xe_bin op_addX (xe_bin op_mulX (xv 15) (xv 9)) (xv 8)) xa_nil))))) xa_nil)))
    (xss_cons (xs_if ((xt_or (xt_cmp (op_neX (rm64 hr)) (xe_defD D_form_of (hr.mono (by decide)) (by rfl) (xd_cons (xv 3) xd_nil)) (xe_defD D_law_normal (hr.mono (by decide)) (by rfl) (xd_cons (xv 3) xd_nil)) rfl) (xt_or (xt_cmp (op_neX (rm64 hr)) (xe_defD D_form_of (hr.mono (by decide)) (by rfl) (xd_cons (xv 5) xd_nil)) (xe_defD D_form_of (hr.mono (by decide)) (by rfl) (xd_cons (xv 3) xd_nil)) rfl) (xt_or1 (xt_cmp op_isNotX (xe_defD D_is_form (hr.mono (by decide)) (by rfl) (xd_cons (xe_defD D_form_of (hr.mono (by decide)) (by rfl) (xd_cons (xv 3) xd_nil)) xd_nil)) xe_bl rfl))))).pt (xss_one (xs_ret xe_bl)) xss_nil)
    (xss_cons (xs_set (i := 6) sc_law_k02.nd rfl (by first | exact .inl rfl | exact .inr rfl) (xe_sortedSet (rm64 hr) rfl (by rfl) T.z_sorted (by rfl) T.z_set (xe_bin op_addX (xe_lc rfl sc_law_k02.nd (xi_any (xe_defD D_form_of (hr.mono (by decide)) (by rfl) (xd_cons (xv 3) xd_nil))) (own := [("span", 16)]) (blkOk_by (by kernel_rfl)) (fun _ _ _ _ _ => (xg_name (i := 16) sc_law_k02.nd rfl (by first | exact .inl rfl | exact .inr rfl))) (fun _ _ _ _ _ => xts_nil) (fun _ _ _ _ _ => (xe_ix (xv 16) xe_int (fun _ _ => rfl)))) (xe_lc rfl sc_law_k02.nd (xi_any (xe_defD D_form_of (hr.mono (by decide)) (by rfl) (xd_cons (xv 3) xd_nil))) (own := [("span", 16)]) (blkOk_by (by kernel_rfl)) (fun _ _ _ _ _ => (xg_name (i := 16) sc_law_k02.nd rfl (by first | exact .inl rfl | exact .inr rfl))) (fun _ _ _ _ _ => xts_nil) (fun _ _ _ _ _ => (xe_ix (xv 16) xe_int (fun _ _ => rfl)))))))
    (xss_cons (xs_if (xt_cmp (op_neX (rm64 hr)) (xv 6) (xe_listRng rfl (by rfl) T.z_list (by rfl) T.z_range (xe_callB cr_len (by rfl) T.z_len (by decide +kernel) (xa_cons (xv 6) xa_nil))) rfl) (xss_one (xs_ret xe_bl)) xss_nil)
    (xss_cons (by first | exact xs_par (i := 10) (j := 11) rfl sc_law_k02.nd rfl rfl (by decide) rfl rfl (xd_consB (xe_lst xa_nil) (xd_consB (xe_lst xa_nil) xd_nil)) rfl | exact (xs_parT (is := [10, 11]) (xd_consB (xe_lst xa_nil) (xd_consB (xe_lst xa_nil) xd_nil)) rfl (pgs_cons (pg_name (i := 10) sc_law_k02.nd rfl (by first | exact .inl rfl | exact .inr rfl)) (pgs_cons (pg_name (i := 11) sc_law_k02.nd rfl (by first | exact .inl rfl | exact .inr rfl)) pgs_nil)) (by decide)))
    (xss_cons (xs_for PassesOwn.never rfl (xi_rng1 (by rfl) T.z_range (xv 2)) (xg_name (i := 7) sc_law_k02.nd rfl (by first | exact .inl rfl | exact .inr rfl))
    (xss_one (xs_for PassesOwn.never rfl (xi_rng1 (by rfl) T.z_range (xv 2)) (xg_name (i := 12) sc_law_k02.nd rfl (by first | exact .inl rfl | exact .inr rfl))
    (xss_cons (xs_set (i := 13) sc_law_k02.nd rfl (by first | exact .inl rfl | exact .inr rfl) (xe_defD D_way_of (hr.mono (by decide)) (by rfl) (xd_cons (xv 3) (xd_cons (xv 7) (xd_cons (xv 12) xd_nil)))))
    (xss_cons (xs_if ((xt_or (xt_cmp (op_neX (rm64 hr)) (xv 13) (xe_defD D_law_letter (hr.mono (by decide)) (by rfl) (xd_cons (xe_ix (xv 3) (xv 7) (fun _ _ => rfl)) (xd_cons (xe_ix (xv 3) (xv 12) (fun _ _ => rfl)) xd_nil))) rfl) (xt_or1 (xt_cmp (op_neX (rm64 hr)) (xv 13) (xe_defD D_way_of (hr.mono (by decide)) (by rfl) (xd_cons (xv 5) (xd_cons (xv 7) (xd_cons (xv 12) xd_nil)))) rfl)))).pt (xss_one (xs_ret xe_bl)) xss_nil)
    (xss_cons (xs_if ((xt_or (xt_cmp (op_neX (rm64 hr)) (xe_defD D_way_of (hr.mono (by decide)) (by rfl) (xd_cons (xv 3) (xd_cons (xv 12) (xd_cons (xv 7) xd_nil)))) (xe_defD D_converse (hr.mono (by decide)) (by rfl) (xd_cons (xv 13) xd_nil)) rfl) (xt_or1 ((xt_and (xt_cmp (op_eqX (rm64 hr)) (xv 7) (xv 12) rfl) (xt_and1 (xt_cmp (op_neX (rm64 hr)) (xv 13) (xe_str (by rfl)) rfl)))).pt))).pt (xss_one (xs_ret xe_bl)) xss_nil)
    (xss_cons (xs_drop (xe_append (xv 10) (xv 13)))
    (xss_one (xs_drop (xe_append (xv 11) (xe_defD D_way_of (hr.mono (by decide)) (by rfl) (xd_cons (xv 4) (xd_cons (xv 7) (xd_cons (xv 12) xd_nil))))))))))))))
    (xss_one (xs_ret (xe_cmp (op_eqX (rm64 hr)) (xe_cmp (op_eqX (rm64 hr)) (xv 10) (xv 11) rfl) (xe_cmp (op_eqX (rm64 hr)) (xe_defD D_form_of (hr.mono (by decide)) (by rfl) (xd_cons (xv 4) xd_nil)) (xe_defD D_form_of (hr.mono (by decide)) (by rfl) (xd_cons (xv 3) xd_nil)) rfl) rfl))))))))))))))
/-- the law, of what the top has written -/
theorem all_ok (T : Txt w K mg) (F_law_town : FunAt K mg "_law_town" s_law_town ["script"]) (F_law_draw : FunAt K mg "_law_draw" s_law_draw ["script", "town", "limit"]) (F_law_scene : FunAt K mg "_law_scene" s_law_scene ["script", "town", "spans", "far"]) (F_law_pick : FunAt K mg "_law_pick" s_law_pick ["script", "town", "choices"]) (F_is_between : FunAt K mg "is_between" s_is_between ["value", "low", "high"]) (F_is_scene : FunAt K mg "is_scene" s_is_scene ["value"]) (F_check_scene : FunAt K mg "check_scene" s_check_scene ["scene"]) (F_found_form : FunAt K mg "found_form" s_found_form ["scene"]) (F_form_of : FunAt K mg "form_of" s_form_of ["scene"]) (F_law_normal : FunAt K mg "_law_normal" s_law_normal ["scene"]) (F_is_form : FunAt K mg "is_form" s_is_form ["value"]) (F_letter_of : FunAt K mg "letter_of" s_letter_of ["one", "other"]) (F_way_of : FunAt K mg "way_of" s_way_of ["scene", "i", "j"]) (F_law_letter : FunAt K mg "_law_letter" s_law_letter ["one", "other"]) (F_is_ways : FunAt K mg "is_ways" s_is_ways ["value"]) (F_check_ways : FunAt K mg "check_ways" s_check_ways ["ways"]) (F_turned : FunAt K mg "turned" s_turned ["ways"]) (F_converse : FunAt K mg "converse" s_converse ["ways"]) (F_law_k02 : FunAt K mg "law" s_law_k02 ["script"]) : DefOk P w K mg 5 "law" ["script"] 1 17 b_law_k02 := by
  have D_law_town := ok_law_town (P := P) T F_law_town 
  have D_law_draw := ok_law_draw (P := P) T F_law_draw 
  have D_law_scene := ok_law_scene (P := P) T F_law_scene D_law_draw
  have D_law_pick := ok_law_pick (P := P) T F_law_pick D_law_draw
  have D_is_between := ok_is_between (P := P) T F_is_between 
  have D_is_scene := ok_is_scene (P := P) T F_is_scene D_is_between
  have D_check_scene := ok_check_scene (P := P) T F_check_scene D_is_scene
  have D_found_form := ok_found_form (P := P) T F_found_form 
  have D_form_of := ok_form_of (P := P) T F_form_of D_check_scene D_found_form
  have D_law_normal := ok_law_normal (P := P) T F_law_normal 
  have D_is_form := ok_is_form (P := P) T F_is_form D_found_form D_is_scene
  have D_letter_of := ok_letter_of (P := P) T F_letter_of 
  have D_way_of := ok_way_of (P := P) T F_way_of D_check_scene D_is_between D_letter_of
  have D_law_letter := ok_law_letter (P := P) T F_law_letter 
  have D_is_ways := ok_is_ways (P := P) T F_is_ways 
  have D_check_ways := ok_check_ways (P := P) T F_check_ways D_is_ways
  have D_turned := ok_turned (P := P) T F_turned 
  have D_converse := ok_converse (P := P) T F_converse D_check_ways D_turned
  have D_law_k02 := ok_law_k02 (P := P) T F_law_k02 D_law_town D_law_draw D_law_scene D_law_pick D_form_of D_law_normal D_is_form D_way_of D_law_letter D_converse
  exact D_law_k02
end
theorem fin {P : Program} {w : World} {K : PySem.W.Frag} {h : Heap} {mg : Str → Option Value} {fa : Addr} {nm : Str} (X : K.In h) (hmg : mg nm = some (.ref fa)) (hnm : nm = "law") (T : Txt w K mg) (F_law_town : FunAt K mg "_law_town" s_law_town ["script"]) (F_law_draw : FunAt K mg "_law_draw" s_law_draw ["script", "town", "limit"]) (F_law_scene : FunAt K mg "_law_scene" s_law_scene ["script", "town", "spans", "far"]) (F_law_pick : FunAt K mg "_law_pick" s_law_pick ["script", "town", "choices"]) (F_is_between : FunAt K mg "is_between" s_is_between ["value", "low", "high"]) (F_is_scene : FunAt K mg "is_scene" s_is_scene ["value"]) (F_check_scene : FunAt K mg "check_scene" s_check_scene ["scene"]) (F_found_form : FunAt K mg "found_form" s_found_form ["scene"]) (F_form_of : FunAt K mg "form_of" s_form_of ["scene"]) (F_law_normal : FunAt K mg "_law_normal" s_law_normal ["scene"]) (F_is_form : FunAt K mg "is_form" s_is_form ["value"]) (F_letter_of : FunAt K mg "letter_of" s_letter_of ["one", "other"]) (F_way_of : FunAt K mg "way_of" s_way_of ["scene", "i", "j"]) (F_law_letter : FunAt K mg "_law_letter" s_law_letter ["one", "other"]) (F_is_ways : FunAt K mg "is_ways" s_is_ways ["value"]) (F_check_ways : FunAt K mg "check_ways" s_check_ways ["ways"]) (F_turned : FunAt K mg "turned" s_turned ["ways"]) (F_converse : FunAt K mg "converse" s_converse ["ways"]) (F_law_k02 : FunAt K mg "law" s_law_k02 ["script"]) :
    ∃ fd : FuncData, (∀ (s : Shared) (u : Value), BindsTo s fd ⟨[u], []⟩ [("script", u)]) ∧ ∀ base : Heap, K.In base → base.Ns mainGlobals mg → FnOk P w K mg base CX0 5 fa fd ["script"] (spOf K 1 (mkF 1 17 b_law_k02)) := by
  subst hnm
  exact law_fin hmg (all_ok T F_law_town F_law_draw F_law_scene F_law_pick F_is_between F_is_scene F_check_scene F_found_form F_form_of F_law_normal F_is_form F_letter_of F_way_of F_law_letter F_is_ways F_check_ways F_turned F_converse F_law_k02)
end K02
end
section
set_option Elab.async false
set_option linter.all false
set_option autoImplicit false
set_option maxRecDepth 100000
set_option maxHeartbeats 1000000
namespace XL
/-! ### plain evaluation: the combinators as equations -/
section
variable {ρ : Env} {S : Sto} {a b c : XE} {f g : P → P → Option R} {t u : XT} {xs : XA} {ys : XD} {s s' : XS} {i j : Nat} {d : P} {ds es : List P}
@[simp] theorem e_Var : xVar i ρ S = match ρ[i]? with | some (some (.p d)) => some (.p d, S) | some (some (.ref l)) => some (.ref l, S) | _ => none := rfl
@[simp] theorem e_C : xC d ρ S = some (.p d, S) := rfl
@[simp] theorem e_Bin : xBin f a b ρ S = (a ρ S).bind fun x => (b ρ x.2).bind fun y => (x.1.rd y.2).bind fun p => (y.1.rd y.2).bind fun q => (f p q).map fun r => (r, y.2) := rfl
@[simp] theorem e_Un {f : P → Option R} : xUn f a ρ S = (a ρ S).bind fun x => (x.1.rd x.2).bind fun p => (f p).map fun r => (r, x.2) := rfl
@[simp] theorem e_Chain : xChain f g a b c ρ S =
  (a ρ S).bind fun x => (b ρ x.2).bind fun y => (x.1.rd y.2).bind fun p => (y.1.rd y.2).bind fun q => (f p q).bind fun r => match r with
    | .p (.bl true) => (c ρ y.2).bind fun z => (y.1.rd z.2).bind fun q => (z.1.rd z.2).bind fun w => (g q w).map fun r => (r, z.2)
    | .p (.bl false) => some (.p (.bl false), y.2)
    | _ => none := rfl
@[simp] theorem e_And : xAnd a b ρ S = (a ρ S).bind fun x => match x.1 with
  | .p (.bl true) => b ρ x.2
  | .p (.bl false) => some (.p (.bl false), x.2)
  | _ => none := rfl
@[simp] theorem e_Or : xOr a b ρ S = (a ρ S).bind fun x => match x.1 with
  | .p (.bl true) => some (.p (.bl true), x.2)
  | .p (.bl false) => b ρ x.2
  | _ => none := rfl
@[simp] theorem e_Not : xNot a ρ S = (a ρ S).bind fun x => match x.1 with
  | .p (.bl c) => some (.p (.bl (!c)), x.2)
  | _ => none := rfl
@[simp] theorem e_If : xIf t a b ρ S = (t ρ S).bind fun x => if x.1 then a ρ x.2 else b ρ x.2 := rfl
@[simp] theorem e_B : xB a ρ S = (a ρ S).bind fun x => match x.1 with
  | .p (.bl c) => some (c, x.2)
  | _ => none := rfl
@[simp] theorem e_Tand : xTand t u ρ S = (t ρ S).bind fun x => if x.1 then u ρ x.2 else some (false, x.2) := rfl
@[simp] theorem e_Tor : xTor t u ρ S = (t ρ S).bind fun x => if x.1 then some (true, x.2) else u ρ x.2 := rfl
@[simp] theorem e_Tnot : xTnot t ρ S = (t ρ S).map fun x => (!x.1, x.2) := rfl
@[simp] theorem e_Tyes : xTyes ρ S = some (true, S) := rfl
@[simp] theorem e_Nil : xNil ρ S = some ([], S) := rfl
@[simp] theorem e_Cons : xCons a xs ρ S = (a ρ S).bind fun x => (xs ρ x.2).map fun y => (x.1 :: y.1, y.2) := rfl
@[simp] theorem e_Tup : xTup xs ρ S = (xs ρ S).bind fun x => (fzs x.1).bind fun ds => if ds.length ≤ big then some (.p (.tup ds), x.2) else none := rfl
@[simp] theorem e_Lst : xLst xs ρ S = (xs ρ S).bind fun x => (fzs x.1).bind fun ds => if ds.length ≤ big then some (.frl ds, x.2) else none := rfl
@[simp] theorem e_Call {f : List P → Option R} : xCall f xs ρ S = (xs ρ S).bind fun x => (rds x.2 x.1).bind fun ds => (f ds).map fun r => (r, x.2) := rfl
@[simp] theorem e_NilD : xNilD ρ S = some ([], S) := rfl
@[simp] theorem e_ConsB : xConsB a ys ρ S = (a ρ S).bind fun x => (ys ρ (x.1.box x.2).2).map fun y => ((x.1.box x.2).1 :: y.1, y.2) := rfl
@[simp] theorem e_ConsD : xConsD a ys ρ S = (a ρ S).bind fun x => (ys ρ (x.1.arg x.2).2).map fun y => ((x.1.arg x.2).1 :: y.1, y.2) := rfl
@[simp] theorem e_Def {f : XF} : xDef f ys ρ S = (ys ρ S).bind fun x => f x.1 x.2 := rfl
@[simp] theorem e_Set : xSet i a ρ S = (a ρ S).map fun x => (.nx (ρ.set i (some (x.1.box x.2).1)), (x.1.box x.2).2) := rfl
@[simp] theorem e_Unp {is : List Nat} : xUnp is a ρ S = (a ρ S).bind fun x => (x.1.rd x.2).bind fun d => ((Tg.tp is).put d ρ).map fun ρ' => (.nx ρ', x.2) := rfl
@[simp] theorem e_Par {is : List Nat} : xPar is ys ρ S = (ys ρ S).bind fun x => (setAllD is x.1 ρ).map fun ρ' => (.nx ρ', x.2) := rfl
@[simp] theorem e_Drop : xDrop a ρ S = (a ρ S).map fun x => (.nx ρ, x.2) := rfl
@[simp] theorem e_Ret : xRet a ρ S = (a ρ S).map fun x => (.rt x.1, x.2) := rfl
@[simp] theorem e_Pass : xPass ρ S = some (.nx ρ, S) := rfl
@[simp] theorem e_Seq : xSeq s s' ρ S = (s ρ S).bind fun x => match x.1 with | .nx ρ' => s' ρ' x.2 | fl => some (fl, x.2) := rfl
@[simp] theorem e_IfS : xIfS t s s' ρ S = (t ρ S).bind fun x => if x.1 then s ρ x.2 else s' ρ x.2 := rfl
@[simp] theorem e_Meth {ty : Ty} {f : P → List P → Option R} : xMeth ty f a xs ρ S = (a ρ S).bind fun x => (x.1.rd x.2).bind fun p0 => if isTy ty p0 then
  (xs ρ x.2).bind fun y => (x.1.rd y.2).bind fun p => (rds y.2 y.1).bind fun ps => (f p ps).map fun r => (r, y.2) else none := rfl
@[simp] theorem e_App : xApp a b ρ S = (a ρ S).bind fun x => (b ρ x.2).bind fun y => match x.1 with
  | .ref l => match y.2[l]? with
    | some (.lst ds) => (y.1.fz).bind fun d => if ds.length < big then some (.p .non, y.2.set l (.lst (ds ++ [d]))) else none
    | _ => none
  | _ => none := rfl
@[simp] theorem e_PutL {e o i : XE} : xPutL e o i ρ S = (e ρ S).bind fun v => (o ρ v.2).bind fun x => (i ρ x.2).bind fun y => match x.1, y.1 with
  | .ref l, .p (.int j) => match y.2[l]? with
    | some (.lst ds) => (v.1.fz).bind fun d => (ixP ds.length j).map fun k => (.nx ρ, y.2.set l (.lst (ds.set k d)))
    | _ => none
  | _, _ => none := rfl
@[simp] theorem rd_p : (R.p d).rd S = some d := rfl
@[simp] theorem rd_frl : (R.frl ds).rd S = some (.lst ds) := rfl
@[simp] theorem fz_p : (R.p d).fz = some d := rfl
@[simp] theorem fz_frl : (R.frl ds).fz = some (.lst ds) := rfl
@[simp] theorem box_p : (R.p d).box S = (.p d, S) := rfl
@[simp] theorem box_ref {l : Nat} : (R.ref l).box S = (.ref l, S) := rfl
@[simp] theorem box_frl : (R.frl ds).box S = (.ref S.length, S ++ [.lst ds]) := rfl
@[simp] theorem arg_p : (R.p d).arg S = (.p d, S) := rfl
@[simp] theorem arg_ref {l : Nat} : (R.ref l).arg S = (.ref l, S) := rfl
@[simp] theorem arg_frl : (R.frl ds).arg S = (.p (.lst ds), S) := rfl
@[simp] theorem rds_nil : rds S [] = some [] := rfl
@[simp] theorem rds_cons {r : R} {rs : List R} : rds S (r :: rs) = (r.rd S).bind fun d => (rds S rs).map fun ds => d :: ds := rfl
@[simp] theorem fzs_nil : fzs [] = some [] := rfl
@[simp] theorem fzs_cons {r : R} {rs : List R} : fzs (r :: rs) = (r.fz).bind fun d => (fzs rs).map fun ds => d :: ds := rfl
theorem rd_ref {l : Nat} (h : S[l]? = some (.lst ds)) : (R.ref l).rd S = some (.lst ds) := by simp [R.rd, h]
@[simp] theorem put_nm : (Tg.nm i).put d ρ = some (ρ.set i (some (.p d))) := rfl
@[simp] theorem put_tp {is : List Nat} : (Tg.tp is).put (.tup ds) ρ = setAll is ds ρ := rfl
@[simp] theorem fin_p {n : Nat} : finish n (.p d) S = some (.p d, S.take n) := rfl
@[simp] theorem fin_frl {n : Nat} : finish n (.frl ds) S = some (.frl ds, S.take n) := rfl
end
@[simp] theorem big_is : big = 1000000 := rfl
@[simp] theorem fit_int (n : Nat) (i : Int) : P.fit n (.int i) = true := by cases n <;> rfl
@[simp] theorem fit_bl (n : Nat) (b : Bool) : P.fit n (.bl b) = true := by cases n <;> rfl
@[simp] theorem fit_ints (n : Nat) (ns : List Int) : (ns.map P.int).all (P.fit n) = true := by simp
@[simp] theorem fit_lst (n : Nat) (ds : List P) : P.fit (n + 1) (.lst ds) = ds.all (P.fit n) := rfl
@[simp] theorem fit_tup (n : Nat) (ds : List P) : P.fit (n + 1) (.tup ds) = ds.all (P.fit n) := rfl
@[simp] theorem fit_lst60 (ds : List P) : P.fit 60 (.lst ds) = ds.all (P.fit 59) := rfl
@[simp] theorem fit_tup60 (ds : List P) : P.fit 60 (.tup ds) = ds.all (P.fit 59) := rfl
@[simp] theorem add_int (i j : Int) : pAdd (.int i) (.int j) = some (.p (.int (i + j))) := rfl
@[simp] theorem sub_int (i j : Int) : pSub (.int i) (.int j) = some (.p (.int (i - j))) := rfl
@[simp] theorem neg_int (i : Int) : pNeg (.int i) = some (.p (.int (-i))) := rfl
theorem mul_int (i j : Int) (h : -18446744073709551616 < i) (h2 : i < 18446744073709551616) : pMul (.int i) (.int j) = some (.p (.int (i * j))) := by
  exact if_pos (.inl ⟨h, h2⟩)
theorem mul_int' (i j : Int) (h : -18446744073709551616 < j) (h2 : j < 18446744073709551616) : pMul (.int i) (.int j) = some (.p (.int (i * j))) := by
  exact if_pos (.inr ⟨h, h2⟩)
theorem div_int (i j : Int) (h : 0 < j) (h2 : j < 1073741824) : pDiv (.int i) (.int j) = some (.p (.int (i / j))) := by
  exact if_pos ⟨h, h2⟩
theorem mod_int (i j : Int) (h : 0 < j) : pMod (.int i) (.int j) = some (.p (.int (i % j))) := by
  exact if_pos h
theorem pow_int (i : Int) (j : Nat) (h : j ≤ 1000000) (h0 : 0 ≤ i) (h2 : i < 18446744073709551616) : pPow (.int i) (.int (j : Int)) = some (.p (.int (i ^ j))) := by
  have hl : lim64 = 18446744073709551616 := rfl
  have : pPow (.int i) (.int (j : Int)) = some (.p (.int (i ^ (j : Int).toNat))) := if_pos ⟨Int.natCast_nonneg j, by omega, by rw [hl]; omega⟩
  rw [this]; simp
@[simp] theorem lt_int (i j : Int) : pLt (.int i) (.int j) = some (.p (.bl (decide (i < j)))) := rfl
@[simp] theorem le_int (i j : Int) : pLe (.int i) (.int j) = some (.p (.bl (decide (i ≤ j)))) := rfl
@[simp] theorem gt_int (i j : Int) : pGt (.int i) (.int j) = some (.p (.bl (decide (j < i)))) := rfl
@[simp] theorem ge_int (i j : Int) : pGe (.int i) (.int j) = some (.p (.bl (decide (j ≤ i)))) := rfl
@[simp] theorem eq_int (i j : Int) : pEq (.int i) (.int j) = some (.p (.bl (decide (i = j)))) := by simp [pEq, P.pyeq]
@[simp] theorem ne_int (i j : Int) : pNe (.int i) (.int j) = some (.p (.bl (!decide (i = j)))) := by simp [pNe, P.pyeq]
@[simp] theorem ix_tup0 (x : P) (xs : List P) : pIx (.tup (x :: xs)) (.int 0) = some (.p x) := by simp [pIx, ixP]
@[simp] theorem ix_tup1 (x y : P) (xs : List P) : pIx (.tup (x :: y :: xs)) (.int 1) = some (.p y) := by simp [pIx, ixP]
@[simp] theorem ix_tup2 (x y z : P) (xs : List P) : pIx (.tup (x :: y :: z :: xs)) (.int 2) = some (.p z) := by simp [pIx, ixP]
@[simp] theorem ix_lst0 (x : P) (xs : List P) : pIx (.lst (x :: xs)) (.int 0) = some (.p x) := by simp [pIx, ixP]
@[simp] theorem ix_lst1 (x y : P) (xs : List P) : pIx (.lst (x :: y :: xs)) (.int 1) = some (.p y) := by simp [pIx, ixP]
@[simp] theorem len_lst (ds : List P) : cLen [.lst ds] = some (.p (.int ds.length)) := rfl
@[simp] theorem len_tup (ds : List P) : cLen [.tup ds] = some (.p (.int ds.length)) := rfl
@[simp] theorem c_tuple (ds : List P) : cTuple [.lst ds] = some (.p (.tup ds)) := rfl
@[simp] theorem c_tuple' (ds : List P) : cTuple [.tup ds] = some (.p (.tup ds)) := rfl
@[simp] theorem c_list (ds : List P) : cList [.lst ds] = some (.frl ds) := rfl
@[simp] theorem c_list' (ds : List P) : cList [.tup ds] = some (.frl ds) := rfl
@[simp] theorem isi_app (f : P → Bool) (d : P) : pIsi f d = some (.p (.bl (f d))) := rfl
@[simp] theorem isiInt_int (i : Int) : isiInt (.int i) = true := rfl
@[simp] theorem isiBool_int (i : Int) : isiBool (.int i) = false := rfl
@[simp] theorem isiTuple_tup (ds : List P) : isiTuple (.tup ds) = true := rfl
@[simp] theorem isiStr_str (s : List Nat) : isiStr (.str s) = true := rfl
theorem ixP_of {n : Nat} {i : Int} (h0 : 0 ≤ i) (h : i.toNat < n) : ixP n i = some i.toNat := by
  unfold ixP
  rw [if_pos h0, if_pos h]
theorem ix_lst_of {ds : List P} {i : Int} {d : P} (h0 : 0 ≤ i) (h : ds[i.toNat]? = some d) : pIx (.lst ds) (.int i) = some (.p d) := by
  have hl := (List.getElem?_eq_some_iff.mp h).1
  simp [pIx, ixP_of h0 hl, h]
theorem ix_tup_of {ds : List P} {i : Int} {d : P} (h0 : 0 ≤ i) (h : ds[i.toNat]? = some d) : pIx (.tup ds) (.int i) = some (.p d) := by
  have hl := (List.getElem?_eq_some_iff.mp h).1
  simp [pIx, ixP_of h0 hl, h]
/-- a def that gives data and leaves the cells -/
theorem mkF_p {k n : Nat} {b : XS} {args : List D} {S S' : Sto} {d : P} (hk : args.length = k) (h : b (startE n args) S = some (.rt (.p d), S')) (hs : S'.take S.length = S) : mkF k n b args S = some (.p d, S) := by
  unfold mkF
  rw [if_pos hk, h]
  simp [hs]
/-! ### step by step -/
section
variable {ρ ρ' : Env} {S S' : Sto} {t : XT} {s s' : XS} {r : R}
theorem seq_nx (h : s ρ S = some (.nx ρ', S')) : xSeq s s' ρ S = s' ρ' S' := by rw [e_Seq, h]; rfl
theorem seq_rt (h : s ρ S = some (.rt r, S')) : xSeq s s' ρ S = some (.rt r, S') := by rw [e_Seq, h]; rfl
theorem ifS_t (h : t ρ S = some (true, S')) : xIfS t s s' ρ S = s ρ S' := by rw [e_IfS, h]; rfl
theorem ifS_f (h : t ρ S = some (false, S')) : xIfS t s s' ρ S = s' ρ S' := by rw [e_IfS, h]; rfl
theorem if_no (h : t ρ S = some (false, S)) : xIfS t s xPass ρ S = some (.nx ρ, S) := ifS_f h
theorem set_p {i : Nat} {a : XE} {d : P} (h : a ρ S = some (.p d, S')) : xSet i a ρ S = some (.nx (ρ.set i (some (.p d))), S') := by rw [e_Set, h]; rfl
theorem set_frl {i : Nat} {a : XE} {ds : List P} (h : a ρ S = some (.frl ds, S')) : xSet i a ρ S = some (.nx (ρ.set i (some (.ref S'.length))), S' ++ [.lst ds]) := by rw [e_Set, h]; rfl
theorem ret_p {a : XE} {d : P} (h : a ρ S = some (.p d, S')) : xRet a ρ S = some (.rt (.p d), S') := by rw [e_Ret, h]; rfl
theorem bin_p {f : P → P → Option R} {a b : XE} {p q : P} {S1 S2 : Sto} (ha : a ρ S = some (.p p, S1)) (hb : b ρ S1 = some (.p q, S2)) : xBin f a b ρ S = (f p q).map fun r => (r, S2) := by rw [e_Bin, ha]; simp [hb]
end
/-! ### draws -/
/-- the cell of draws: a count and what is left of each number -/
def Town (ns : List Int) (l : Nat) (c : Int) (S : Sto) : Prop := ∃ (t0 : Int) (tr : List Int), S[l]? = some (.lst (.int t0 :: tr.map P.int)) ∧ tr.length = ns.length ∧ 0 ≤ t0 ∧ t0 ≤ c
end XL
end
section
set_option Elab.async false
set_option linter.all false
set_option autoImplicit false
set_option maxRecDepth 100000
set_option maxHeartbeats 1000000
namespace XL
/-- behind the count and the look at the script: number at, what is left -/
theorem draw_one {n0 : Int} {nr tr : List Int} {l : Nat} {lim t1 at' sv left : Int} {S : Sto} (hS : S[l]? = some (.lst (.int t1 :: tr.map P.int))) (h0 : 0 < lim) (h1 : lim < 1000000) (hat : t1 % ((nr.length : Int) + 1) = at') (hl : tr.length = nr.length + 1)
    (hsv : (n0 :: nr)[at'.toNat]? = some sv) (hlf : tr[at'.toNat]? = some left) (ht : 0 ≤ t1) (ht2 : t1 < 2000000) :
    ∃ (v : Int) (tr' : List Int), (xSeq (xSet 3 (xBin pMod (xBin pIx (xVar 1) (xC (.int 0))) (xCall cLen (xCons (xVar 0) xNil))))
    (xSeq (xSet 4 (xBin pIx (xVar 1) (xBin pAdd (xC (.int 1)) (xVar 3))))
    (xSeq (xIfS (xTand (xB (xBin pGe (xBin pIx (xVar 0) (xVar 3)) (xBin pPow (xC (.int 10)) (xC (.int 18))))) (xB (xBin pGt (xVar 4) (xC (.int 0)))))
    (xSeq (xPutL (xBin pDiv (xVar 4) (xVar 2)) (xVar 1) (xBin pAdd (xC (.int 1)) (xVar 3)))
    (xRet (xBin pMod (xVar 4) (xVar 2))))
    xPass)
    (xSeq (xSet 5 (xBin pMod (xBin pAdd (xBin pIx (xVar 0) (xVar 3)) (xBin pMul (xC (.int 104729)) (xBin pIx (xVar 1) (xC (.int 0))))) (xC (.int 4294967291))))
    (xSeq (xSet 5 (xBin pMod (xBin pPow (xVar 5) (xC (.int 5))) (xC (.int 4294967279))))
    (xRet (xBin pMod (xBin pDiv (xBin pMod (xBin pAdd (xBin pMul (xBin pDiv (xVar 5) (xC (.int 64))) (xC (.int 69621))) (xVar 5)) (xC (.int 4294967231))) (xC (.int 8))) (xVar 2)))))))) [some (.p (.lst ((n0 :: nr).map P.int))), some (.ref l), some (.p (.int lim)), none, none, none] S
      = some (.rt (.p (.int v)), S.set l (.lst (.int t1 :: tr'.map P.int))) ∧ tr'.length = tr.length ∧ 0 ≤ v ∧ v < lim := by
  have m0 : ∀ x : Int, 0 ≤ x % lim := fun x => Int.emod_nonneg _ (by omega)
  have m1 : ∀ x : Int, x % lim < lim := fun x => Int.emod_lt_of_pos _ h0
  have q4 : ∀ j, pMod (.int j) (.int lim) = some (.p (.int (j % lim))) := fun j => mod_int _ _ (by omega)
  have q5 : ∀ j, pMod (.int j) (.int ((nr.length : Int) + 1)) = some (.p (.int (j % ((nr.length : Int) + 1)))) := fun j => mod_int _ _ (by omega)
  have q6 : ∀ j, pDiv (.int j) (.int lim) = some (.p (.int (j / lim))) := fun j => div_int _ _ (by omega) (by omega)
  have q7 : pPow (.int 10) (.int 18) = some (.p (.int 1000000000000000000)) := by decide
  have a0 : 0 ≤ at' := by rw [← hat]; exact Int.emod_nonneg _ (by omega)
  have a1 : at' < (nr.length : Int) + 1 := by rw [← hat]; exact Int.emod_lt_of_pos _ (by omega)
  have hix : pIx (.lst (.int t1 :: tr.map P.int)) (.int (1 + at')) = some (.p (.int left)) :=
    ix_lst_of (by omega) (by
      have e : (1 + at').toNat = at'.toNat + 1 := by omega
      rw [e]; simp [hlf])
  have hix2 : pIx (.lst (.int n0 :: nr.map P.int)) (.int at') = some (.p (.int sv)) :=
    ix_lst_of a0 (by
      have e : (.int n0 :: nr.map P.int) = (n0 :: nr).map P.int := rfl
      rw [e, List.getElem?_map, hsv]; rfl)
  have hixP : ixP (tr.length + 1) (1 + at') = some (at'.toNat + 1) := by
    rw [ixP_of (by omega) (by omega)]
    congr 1; omega
  generalize hA : some (D.p (.lst ((n0 :: nr).map P.int))) = A
  have k1 : xSet 3 (xBin pMod (xBin pIx (xVar 1) (xC (.int 0))) (xCall cLen (xCons (xVar 0) xNil))) [A, some (.ref l), some (.p (.int lim)), none, none, none] S = some (.nx [A, some (.ref l), some (.p (.int lim)), some (.p (.int at')), none, none], S) := by
    subst hA
    simp [hS, R.rd, q5, hat]
  have k2 : xSet 4 (xBin pIx (xVar 1) (xBin pAdd (xC (.int 1)) (xVar 3))) [A, some (.ref l), some (.p (.int lim)), some (.p (.int at')), none, none] S = some (.nx [A, some (.ref l), some (.p (.int lim)), some (.p (.int at')), some (.p (.int left)), none], S) := by
    simp [hS, R.rd, hix]
  rw [seq_nx k1, seq_nx k2]
  have k3 : xTand (xB (xBin pGe (xBin pIx (xVar 0) (xVar 3)) (xBin pPow (xC (.int 10)) (xC (.int 18))))) (xB (xBin pGt (xVar 4) (xC (.int 0)))) [A, some (.ref l), some (.p (.int lim)), some (.p (.int at')), some (.p (.int left)), none] S = some (decide (1000000000000000000 ≤ sv ∧ 0 < left), S) := by
    subst hA
    by_cases z : 1000000000000000000 ≤ sv <;> simp [q7, hix2, z]
  by_cases h18 : 1000000000000000000 ≤ sv ∧ 0 < left
  · refine ⟨left % lim, tr.set at'.toNat (left / lim), ?_, by simp, m0 _, m1 _⟩
    rw [decide_eq_true h18] at k3
    refine seq_rt ((ifS_t k3).trans ?_)
    simp [hS, R.rd, q6, q4, hixP]
  · rw [decide_eq_false h18] at k3
    have k4 := if_no (s := xSeq (xPutL (xBin pDiv (xVar 4) (xVar 2)) (xVar 1) (xBin pAdd (xC (.int 1)) (xVar 3))) (xRet (xBin pMod (xVar 4) (xVar 2)))) k3
    have q8 : ∀ j, pMul (.int 104729) (.int j) = some (.p (.int (104729 * j))) := fun j => mul_int _ _ (by omega) (by omega)
    have q9 : ∀ j, pMod (.int j) (.int 4294967291) = some (.p (.int (j % 4294967291))) := fun j => mod_int _ _ (by omega)
    have q10 : ∀ j, pMod (.int j) (.int 4294967279) = some (.p (.int (j % 4294967279))) := fun j => mod_int _ _ (by omega)
    have q11 : ∀ j, pMod (.int j) (.int 4294967231) = some (.p (.int (j % 4294967231))) := fun j => mod_int _ _ (by omega)
    have q13 : ∀ j, pDiv (.int j) (.int 64) = some (.p (.int (j / 64))) := fun j => div_int _ _ (by omega) (by omega)
    have q14 : ∀ j, pMul (.int j) (.int 69621) = some (.p (.int (j * 69621))) := fun j => mul_int' _ _ (by omega) (by omega)
    have q15 : ∀ j, pDiv (.int j) (.int 8) = some (.p (.int (j / 8))) := fun j => div_int _ _ (by omega) (by omega)
    generalize hx : (sv + 104729 * t1) % 4294967291 = x
    have x0 : 0 ≤ x := by rw [← hx]; exact Int.emod_nonneg _ (by omega)
    have x1 : x < 4294967291 := by rw [← hx]; exact Int.emod_lt_of_pos _ (by omega)
    obtain ⟨z, q12⟩ : ∃ z : Int, pPow (.int x) (.int 5) = some (.p (.int z)) := ⟨_, pow_int x 5 (by omega) x0 (by omega)⟩
    have k5 : xSet 5 (xBin pMod (xBin pAdd (xBin pIx (xVar 0) (xVar 3)) (xBin pMul (xC (.int 104729)) (xBin pIx (xVar 1) (xC (.int 0))))) (xC (.int 4294967291))) [A, some (.ref l), some (.p (.int lim)), some (.p (.int at')), some (.p (.int left)), none] S = some (.nx [A, some (.ref l), some (.p (.int lim)), some (.p (.int at')), some (.p (.int left)), some (.p (.int x))], S) := by
      subst hA
      simp [hS, R.rd, hix2, q8, q9, hx]
    generalize hy : z % 4294967279 = y
    have k6 : xSet 5 (xBin pMod (xBin pPow (xVar 5) (xC (.int 5))) (xC (.int 4294967279))) [A, some (.ref l), some (.p (.int lim)), some (.p (.int at')), some (.p (.int left)), some (.p (.int x))] S = some (.nx [A, some (.ref l), some (.p (.int lim)), some (.p (.int at')), some (.p (.int left)), some (.p (.int y))], S) := by
      have e1 : xBin pPow (xVar 5) (xC (.int 5)) [A, some (.ref l), some (.p (.int lim)), some (.p (.int at')), some (.p (.int left)), some (.p (.int x))] S = some (.p (.int z), S) := by
        rw [bin_p (S1 := S) (S2 := S) (p := .int x) (q := .int 5) rfl rfl, q12]; rfl
      refine set_p (?_ : _ = some (R.p (.int y), S))
      rw [bin_p (S1 := S) (S2 := S) e1 rfl, q10, hy]; rfl
    refine ⟨(y / 64 * 69621 + y) % 4294967231 / 8 % lim, tr, ?_, rfl, m0 _, m1 _⟩
    have hs : S.set l (.lst (.int t1 :: tr.map P.int)) = S := by
      obtain ⟨h, e⟩ := List.getElem?_eq_some_iff.mp hS
      rw [← e]; exact List.set_getElem_self h
    rw [seq_nx k4, seq_nx k5, seq_nx k6, hs]
    simp [q13, q14, q11, q15, q4]
theorem draw_ok {ns : List Int} {l : Nat} {c lim : Int} {S : Sto} (hT : Town ns l c S) (hc : c < 1000000) (h0 : 0 < lim) (h1 : lim < 1000000) :
    ∃ v S', f_law_draw [.p (.lst (ns.map P.int)), .ref l, .p (.int lim)] S = some (.p (.int v), S') ∧ 0 ≤ v ∧ v < lim ∧ ∃ C, S' = S.set l C ∧ Town ns l (c + 1) S' := by
  obtain ⟨t0, tr, hS, hl, ht, htc⟩ := hT
  have hlS : l < S.length := (List.getElem?_eq_some_iff.mp hS).1
  have hset : ∀ C, (S.set l C)[l]? = some C := fun C => by simp [hlS]
  have fin : ∀ (v : Int) (t0' : Int) (tr' : List Int), tr'.length = ns.length → 0 ≤ t0' → t0' ≤ c + 1 → 0 ≤ v → v < lim →
      b_law_draw [some (.p (.lst (ns.map P.int))), some (.ref l), some (.p (.int lim)), none, none, none] S = some (.rt (.p (.int v)), S.set l (.lst (.int t0' :: tr'.map P.int))) →
      ∃ v S', f_law_draw [.p (.lst (ns.map P.int)), .ref l, .p (.int lim)] S = some (.p (.int v), S') ∧ 0 ≤ v ∧ v < lim ∧ ∃ C, S' = S.set l C ∧ Town ns l (c + 1) S' := fun v t0' tr' a1 a2 a3 a4 a5 e => by
    refine ⟨v, S.set l (.lst (.int t0' :: tr'.map P.int)), ?_, a4, a5, _, rfl, t0', tr', hset _, a1, a2, a3⟩
    have e' : b_law_draw (startE 6 [.p (.lst (ns.map P.int)), .ref l, .p (.int lim)]) S = some (.rt (.p (.int v)), S.set l (.lst (.int t0' :: tr'.map P.int))) := e
    simp [f_law_draw, mkF, e']
    exact List.take_of_length_le (by simp)
  have k1 : xPutL (xBin pAdd (xBin pIx (xVar 1) (xC (.int 0))) (xC (.int 1))) (xVar 1) (xC (.int 0)) [some (.p (.lst (ns.map P.int))), some (.ref l), some (.p (.int lim)), none, none, none] S = some (.nx [some (.p (.lst (ns.map P.int))), some (.ref l), some (.p (.int lim)), none, none, none], S.set l (.lst (.int (t0 + 1) :: tr.map P.int))) := by
    simp [hS, R.rd, ixP]
  have m0 : ∀ x : Int, 0 ≤ x % lim := fun x => Int.emod_nonneg _ (by omega)
  have m1 : ∀ x : Int, x % lim < lim := fun x => Int.emod_lt_of_pos _ h0
  cases ns with
  | nil =>
    have q1 : ∀ j, pMul (.int (t0 + 1)) (.int j) = some (.p (.int ((t0 + 1) * j))) := fun j => mul_int _ _ (by omega) (by omega)
    have q2 : ∀ j, pMul (.int j) (.int 7) = some (.p (.int (j * 7))) := fun j => mul_int' _ _ (by omega) (by omega)
    have q3 : ∀ j, pDiv (.int j) (.int 3) = some (.p (.int (j / 3))) := fun j => div_int _ _ (by omega) (by omega)
    have q4 : ∀ j, pMod (.int j) (.int lim) = some (.p (.int (j % lim))) := fun j => mod_int _ _ (by omega)
    have : tr = [] := by simpa using hl
    subst this
    refine fin ((t0 + 1) * (t0 + 1) * 7 / 3 % lim) (t0 + 1) [] rfl (by omega) (by omega) (m0 _) (m1 _) ?_
    unfold b_law_draw
    rw [seq_nx k1]
    refine seq_rt ?_
    simp [R.rd, hset, pEq, P.pyeq, P.pyeqs, q1, q2, q3, q4]
  | cons n0 nr =>
    have hlen : tr.length = nr.length + 1 := by simpa using hl
    have a0 : 0 ≤ (t0 + 1) % ((nr.length : Int) + 1) := Int.emod_nonneg _ (by omega)
    have a1 : (t0 + 1) % ((nr.length : Int) + 1) < (nr.length : Int) + 1 := Int.emod_lt_of_pos _ (by omega)
    have b1 : ((t0 + 1) % ((nr.length : Int) + 1)).toNat < tr.length := by omega
    have b2 : ((t0 + 1) % ((nr.length : Int) + 1)).toNat < (n0 :: nr).length := by simp only [List.length_cons]; omega
    obtain ⟨v, tr', e, e1, e2, e3⟩ := draw_one (n0 := n0) (nr := nr) (hset (.lst (.int (t0 + 1) :: tr.map P.int))) h0 h1 rfl hlen (List.getElem?_eq_getElem b2) (List.getElem?_eq_getElem b1) (by omega) (by omega)
    refine fin v (t0 + 1) tr' (by rw [e1]; simpa using hl) (by omega) (by omega) e2 e3 ?_
    unfold b_law_draw
    rw [seq_nx k1]
    have k2 : xB (xBin pEq (xVar 0) (xLst xNil)) [some (.p (.lst ((n0 :: nr).map P.int))), some (.ref l), some (.p (.int lim)), none, none, none] (S.set l (.lst (.int (t0 + 1) :: tr.map P.int))) = some (false, S.set l (.lst (.int (t0 + 1) :: tr.map P.int))) := by
      simp [pEq, P.pyeq, P.pyeqs]
    rw [seq_nx (if_no k2), e]
    simp
end XL
end
section
set_option Elab.async false
set_option linter.all false
set_option autoImplicit false
set_option maxRecDepth 100000
set_option maxHeartbeats 1000000
namespace XL
/-! ### loops, plainly -/
theorem filt_true {α : Type} (l : List α) : l.filter (fun _ => true) = l := List.filter_eq_self.mpr fun _ _ => rfl
theorem cell_same {l : Option Nat} {S : Sto} : cellOk l S S = true := by cases l <;> simp [cellOk]
/-- a comprehension that changes no cell -/
theorem lcGo_map {l : Option Nat} {S : Sto} {t : Tg} {c : XT} {e : XE} {ρ : Env} (keep : P → Bool) (v : P → P) : ∀ (ds acc : List P),
    (∀ d ∈ ds, ∃ ρ1, t.put d ρ = some ρ1 ∧ c ρ1 S = some (keep d, S) ∧ (keep d = true → ∃ r, e ρ1 S = some (r, S) ∧ r.fz = some (v d))) → acc.length + ds.length ≤ big →
    lcGo l S t c e ρ ds acc S = some (acc ++ (ds.filter keep).map v, S)
  | [], acc, _, _ => by simp [lcGo]
  | d :: ds, acc, h, hl => by
    obtain ⟨ρ1, h1, h2, h3⟩ := h d List.mem_cons_self
    simp only [List.length_cons] at hl
    unfold lcGo
    rw [h1]
    simp only [Option.bind_some, h2]
    cases hk : keep d with
    | true =>
      obtain ⟨r, h4, h5⟩ := h3 hk
      simp only [if_true, h4, Option.bind_some, h5]
      rw [if_pos ⟨by omega, cell_same⟩, lcGo_map keep v ds (acc ++ [v d]) (fun x hx => h x (List.mem_cons_of_mem _ hx)) (by rw [List.length_append, List.length_singleton]; omega)]
      simp [List.filter_cons, hk]
    | false =>
      simp only [Bool.false_eq_true, if_false, cell_same, if_true]
      rw [lcGo_map keep v ds acc (fun x hx => h x (List.mem_cons_of_mem _ hx)) (by omega)]
      simp [List.filter_cons, hk]
theorem lc_map {it : XI} {t : Tg} {c : XT} {e : XE} {vs : List Nat} {ρ : Env} {S : Sto} {ds : List P} {l : Option Nat} (keep : P → Bool) (v : P → P) (hi : it ρ S = some (ds, l, S))
    (h : ∀ d ∈ ds, ∃ ρ1, t.put d (wipeE ρ vs) = some ρ1 ∧ c ρ1 S = some (keep d, S) ∧ (keep d = true → ∃ r, e ρ1 S = some (r, S) ∧ r.fz = some (v d))) (hl : ds.length ≤ big) :
    xLc it t c e vs ρ S = some (.frl ((ds.filter keep).map v), S) := by
  unfold xLc
  rw [hi]
  simp only [Option.bind_some]
  rw [lcGo_map keep v ds [] h (by simpa using hl)]
  simp
/-- without a guard -/
theorem lc_all {it : XI} {t : Tg} {e : XE} {vs : List Nat} {ρ : Env} {S : Sto} {ds : List P} {l : Option Nat} (v : P → P) (hi : it ρ S = some (ds, l, S))
    (h : ∀ d ∈ ds, ∃ ρ1, t.put d (wipeE ρ vs) = some ρ1 ∧ ∃ r, e ρ1 S = some (r, S) ∧ r.fz = some (v d)) (hl : ds.length ≤ big) :
    xLc it t xTyes e vs ρ S = some (.frl (ds.map v), S) := by
  have := lc_map (c := xTyes) (fun _ => true) v hi (fun d hd => by
    obtain ⟨ρ1, h1, h2⟩ := h d hd
    exact ⟨ρ1, h1, rfl, fun _ => h2⟩) hl
  rw [this, filt_true]
/-- two fors -/
theorem lc2_go {l : Option Nat} {S : Sto} {t t1 : Tg} {it1 : XI} {e : XE} {ρ : Env} {vs1 : List Nat} (w : P → List P) (v : P → P → P) : ∀ (ds acc : List P),
    (∀ d ∈ ds, ∃ ρ1 l1, t.put d ρ = some ρ1 ∧ it1 ρ1 S = some (w d, l1, S) ∧ ∀ x ∈ w d, ∃ ρ2, t1.put x (wipeE ρ1 vs1) = some ρ2 ∧ ∃ r, e ρ2 S = some (r, S) ∧ r.fz = some (v d x)) → acc.length + (ds.flatMap w).length ≤ big →
    lc2Go l S t xTyes it1 t1 xTyes e ρ vs1 ds acc S = some (acc ++ ds.flatMap fun d => (w d).map (v d), S)
  | [], acc, _, _ => by simp [lc2Go]
  | d :: ds, acc, h, hl => by
    obtain ⟨ρ1, l1, h1, h2, h3⟩ := h d List.mem_cons_self
    simp only [List.flatMap_cons, List.length_append] at hl
    unfold lc2Go
    rw [h1]
    simp only [Option.bind_some, e_Tyes, if_true, h2]
    rw [lcGo_map (fun _ => true) (v d) (w d) acc (fun x hx => by
      obtain ⟨ρ2, q1, q2⟩ := h3 x hx
      exact ⟨ρ2, q1, rfl, fun _ => q2⟩) (by omega)]
    simp only [Option.bind_some, cell_same, if_true, filt_true]
    rw [lc2_go w v ds _ (fun x hx => h x (List.mem_cons_of_mem _ hx)) (by rw [List.length_append, List.length_map]; omega)]
    simp
theorem lc2_all {it it1 : XI} {t t1 : Tg} {e : XE} {vs vs1 : List Nat} {ρ : Env} {S : Sto} {ds : List P} {l : Option Nat} (w : P → List P) (v : P → P → P) (hi : it ρ S = some (ds, l, S))
    (h : ∀ d ∈ ds, ∃ ρ1 l1, t.put d (wipeE ρ vs) = some ρ1 ∧ it1 ρ1 S = some (w d, l1, S) ∧ ∀ x ∈ w d, ∃ ρ2, t1.put x (wipeE ρ1 vs1) = some ρ2 ∧ ∃ r, e ρ2 S = some (r, S) ∧ r.fz = some (v d x)) (hl : (ds.flatMap w).length ≤ big) :
    xLc2 it t xTyes it1 t1 xTyes e vs vs1 ρ S = some (.frl (ds.flatMap fun d => (w d).map (v d)), S) := by
  unfold xLc2
  rw [hi]
  simp only [Option.bind_some]
  rw [lc2_go w v ds [] h (by simpa using hl)]
  simp
theorem gc_same {n0 : Nat} {ρ : Env} {S : Sto} (h : S.length ≤ n0) : gc n0 ρ S = (ρ, S) := by unfold gc; rw [if_pos h]
/-- a for: what holds ahead of each turn -/
theorem for_go {n0 : Nat} {l : Option Nat} {S0 : Sto} {t : Tg} {b : XS} (I : List P → Env → Sto → Prop)
    (step : ∀ d ds ρ S, I (d :: ds) ρ S → ∃ ρ1 ρ2 S2, t.put d ρ = some ρ1 ∧ b ρ1 S = some (.nx ρ2, S2) ∧ cellOk l S0 S2 = true ∧ S2.length ≤ n0 ∧ I ds ρ2 S2) : ∀ ds ρ S, I ds ρ S → ∃ ρ' S', forGo n0 l S0 t b ds ρ S = some (.nx ρ', S') ∧ I [] ρ' S'
  | [], ρ, S, h => ⟨ρ, S, rfl, h⟩
  | d :: ds, ρ, S, h => by
    obtain ⟨ρ1, ρ2, S2, h1, h2, h3, h4, h5⟩ := step d ds ρ S h
    obtain ⟨ρ', S', h6, h7⟩ := for_go I step ds ρ2 S2 h5
    refine ⟨ρ', S', ?_, h7⟩
    unfold forGo
    rw [h1]
    simp only [Option.bind_some, h2, gc_same h4, h3, if_true]
    exact h6
/-- a walk that changes nothing but its own slots -/
theorem itA_tup {a : XE} {ρ : Env} {S : Sto} {ds : List P} (h : a ρ S = some (.p (.tup ds), S)) : xItA a ρ S = some (ds, none, S) := by simp [xItA, xIt, h]
theorem itA_lst {a : XE} {ρ : Env} {S : Sto} {ds : List P} (h : a ρ S = some (.p (.lst ds), S)) : xItA a ρ S = some (ds, none, S) := by simp [xItA, xIt, h]
theorem itA_frl {a : XE} {ρ : Env} {S : Sto} {ds : List P} (h : a ρ S = some (.frl ds, S)) : xItA a ρ S = some (ds, none, S) := by simp [xItA, xIt, h]
theorem itA_str {a : XE} {ρ : Env} {S : Sto} {s : List Nat} (h : a ρ S = some (.p (.str s), S)) : xItA a ρ S = some (s.map fun c => .str [c], none, S) := by simp [xItA, xItS, h]
theorem rng1 {a : XE} {ρ : Env} {S : Sto} {n : Nat} (h : a ρ S = some (.p (.int n), S)) (hn : n ≤ 1000000) : xRng1 a ρ S = some (intsFrom 0 n, none, S) := by
  simp only [xRng1, h, Option.bind_some]
  rw [if_pos ⟨by omega, by omega⟩]; simp
theorem intsFrom_eq : ∀ (n : Nat) (lo : Int), intsFrom lo n = (List.range n).map fun (i : Nat) => P.int (lo + i)
  | 0, lo => rfl
  | n + 1, lo => by
    rw [intsFrom, intsFrom_eq n (lo + 1), List.range_succ_eq_map, List.map_cons, List.map_map]
    simp only [Int.natCast_zero, Int.add_zero, List.cons.injEq, true_and]
    refine List.map_congr_left fun i _ => ?_
    simp only [Function.comp, P.int.injEq, Nat.succ_eq_add_one, Int.natCast_add]
    omega
/-! ### sorted ints, each once -/
def insS (x : Int) : List Int → List Int
  | [] => [x]
  | y :: ys => if x < y then x :: y :: ys else if x = y then y :: ys else y :: insS x ys
def endsOf : List Int → List Int
  | [] => []
  | x :: xs => insS x (endsOf xs)
/-- how many different numbers of a list are less -/
def rk (x : Int) : List Int → Nat
  | [] => 0
  | y :: ys => (if y ∈ ys then 0 else if y < x then 1 else 0) + rk x ys
abbrev Asc (l : List Int) : Prop := l.Pairwise (· < ·)
theorem insS_mem {x z : Int} : ∀ {l : List Int}, z ∈ insS x l ↔ z = x ∨ z ∈ l
  | [] => by simp [insS]
  | y :: ys => by
    unfold insS
    split
    · simp
    · split
      · rename_i h; subst h; simp
      · simp [insS_mem (l := ys)]
        constructor <;> rintro (h | h | h) <;> simp [h]
theorem insS_asc {x : Int} : ∀ {l : List Int}, Asc l → Asc (insS x l)
  | [], _ => by simp [insS]
  | y :: ys, h => by
    obtain ⟨h1, h2⟩ := List.pairwise_cons.mp h
    unfold insS
    split
    · rename_i c
      refine List.pairwise_cons.mpr ⟨fun z hz => ?_, h⟩
      rcases List.mem_cons.mp hz with rfl | hz
      · exact c
      · exact Int.lt_trans c (h1 z hz)
    · split
      · exact h
      · rename_i c d
        refine List.pairwise_cons.mpr ⟨fun z hz => ?_, insS_asc h2⟩
        rcases insS_mem.mp hz with rfl | hz
        · omega
        · exact h1 z hz
theorem ends_mem {z : Int} : ∀ {l : List Int}, z ∈ endsOf l ↔ z ∈ l
  | [] => by simp [endsOf]
  | y :: ys => by simp [endsOf, insS_mem, ends_mem (l := ys)]
theorem ends_asc : ∀ (l : List Int), Asc (endsOf l)
  | [] => List.Pairwise.nil
  | y :: ys => insS_asc (ends_asc ys)
theorem asc_one : ∀ {l m : List Int}, Asc l → Asc m → (∀ k, k ∈ l ↔ k ∈ m) → l = m
  | [], [], _, _, _ => rfl
  | [], y :: ys, _, _, h => absurd ((h y).mpr List.mem_cons_self) (by simp)
  | x :: xs, [], _, _, h => absurd ((h x).mp List.mem_cons_self) (by simp)
  | x :: xs, y :: ys, hl, hm, h => by
    obtain ⟨a1, a2⟩ := List.pairwise_cons.mp hl
    obtain ⟨b1, b2⟩ := List.pairwise_cons.mp hm
    have e : x = y := by
      rcases List.mem_cons.mp ((h x).mp List.mem_cons_self) with e | e
      · exact e
      · rcases List.mem_cons.mp ((h y).mpr List.mem_cons_self) with e' | e'
        · exact e'.symm
        · have := b1 x e; have := a1 y e'; omega
    subst e
    rw [asc_one a2 b2 fun k => ?_]
    constructor
    · intro hk
      rcases List.mem_cons.mp ((h k).mp (List.mem_cons_of_mem _ hk)) with e | e
      · subst e; have := a1 k hk; omega
      · exact e
    · intro hk
      rcases List.mem_cons.mp ((h k).mpr (List.mem_cons_of_mem _ hk)) with e | e
      · subst e; have := b1 k hk; omega
      · exact e
theorem ends_congr {l m : List Int} (h : ∀ k, k ∈ l ↔ k ∈ m) : endsOf l = endsOf m := asc_one (ends_asc l) (ends_asc m) fun k => by rw [ends_mem, ends_mem]; exact h k
theorem lt_ints (x y : Int) : P.lt (.int x) (.int y) = decide (x < y) := by simp only [P.lt]
theorem pyeq_ints (x y : Int) : P.pyeq (.int x) (.int y) = decide (x = y) := by simp only [P.pyeq]
theorem insP_int (x : Int) : ∀ l : List Int, x ∉ l → insP (.int x) (l.map P.int) = (insS x l).map P.int
  | [], _ => rfl
  | y :: ys, h => by
    simp only [List.mem_cons, not_or] at h
    rw [List.map_cons]
    unfold insP insS
    by_cases c : y < x
    · rw [if_pos (by rw [lt_ints]; exact decide_eq_true c), if_neg (show ¬ x < y by omega), if_neg h.1, insP_int x ys h.2]; rfl
    · rw [if_neg (by rw [lt_ints]; simpa using c), if_pos (show x < y by omega)]; rfl
theorem sortSet_int : ∀ l : List Int, sortP (dedupP (l.map P.int)) = (endsOf l).map P.int
  | [] => rfl
  | x :: xs => by
    have hm : (P.int x ∈ xs.map P.int) ↔ x ∈ xs := by simp
    simp only [List.map_cons, dedupP]
    by_cases c : x ∈ xs
    · rw [if_pos (hm.mpr c), sortSet_int xs]
      congr 1
      refine ends_congr fun k => ⟨fun h => List.mem_cons_of_mem _ h, fun h => ?_⟩
      rcases List.mem_cons.mp h with rfl | h
      · exact c
      · exact h
    · rw [if_neg (fun z => c (hm.mp z)), sortP, sortSet_int xs, insP_int x _ (fun z => c (ends_mem.mp z))]; rfl
theorem setOk_int {l : List Int} (h : l.length ≤ 4000) : setOk (l.map P.int) = true := by
  unfold setOk
  simp [isIntP, h]
theorem sortedSet_int {l : List Int} (h : l.length ≤ 4000) : uSortedSet (.lst (l.map P.int)) = some (.frl ((endsOf l).map P.int)) := by
  have : uSortedSet (.lst (l.map P.int)) = some (.frl (sortP (dedupP (l.map P.int)))) := if_pos (setOk_int h)
  rw [this, sortSet_int]
theorem rk_ins {x y : Int} : ∀ {l : List Int}, Asc l → ((insS y l).filter fun z => decide (z < x)).length = (if y ∈ l then 0 else if y < x then 1 else 0) + (l.filter fun z => decide (z < x)).length
  | [], _ => by
    simp only [insS, List.not_mem_nil, if_false, List.filter_nil, List.length_nil, Nat.add_zero]
    by_cases c : y < x <;> simp [c]
  | z :: zs, h => by
    obtain ⟨h1, h2⟩ := List.pairwise_cons.mp h
    unfold insS
    by_cases c : y < z
    · have hn : y ∉ z :: zs := by
        intro q
        rcases List.mem_cons.mp q with e | e
        · omega
        · have := h1 y e; omega
      rw [if_pos c, if_neg hn]
      by_cases d : y < x <;> simp [List.filter_cons, d] <;> omega
    · rw [if_neg c]
      by_cases e : y = z
      · rw [if_pos e, if_pos (by simp [e])]; omega
      · rw [if_neg e]
        have hm : y ∈ z :: zs ↔ y ∈ zs := by simp [e]
        have ih := rk_ins (x := x) (y := y) h2
        by_cases d : z < x
        · simp only [List.filter_cons, d, decide_true, if_true, List.length_cons, ih, hm]; omega
        · simp only [List.filter_cons, d, decide_false, Bool.false_eq_true, if_false, ih, hm]
theorem rk_ends {x : Int} : ∀ l : List Int, ((endsOf l).filter fun z => decide (z < x)).length = rk x l
  | [] => rfl
  | y :: ys => by
    show ((insS y (endsOf ys)).filter _).length = _
    rw [rk_ins (ends_asc ys), rk_ends ys]
    simp only [ends_mem, rk]
/-- the place in an ascending list -/
theorem idx_asc {x : Int} : ∀ {l : List Int}, Asc l → x ∈ l → idxIn (.int x) (l.map P.int) = some (l.filter fun z => decide (z < x)).length
  | [], _, h => by cases h
  | z :: zs, h, hx => by
    obtain ⟨h1, h2⟩ := List.pairwise_cons.mp h
    rw [List.map_cons]
    unfold idxIn
    by_cases e : z = x
    · subst e
      rw [if_pos (by rw [pyeq_ints]; simp)]
      have : (z :: zs).filter (fun w => decide (w < z)) = [] := by
        rw [List.filter_eq_nil_iff]
        intro w hw
        rcases List.mem_cons.mp hw with rfl | hw
        · simp
        · have := h1 w hw; simp; omega
      rw [this]; rfl
    · rw [if_neg (by rw [pyeq_ints]; simpa using e)]
      have hx' : x ∈ zs := (List.mem_cons.mp hx).resolve_left (Ne.symm e)
      have := h1 x hx'
      rw [idx_asc h2 hx', List.filter_cons, if_pos (by simpa using this)]; rfl
theorem idx_ends {x : Int} {l : List Int} (h : x ∈ l) : idxIn (.int x) ((endsOf l).map P.int) = some (rk x l) := by
  rw [idx_asc (ends_asc l) (ends_mem.mpr h), rk_ends]
theorem index_ends {x : Int} {l : List Int} (h : x ∈ l) : mIndex (.lst ((endsOf l).map P.int)) [.int x] = some (.p (.int (rk x l))) := by
  simp [mIndex, idx_ends h]
end XL
end
section
set_option Elab.async false
set_option linter.all false
set_option autoImplicit false
set_option maxRecDepth 100000
set_option maxHeartbeats 1000000
namespace XL
/-! ### scenes -/
abbrev Span := Int × Int
def pr (x : Span) : P := .tup [.int x.1, .int x.2]
def scP (sc : List Span) : P := .tup (sc.map pr)
def endsL (sc : List Span) : List Int := sc.flatMap fun x => [x.1, x.2]
def form (sc : List Span) : List Span := sc.map fun x => (((rk x.1 (endsL sc) : Nat) : Int), ((rk x.2 (endsL sc) : Nat) : Int))
structure SpanOk (x : Span) : Prop where
  lo : -1000 ≤ x.1
  mid : x.1 < x.2
  hi : x.2 ≤ 1000
structure Valid (sc : List Span) : Prop where
  one : 1 ≤ sc.length
  five : sc.length ≤ 5
  ok : ∀ x ∈ sc, SpanOk x
theorem fin_same {k n : Nat} {b : XS} {args : List D} {S : Sto} {d : P} (hk : args.length = k) (h : b (startE n args) S = some (.rt (.p d), S)) : mkF k n b args S = some (.p d, S) :=
  mkF_p hk h (List.take_of_length_le (Nat.le_refl _))
theorem fin_none {k n : Nat} {b : XS} {args : List D} {ρ : Env} {S : Sto} (hk : args.length = k) (h : b (startE n args) S = some (.nx ρ, S)) : mkF k n b args S = some (.p .non, S) := by
  unfold mkF
  rw [if_pos hk, h]
  simp
theorem take_app {S T : Sto} : (S ++ T).take S.length = S := by simp
theorem is_between_int (v lo hi : Int) (S : Sto) : f_is_between [.p (.int v), .p (.int lo), .p (.int hi)] S = some (.p (.bl (decide (lo ≤ v ∧ v ≤ hi))), S) := by
  refine fin_same rfl ?_
  by_cases h : lo ≤ v <;> simp [b_is_between, startE, h]
theorem is_scene_ok {sc : List Span} (h : Valid sc) (S : Sto) : f_is_scene [.p (scP sc)] S = some (.p (.bl true), S) := by
  refine fin_same rfl ?_
  have h1 := h.one
  have h5 := h.five
  unfold b_is_scene
  have k1 : xTor (xTnot (xB (xUn (pIsi isiTuple) (xVar 0)))) (xTnot (xB (xChain pLe pLe (xC (.int 1)) (xCall cLen (xCons (xVar 0) xNil)) (xC (.int 5))))) (startE 2 [.p (scP sc)]) S = some (false, S) := by
    have a1 : (1 : Int) ≤ sc.length := by omega
    have a2 : (sc.length : Int) ≤ 5 := by omega
    simp [startE, scP, a1, a2]
  rw [seq_nx (if_no k1)]
  have k2 : ∃ ρ', xFor (xItA (xVar 0)) (.nm 1)
    (xSeq (xIfS (xTor (xTnot (xB (xUn (pIsi isiTuple) (xVar 1)))) (xTor (xB (xBin pNe (xCall cLen (xCons (xVar 1) xNil)) (xC (.int 2)))) (xTnot (xB (xDef f_is_between (xConsD (xBin pIx (xVar 1) (xC (.int 0))) (xConsD (xUn pNeg (xC (.int 1000))) (xConsD (xC (.int 1000)) xNilD))))))))
    (xRet (xC (.bl false)))
    xPass)
    (xIfS (xTnot (xB (xDef f_is_between (xConsD (xBin pIx (xVar 1) (xC (.int 1))) (xConsD (xBin pAdd (xBin pIx (xVar 1) (xC (.int 0))) (xC (.int 1))) (xConsD (xC (.int 1000)) xNilD))))))
    (xRet (xC (.bl false)))
    xPass)) (startE 2 [.p (scP sc)]) S = some (.nx ρ', S) := by
    unfold xFor
    rw [itA_tup (ds := sc.map pr) (by simp [startE, scP])]
    simp only [Option.bind_some]
    obtain ⟨ρ', S', e, hI⟩ := for_go (n0 := S.length) (l := none) (S0 := S) (t := .nm 1) (b := xSeq (xIfS (xTor (xTnot (xB (xUn (pIsi isiTuple) (xVar 1)))) (xTor (xB (xBin pNe (xCall cLen (xCons (xVar 1) xNil)) (xC (.int 2)))) (xTnot (xB (xDef f_is_between (xConsD (xBin pIx (xVar 1) (xC (.int 0))) (xConsD (xUn pNeg (xC (.int 1000))) (xConsD (xC (.int 1000)) xNilD))))))))
    (xRet (xC (.bl false)))
    xPass)
    (xIfS (xTnot (xB (xDef f_is_between (xConsD (xBin pIx (xVar 1) (xC (.int 1))) (xConsD (xBin pAdd (xBin pIx (xVar 1) (xC (.int 0))) (xC (.int 1))) (xConsD (xC (.int 1000)) xNilD))))))
    (xRet (xC (.bl false)))
    xPass)) (fun ds ρ S' => S' = S ∧ (∃ y, ρ = [some (.p (scP sc)), y]) ∧ ∀ d ∈ ds, ∃ x, SpanOk x ∧ d = pr x) (fun d ds ρ S' hI => by
      obtain ⟨rfl, ⟨y, rfl⟩, hd⟩ := hI
      obtain ⟨x, hx, rfl⟩ := hd d List.mem_cons_self
      have h1 := hx.lo
      have h2 := hx.mid
      have h3 := hx.hi
      have b1 : -1000 ≤ x.1 ∧ x.1 ≤ 1000 := by omega
      have b2 : x.1 + 1 ≤ x.2 ∧ x.2 ≤ 1000 := by omega
      refine ⟨_, [some (.p (scP sc)), some (.p (pr x))], S', rfl, ?_, rfl, Nat.le_refl _, rfl, ⟨_, rfl⟩, fun e he => hd e (List.mem_cons_of_mem _ he)⟩
      simp [pr, is_between_int, b1, b2]) (sc.map pr) (startE 2 [.p (scP sc)]) S ⟨rfl, ⟨none, rfl⟩, fun d hd => by
        obtain ⟨x, hx, rfl⟩ := List.mem_map.mp hd
        exact ⟨x, h.ok x hx, rfl⟩⟩
    obtain ⟨rfl, _, _⟩ := hI
    exact ⟨ρ', e⟩
  obtain ⟨ρ', k2⟩ := k2
  rw [seq_nx k2]
  rfl
theorem check_scene_ok {sc : List Span} (h : Valid sc) (S : Sto) : f_check_scene [.p (scP sc)] S = some (.p .non, S) := by
  refine fin_none (ρ := [some (.p (scP sc))]) rfl ?_
  simp [b_check_scene, startE, is_scene_ok h]
theorem endsL_len (sc : List Span) : (endsL sc).length = 2 * sc.length := by
  induction sc with
  | nil => rfl
  | cons x xs ih => simp [endsL] at ih ⊢; omega
theorem mem_ends {sc : List Span} {x : Span} (h : x ∈ sc) : x.1 ∈ endsL sc ∧ x.2 ∈ endsL sc := by
  unfold endsL
  constructor <;> exact List.mem_flatMap.mpr ⟨x, h, by simp⟩
theorem found_form_ok {sc : List Span} (hl : sc.length ≤ 1000) (S : Sto) : f_found_form [.p (scP sc)] S = some (.p (scP (form sc)), S) := by
  have k1 : xSet 1 (xUn uSortedSet (xLc2 (xItA (xVar 0)) (.nm 2) xTyes (xItA (xVar 2)) (.nm 3) xTyes (xVar 3) [2, 3] [3])) (startE 5 [.p (scP sc)]) S = some (.nx [some (.p (scP sc)), some (.ref S.length), none, none, none], S ++ [.lst ((endsOf (endsL sc)).map P.int)]) := by
    have e : xLc2 (xItA (xVar 0)) (.nm 2) xTyes (xItA (xVar 2)) (.nm 3) xTyes (xVar 3) [2, 3] [3] (startE 5 [.p (scP sc)]) S = some (.frl ((endsL sc).map P.int), S) := by
      rw [lc2_all (ds := sc.map pr) (l := none) (fun d => match d with | .tup l => l | _ => []) (fun _ x => x) (itA_tup (by simp [startE, scP])) (fun d hd => by
        obtain ⟨x, hx, rfl⟩ := List.mem_map.mp hd
        refine ⟨_, none, rfl, itA_tup (by simp [startE, wipeE, pr]), fun y hy => ⟨_, rfl, ?_⟩⟩
        refine ⟨.p y, ?_, rfl⟩
        simp [startE, wipeE]) (by
          have : (sc.map pr).flatMap (fun d => match d with | .tup l => l | _ => []) = sc.flatMap fun x => [P.int x.1, P.int x.2] := by
            rw [List.flatMap_map]; rfl
          rw [this]
          have e2 : (sc.flatMap fun x => [P.int x.1, P.int x.2]).length = 2 * sc.length := by
            clear this hl
            induction sc with
            | nil => rfl
            | cons x xs ih => simp at ih ⊢; omega
          rw [e2, big_is]; omega)]
      simp only [List.map_id']
      congr 3
      clear hl
      induction sc with
      | nil => rfl
      | cons x xs ih => simp [endsL, pr] at ih ⊢; exact ih
    have e2 : xUn uSortedSet (xLc2 (xItA (xVar 0)) (.nm 2) xTyes (xItA (xVar 2)) (.nm 3) xTyes (xVar 3) [2, 3] [3]) (startE 5 [.p (scP sc)]) S = some (.frl ((endsOf (endsL sc)).map P.int), S) := by
      rw [e_Un, e]
      simp only [Option.bind_some, rd_frl]
      rw [sortedSet_int (by rw [endsL_len]; omega)]; rfl
    rw [set_frl e2]; rfl
  have k2 : xLc (xItA (xVar 0)) (.tp [4, 3]) xTyes (xTup (xCons (xMeth .lst mIndex (xVar 1) (xCons (xVar 4) xNil)) (xCons (xMeth .lst mIndex (xVar 1) (xCons (xVar 3) xNil)) xNil))) [4, 3] [some (.p (scP sc)), some (.ref S.length), none, none, none] (S ++ [.lst ((endsOf (endsL sc)).map P.int)]) = some (.frl ((form sc).map pr), S ++ [.lst ((endsOf (endsL sc)).map P.int)]) := by
    rw [lc_all (ds := sc.map pr) (l := none) (fun d => match d with | .tup [.int a, .int b] => pr ((rk a (endsL sc) : Nat), (rk b (endsL sc) : Nat)) | _ => .non) (itA_tup (by simp [scP])) (fun d hd => by
      obtain ⟨x, hx, rfl⟩ := List.mem_map.mp hd
      refine ⟨[some (.p (scP sc)), some (.ref S.length), none, some (.p (.int x.2)), some (.p (.int x.1))], rfl, .p (pr ((rk x.1 (endsL sc) : Nat), (rk x.2 (endsL sc) : Nat))), ?_, rfl⟩
      obtain ⟨m1, m2⟩ := mem_ends hx
      simp [R.rd, isTy, index_ends m1, index_ends m2, pr]) (by rw [big_is, List.length_map]; omega)]
    congr 3
    simp [form, pr, List.map_map, Function.comp]
  have k3 : b_found_form (startE 5 [.p (scP sc)]) S = some (.rt (.p (scP (form sc))), S ++ [.lst ((endsOf (endsL sc)).map P.int)]) := by
    unfold b_found_form
    rw [seq_nx k1]
    refine ret_p ?_
    rw [e_Call, e_Cons, k2]
    simp [scP]
  exact mkF_p rfl k3 take_app
theorem form_of_ok {sc : List Span} (h : Valid sc) (S : Sto) : f_form_of [.p (scP sc)] S = some (.p (scP (form sc)), S) := by
  refine fin_same rfl ?_
  have h5 := h.five
  simp [b_form_of, startE, check_scene_ok h, found_form_ok (show sc.length ≤ 1000 by omega)]
end XL
end
section
set_option Elab.async false
set_option linter.all false
set_option autoImplicit false
set_option maxRecDepth 100000
set_option maxHeartbeats 1000000
namespace XL
/-! ### ways -/
def letter (x y : Span) : List Nat :=
  if x.2 ≤ y.1 then (if x.2 = y.1 then [109] else [98])
  else if y.2 ≤ x.1 then (if y.2 = x.1 then [77] else [66])
  else if x.1 = y.1 then (if x.2 = y.2 then [101] else if x.2 < y.2 then [115] else [83])
  else if x.2 = y.2 then (if y.1 < x.1 then [102] else [70])
  else if x.1 < y.1 then (if x.2 < y.2 then [111] else [68])
  else (if x.2 < y.2 then [100] else [79])
theorem letter_of_ok (x y : Span) (S : Sto) : f_letter_of [.p (pr x), .p (pr y)] S = some (.p (.str (letter x y)), S) := by
  refine fin_same rfl ?_
  obtain ⟨a, b⟩ := x
  obtain ⟨c, d⟩ := y
  unfold letter
  by_cases h1 : b ≤ c
  · by_cases h : b = c
    · subst h; simp [b_letter_of, startE, pr]
    · simp [b_letter_of, startE, pr, h1, h]
  · by_cases h2 : d ≤ a
    · by_cases h : d = a
      · subst h; simp [b_letter_of, startE, pr, h1]
      · simp [b_letter_of, startE, pr, h1, h2, h]
    · by_cases h3 : a = c
      · subst h3
        by_cases h : b = d
        · subst h; simp [b_letter_of, startE, pr, h1]
        · by_cases h' : b < d <;> simp [b_letter_of, startE, pr, h1, h2, h, h']
      · by_cases h4 : b = d
        · subst h4
          by_cases h : c < a <;> simp [b_letter_of, startE, pr, h1, h2, h3, h]
        · by_cases h5 : a < c <;> by_cases h : b < d <;> simp [b_letter_of, startE, pr, h1, h2, h3, h4, h5, h]
theorem way_of_ok {sc : List Span} (h : Valid sc) {i j : Nat} {x y : Span} (hi : sc[i]? = some x) (hj : sc[j]? = some y) (S : Sto) : f_way_of [.p (scP sc), .p (.int i), .p (.int j)] S = some (.p (.str (letter x y)), S) := by
  refine fin_same rfl ?_
  have li := (List.getElem?_eq_some_iff.mp hi).1
  have lj := (List.getElem?_eq_some_iff.mp hj).1
  have b1 : (0 : Int) ≤ i ∧ (i : Int) ≤ sc.length - 1 := by omega
  have b2 : (0 : Int) ≤ j ∧ (j : Int) ≤ sc.length - 1 := by omega
  have e1 : pIx (scP sc) (.int i) = some (.p (pr x)) := ix_tup_of (by omega) (by simp [hi])
  have e2 : pIx (scP sc) (.int j) = some (.p (pr y)) := ix_tup_of (by omega) (by simp [hj])
  have e3 : cLen [scP sc] = some (.p (.int sc.length)) := by simp [scP]
  simp [b_way_of, startE, check_scene_ok h, e1, e2, e3, is_between_int, b1, b2, letter_of_ok]
theorem law_letter_ok (x y : Span) (hx : x.1 < x.2) (hy : y.1 < y.2) (S : Sto) : f_law_letter [.p (pr x), .p (pr y)] S = some (.p (.str (letter x y)), S) := by
  refine fin_same rfl ?_
  obtain ⟨a, b⟩ := x
  obtain ⟨c, d⟩ := y
  simp only at hx hy
  have i1 : ∀ s1 s2 s3 : P, pIx (.tup [s1, s2, s3]) (.int 1) = some (.p s2) := fun _ _ _ => rfl
  have g : ∀ (t : List Nat) (u v w : Nat), t = [u, v, w] → pIx (.str t) (.int 0) = some (.p (.str [u])) ∧ pIx (.str t) (.int 1) = some (.p (.str [v])) ∧ pIx (.str t) (.int 2) = some (.p (.str [w])) := fun t u v w e => by subst e; exact ⟨rfl, rfl, rfl⟩
  have g1 := g [111, 70, 68] _ _ _ rfl
  have g2 := g [115, 101, 83] _ _ _ rfl
  have g3 := g [100, 102, 79] _ _ _ rfl
  unfold letter
  rcases Int.lt_trichotomy b c with h1 | h1 | h1
  · have : b ≤ c := by omega
    have : ¬ b = c := by omega
    simp [b_law_letter, startE, pr, *]
  · subst h1
    have : ¬ d < a := by omega
    simp [b_law_letter, startE, pr, *]
  · have n1 : ¬ b ≤ c := by omega
    have n2 : ¬ b < c := by omega
    have n3 : ¬ b = c := by omega
    rcases Int.lt_trichotomy d a with h2 | h2 | h2
    · have : d ≤ a := by omega
      have : ¬ d = a := by omega
      simp [b_law_letter, startE, pr, *]
    · subst h2
      simp [b_law_letter, startE, pr, *]
    · have n4 : ¬ d ≤ a := by omega
      have n5 : ¬ d < a := by omega
      have n6 : ¬ d = a := by omega
      rcases Int.lt_trichotomy a c with h3 | h3 | h3
      · have : ¬ c < a := by omega
        have : ¬ a = c := by omega
        rcases Int.lt_trichotomy b d with h4 | h4 | h4
        · have : ¬ d < b := by omega
          have : ¬ b = d := by omega
          simp [b_law_letter, startE, pr, cInt, *]
        · subst h4
          simp [b_law_letter, startE, pr, cInt, *]
        · have : ¬ b < d := by omega
          have : ¬ b = d := by omega
          simp [b_law_letter, startE, pr, cInt, *]
      · subst h3
        rcases Int.lt_trichotomy b d with h4 | h4 | h4
        · have : ¬ d < b := by omega
          have : ¬ b = d := by omega
          simp [b_law_letter, startE, pr, cInt, *]
        · subst h4
          simp [b_law_letter, startE, pr, cInt, *]
        · have : ¬ b < d := by omega
          have : ¬ b = d := by omega
          simp [b_law_letter, startE, pr, cInt, *]
      · have : ¬ a < c := by omega
        have : ¬ a = c := by omega
        rcases Int.lt_trichotomy b d with h4 | h4 | h4
        · have : ¬ d < b := by omega
          have : ¬ b = d := by omega
          simp [b_law_letter, startE, pr, cInt, *]
        · subst h4
          simp [b_law_letter, startE, pr, cInt, *]
        · have : ¬ b < d := by omega
          have : ¬ b = d := by omega
          simp [b_law_letter, startE, pr, cInt, *]
end XL
end
section
set_option Elab.async false
set_option linter.all false
set_option autoImplicit false
set_option maxRecDepth 100000
set_option maxHeartbeats 1000000
namespace XL
/-! ### texts of one-letter ways -/
def st1 (c : Nat) : P := .str [c]
theorem join_st : ∀ l : List Nat, joinT [] (l.map fun c => [c]) = l
  | [] => rfl
  | [x] => rfl
  | x :: y :: r => by
    have := join_st (y :: r)
    simp only [List.map_cons] at this ⊢
    rw [joinT, this]; rfl
    simp
theorem strs_st : ∀ l : List Nat, strsOf (l.map st1) = some (l.map fun c => [c])
  | [] => rfl
  | x :: r => by
    have e : strsOf ((x :: r).map st1) = (strsOf (r.map st1)).map fun bs => [x] :: bs := rfl
    rw [e, strs_st r]; rfl
theorem sum_st (l : List Nat) : ((l.map fun c => [c]).map (·.length)).sum = l.length := by
  induction l with
  | nil => rfl
  | cons x r ih => simp at ih ⊢; omega
theorem mjoin_st {l : List Nat} (h : l.length ≤ 1000) : mJoin (.str []) [.lst (l.map st1)] = some (.p (.str l)) := by
  have e : mJoin (.str []) [.lst (l.map st1)] = (strsOf (l.map st1)).bind fun ts => if (ts.map (·.length)).sum + ts.length * ([] : List Nat).length ≤ big then some (.p (.str (joinT [] ts))) else none := rfl
  rw [e, strs_st, Option.bind_some, sum_st, if_pos (by rw [big_is]; simp; omega), join_st]
/-- the letters that are in a text, in their sequence -/
def inSeq (s : List Nat) : List Nat := c_LETTERS.filter fun c => decide (c ∈ s)
def IsWays (s : List Nat) : Prop := s ≠ [] ∧ inSeq s = s
instance (s : List Nat) : Decidable (IsWays s) := by unfold IsWays; infer_instance
theorem IsWays.mem {s : List Nat} (h : IsWays s) {c : Nat} (hc : c ∈ s) : c ∈ c_LETTERS := by
  rw [← h.2] at hc
  exact (List.mem_filter.mp hc).1
theorem letters_small : ∀ c ∈ c_LETTERS, c < 128 := by decide
theorem fit_st {s : List Nat} (h : ∀ c ∈ s, c < 1114112) (n : Nat) : P.fit n (.str s) = true := by
  have : (s.all fun c => decide (c < 1114112)) = true := by simpa using h
  cases n <;> exact this
theorem eq_str {s t : List Nat} (h : ∀ c ∈ s, c < 1114112) (h2 : ∀ c ∈ t, c < 1114112) : pEq (.str s) (.str t) = some (.p (.bl (decide (s = t)))) := by
  simp [pEq, fit_st h, fit_st h2, P.pyeq]
theorem ne_str {s t : List Nat} (h : ∀ c ∈ s, c < 1114112) (h2 : ∀ c ∈ t, c < 1114112) : pNe (.str s) (.str t) = some (.p (.bl (!decide (s = t)))) := by
  simp [pNe, fit_st h, fit_st h2, P.pyeq]
theorem inSeq_small {s : List Nat} : ∀ c ∈ inSeq s, c < 1114112 := fun c hc => by
  have := letters_small c (List.mem_filter.mp hc).1
  omega
theorem is_ways_str {s : List Nat} (h : ∀ c ∈ s, c < 1114112) (S : Sto) : f_is_ways [.p (.str s)] S = some (.p (.bl (decide (IsWays s))), S) := by
  refine fin_same rfl ?_
  have e0 : pEq (.str s) (.str []) = some (.p (.bl (decide (s = [])))) := eq_str h (fun c hc => by cases hc)
  have k1 : xLc (xItA (xC (.str c_LETTERS))) (.nm 1) (xB (xBin pIn (xVar 1) (xVar 0))) (xVar 1) [1] [some (.p (.str s)), none] S = some (.frl ((inSeq s).map st1), S) := by
    rw [lc_map (ds := c_LETTERS.map st1) (l := none) (fun d => match d with | .str [c] => decide (c ∈ s) | _ => false) id (itA_str rfl) (fun d hd => by
      obtain ⟨c, hc, rfl⟩ := List.mem_map.mp hd
      refine ⟨_, rfl, ?_, fun _ => ⟨.p (st1 c), ?_, rfl⟩⟩
      · simp [wipeE, st1, pIn]
      · simp [wipeE, st1]) (by decide)]
    congr 3
    simp only [List.map_id, inSeq, List.filter_map]
    rfl
  have k2 : xMeth .str mJoin (xC (.str [])) (xCons (xLc (xItA (xC (.str c_LETTERS))) (.nm 1) (xB (xBin pIn (xVar 1) (xVar 0))) (xVar 1) [1]) xNil) [some (.p (.str s)), none] S = some (.p (.str (inSeq s)), S) := by
    have hl : (inSeq s).length ≤ 1000 := Nat.le_trans (List.length_filter_le _ _) (by decide)
    have k1' : xCons (xLc (xItA (xC (.str c_LETTERS))) (.nm 1) (xB (xBin pIn (xVar 1) (xVar 0))) (xVar 1) [1]) xNil [some (.p (.str s)), none] S = some ([.frl ((inSeq s).map st1)], S) := by
      rw [e_Cons, k1]; rfl
    rw [e_Meth, e_C]
    simp only [Option.bind_some, rd_p, isTy, if_true, k1', rds_cons, rd_frl, rds_nil, Option.map_some, mjoin_st hl]
  have e1 : startE 2 [.p (.str s)] = [some (.p (.str s)), none] := rfl
  unfold b_is_ways
  rw [e1]
  by_cases hs : s = []
  · subst hs
    refine seq_rt ?_
    simp [e0, IsWays]
  · have k3 : xTor (xTnot (xB (xUn (pIsi isiStr) (xVar 0)))) (xB (xBin pEq (xVar 0) (xC (.str [])))) [some (.p (.str s)), none] S = some (false, S) := by
      simp [e0, hs]
    rw [seq_nx (if_no k3)]
    refine ret_p ?_
    rw [bin_p k2 rfl, eq_str inSeq_small h]
    simp [IsWays, hs]
theorem IsWays.small {s : List Nat} (h : IsWays s) : ∀ c ∈ s, c < 1114112 := fun c hc => by
  have := letters_small c (h.mem hc); omega
theorem IsWays.len {s : List Nat} (h : IsWays s) : s.length ≤ 13 := by
  rw [← h.2]; exact Nat.le_trans (List.length_filter_le _ _) (by decide)
theorem check_ways_ok {s : List Nat} (h : IsWays s) (S : Sto) : f_check_ways [.p (.str s)] S = some (.p .non, S) := by
  refine fin_none (ρ := [some (.p (.str s))]) rfl ?_
  simp [b_check_ways, startE, is_ways_str h.small, h]
/-! ### the way the other way round -/
def convC (c : Nat) : Nat := match t_CONVERSES.lookup [c] with
  | some (.str [x]) => x
  | _ => lowC c
def insN (x : Nat) : List Nat → List Nat
  | [] => [x]
  | y :: ys => if y < x then y :: insN x ys else x :: y :: ys
def sortN : List Nat → List Nat
  | [] => []
  | x :: xs => insN x (sortN xs)
def conv (s : List Nat) : List Nat := sortN (s.map convC)
theorem lt_st (x y : Nat) : P.lt (st1 x) (st1 y) = decide (x < y) := by
  simp only [st1, P.lt, natLt]
  by_cases h : x = y
  · subst h; simp
  · simp [h]
theorem insP_st (x : Nat) : ∀ l : List Nat, insP (st1 x) (l.map st1) = (insN x l).map st1
  | [] => rfl
  | y :: ys => by
    rw [List.map_cons]
    unfold insP insN
    by_cases c : y < x
    · rw [if_pos (by rw [lt_st]; exact decide_eq_true c), if_pos c, insP_st x ys]; rfl
    · rw [if_neg (by rw [lt_st]; simpa using c), if_neg c]; rfl
theorem sortP_st : ∀ l : List Nat, sortP (l.map st1) = (sortN l).map st1
  | [] => rfl
  | x :: xs => by rw [List.map_cons, sortP, sortP_st xs, insP_st]; rfl
theorem allAlike_st : ∀ l : List Nat, allAlike (l.map st1) = true
  | [] => rfl
  | x :: xs => by
    have a : ∀ x y : Nat, P.alike (st1 x) (st1 y) = true := fun x y => by simp only [st1, P.alike]
    have b : (xs.map st1).all (fun y => P.alike (st1 x) y && P.alike y (st1 x)) = true := by
      rw [List.all_eq_true]
      intro y hy
      obtain ⟨c, _, rfl⟩ := List.mem_map.mp hy
      rw [a, a]; rfl
    rw [List.map_cons, allAlike, allAlike_st xs, a, b]; rfl
theorem sorted_st {l : List Nat} (h : ∀ c ∈ l, c < 1114112) (hl : l.length ≤ 1000) : cSorted [.lst (l.map st1)] = some (.frl ((sortN l).map st1)) := by
  have : sortOk (l.map st1) = true := by
    unfold sortOk
    rw [allAlike_st, Bool.true_and]
    simp only [Bool.and_eq_true, Bool.or_eq_true, List.all_eq_true, decide_eq_true_eq]
    refine ⟨⟨fun d hd => ?_, .inr fun d hd => ?_⟩, by rw [List.length_map, big_is]; omega⟩
    · obtain ⟨c, hc, rfl⟩ := List.mem_map.mp hd
      exact fit_st (fun c' hc' => by simp at hc'; subst hc'; exact h _ hc) _
    · obtain ⟨c, hc, rfl⟩ := List.mem_map.mp hd
      rfl
  have e : cSorted [.lst (l.map st1)] = some (.frl (sortP (l.map st1))) := if_pos this
  rw [e, sortP_st]
theorem conv_letter : ∀ c ∈ c_LETTERS, convC c ∈ c_LETTERS ∧ (tabIn t_CONVERSES (st1 c) = some (.p (.bl true)) ∧ tabGet t_CONVERSES (st1 c) = some (.p (st1 (convC c))) ∨ tabIn t_CONVERSES (st1 c) = some (.p (.bl false)) ∧ mLower (st1 c) [] = some (.p (st1 (convC c)))) := by decide
theorem insN_len (x : Nat) : ∀ l : List Nat, (insN x l).length = l.length + 1
  | [] => rfl
  | y :: ys => by unfold insN; split <;> simp [insN_len x ys]
theorem sortN_len : ∀ l : List Nat, (sortN l).length = l.length
  | [] => rfl
  | x :: xs => by rw [sortN, insN_len, sortN_len xs]; rfl
theorem turned_ok {s : List Nat} (hs : ∀ c ∈ s, c ∈ c_LETTERS) (hl : s.length ≤ 1000) (S : Sto) : f_turned [.p (.str s)] S = some (.p (.str (conv s)), S) := by
  have k1 : xLc (xItA (xVar 0)) (.nm 2) xTyes (xIf (xB (xUn (tabIn t_CONVERSES) (xVar 2))) (xUn (tabGet t_CONVERSES) (xVar 2)) (xMeth .str mLower (xVar 2) xNil)) [2] [some (.p (.str s)), none, none] S = some (.frl ((s.map convC).map st1), S) := by
    rw [lc_all (ds := s.map st1) (l := none) (fun d => match d with | .str [c] => st1 (convC c) | _ => .non) (itA_str rfl) (fun d hd => by
      obtain ⟨c, hc, rfl⟩ := List.mem_map.mp hd
      refine ⟨_, rfl, .p (st1 (convC c)), ?_, rfl⟩
      rcases (conv_letter c (hs c hc)).2 with ⟨h1, h2⟩ | ⟨h1, h2⟩
      · simp [wipeE, h1, h2]
      · have : isTy .str (st1 c) = true := rfl
        simp [wipeE, h1, h2, this]) (by rw [big_is, List.length_map]; omega)]
    congr 3
    simp [List.map_map, Function.comp, st1]
  have k2 : xSet 1 (xLc (xItA (xVar 0)) (.nm 2) xTyes (xIf (xB (xUn (tabIn t_CONVERSES) (xVar 2))) (xUn (tabGet t_CONVERSES) (xVar 2)) (xMeth .str mLower (xVar 2) xNil)) [2]) [some (.p (.str s)), none, none] S = some (.nx [some (.p (.str s)), some (.ref S.length), none], S ++ [.lst ((s.map convC).map st1)]) := set_frl k1
  have k3 : b_turned (startE 3 [.p (.str s)]) S = some (.rt (.p (.str (conv s))), S ++ [.lst ((s.map convC).map st1)]) := by
    have e1 : startE 3 [.p (.str s)] = [some (.p (.str s)), none, none] := rfl
    unfold b_turned
    rw [e1, seq_nx k2]
    refine ret_p ?_
    have hsm : ∀ c ∈ s.map convC, c < 1114112 := fun c hc => by
      obtain ⟨d, hd, rfl⟩ := List.mem_map.mp hc
      have := letters_small _ (conv_letter d (hs d hd)).1
      omega
    simp only [e_Meth, e_C, Option.bind_some, rd_p, isTy, if_true, e_Cons, e_Call, e_Var, e_Nil, Option.map_some, rds_cons, rds_nil]
    simp [R.rd, isTy]
    rw [← List.map_map, sorted_st hsm (by rw [List.length_map]; exact hl)]
    simp [mjoin_st (show (sortN (s.map convC)).length ≤ 1000 by rw [sortN_len, List.length_map]; exact hl), conv]
  exact mkF_p rfl k3 take_app
theorem converse_ok {s : List Nat} (h : IsWays s) (S : Sto) : f_converse [.p (.str s)] S = some (.p (.str (conv s)), S) := by
  refine fin_same rfl ?_
  simp [b_converse, startE, check_ways_ok h, turned_ok (fun c hc => h.mem hc) (show s.length ≤ 1000 from Nat.le_trans h.len (by decide))]
end XL
end
section
set_option Elab.async false
set_option linter.all false
set_option autoImplicit false
set_option maxRecDepth 100000
set_option maxHeartbeats 1000000
namespace XL
/-! ### the law's own helpers -/
abbrev scr (ns : List Int) : D := .p (.lst (ns.map P.int))
theorem law_town_ok {ns : List Int} (hl : ns.length ≤ 63) (S : Sto) : f_law_town [scr ns] S = some (.frl (.int 0 :: ns.map P.int), S) := by
  have h : ns.length + 1 ≤ 1000000 := by omega
  have h2 : 1 + ns.length ≤ 1000000 := by omega
  simp [f_law_town, mkF, b_law_town, startE, pAdd, h, h2]
theorem town_new {ns : List Int} {S : Sto} : Town ns S.length 0 (S ++ [.lst (.int 0 :: ns.map P.int)]) := ⟨0, ns, by simp, rfl, by omega, by omega⟩
theorem Town.mono {ns : List Int} {l : Nat} {c c' : Int} {S : Sto} (h : Town ns l c S) (hc : c ≤ c') : Town ns l c' S := by
  obtain ⟨t0, tr, h1, h2, h3, h4⟩ := h
  exact ⟨t0, tr, h1, h2, h3, by omega⟩
theorem Town.app {ns : List Int} {l : Nat} {c : Int} {S T : Sto} (h : Town ns l c S) : Town ns l c (S ++ T) := by
  obtain ⟨t0, tr, h1, h2, h3, h4⟩ := h
  exact ⟨t0, tr, by rw [List.getElem?_append_left (List.getElem?_eq_some_iff.mp h1).1]; exact h1, h2, h3, h4⟩
theorem Town.lt {ns : List Int} {l : Nat} {c : Int} {S : Sto} (h : Town ns l c S) : l < S.length := by
  obtain ⟨t0, tr, h1, h2, h3, h4⟩ := h
  exact (List.getElem?_eq_some_iff.mp h1).1
theorem Town.of_app {ns : List Int} {l : Nat} {c : Int} {S T : Sto} (h : Town ns l c (S ++ T)) (hl : l < S.length) : Town ns l c S := by
  obtain ⟨t0, tr, h1, h2, h3, h4⟩ := h
  rw [List.getElem?_append_left hl] at h1
  exact ⟨t0, tr, h1, h2, h3, h4⟩
theorem law_pick_ok {ns : List Int} {l : Nat} {c : Int} {S : Sto} (hT : Town ns l c S) (hc : c < 1000000) (ch : List P) (h0 : ch ≠ []) (h1 : ch.length < 1000000) :
    ∃ d S', f_law_pick [scr ns, .ref l, .p (.lst ch)] S = some (.p d, S') ∧ d ∈ ch ∧ ∃ C, S' = S.set l C ∧ Town ns l (c + 1) S' := by
  have hpos : 0 < ch.length := List.length_pos_iff.mpr h0
  obtain ⟨v, S', e, v0, v1, C, eC, hT'⟩ := draw_ok (ns := ns) (lim := (ch.length : Int)) hT hc (by omega) (by omega)
  have hv : v.toNat < ch.length := by omega
  have e2 : pIx (.lst ch) (.int v) = some (.p ch[v.toNat]) := ix_lst_of v0 (List.getElem?_eq_getElem hv)
  refine ⟨ch[v.toNat], S', ?_, List.getElem_mem hv, C, eC, hT'⟩
  have hl : S'.take S.length = S' := List.take_of_length_le (by rw [eC]; simp)
  simp only [f_law_pick, mkF, b_law_pick, startE]
  simp [e, e2, hl]
theorem set_app {S : Sto} {l : Nat} {C X : Cell} (h : l < S.length) : (S ++ [X]).set l C = S.set l C ++ [X] := by rw [List.set_append_left _ _ h]
theorem app_set {S : Sto} {C X : Cell} : (S ++ [X]).set S.length C = S ++ [C] := by rw [List.set_append_right _ _ (Nat.le_refl _)]; simp
theorem law_scene_ok {ns : List Int} {l : Nat} {c : Int} {S : Sto} (n : Nat) (far : Int) (hT : Town ns l c S) (hn : n ≤ 1000) (hc : c + 2 * n < 1000000) (h0 : 0 < far) (h1 : far < 1000000) :
    ∃ sc S', f_law_scene [scr ns, .ref l, .p (.int n), .p (.int far)] S = some (.p (scP sc), S') ∧ sc.length = n ∧ (∀ x ∈ sc, 0 ≤ x.1 ∧ x.1 < far ∧ x.1 < x.2 ∧ x.2 ≤ x.1 + far) ∧ ∃ C, S' = S.set l C ∧ Town ns l (c + 2 * n) S' := by
  have hlS := hT.lt
  have k1 : xSet 4 (xLst xNil) (startE 7 [scr ns, .ref l, .p (.int n), .p (.int far)]) S = some (.nx [some (scr ns), some (.ref l), some (.p (.int n)), some (.p (.int far)), some (.ref S.length), none, none], S ++ [.lst []]) := by
    simp [startE]
  have k2 : ∃ (ρ' : Env) (sc : List Span) (C : Cell), xFor (xRng1 (xVar 2)) (.nm 5) (xSeq (xSet 6 (xDef f_law_draw (xConsD (xVar 0) (xConsD (xVar 1) (xConsD (xVar 3) xNilD)))))
    (xDrop (xApp (xVar 4) (xTup (xCons (xVar 6) (xCons (xBin pAdd (xBin pAdd (xVar 6) (xC (.int 1))) (xDef f_law_draw (xConsD (xVar 0) (xConsD (xVar 1) (xConsD (xVar 3) xNilD))))) xNil))))))
      [some (scr ns), some (.ref l), some (.p (.int n)), some (.p (.int far)), some (.ref S.length), none, none] (S ++ [.lst []]) = some (.nx ([some (scr ns), some (.ref l), some (.p (.int n)), some (.p (.int far)), some (.ref S.length)] ++ ρ'), S.set l C ++ [.lst (sc.map pr)]) ∧ sc.length = n ∧ (∀ x ∈ sc, 0 ≤ x.1 ∧ x.1 < far ∧ x.1 < x.2 ∧ x.2 ≤ x.1 + far) ∧ Town ns l (c + 2 * n) (S.set l C) := by
    unfold xFor
    rw [rng1 (n := n) rfl (by omega), intsFrom_eq]
    simp only [Option.bind_some]
    obtain ⟨ρ', S', e, hI⟩ := for_go (n0 := (S ++ [Cell.lst []]).length) (l := none) (S0 := S ++ [Cell.lst []]) (t := .nm 5) (b := xSeq (xSet 6 (xDef f_law_draw (xConsD (xVar 0) (xConsD (xVar 1) (xConsD (xVar 3) xNilD)))))
    (xDrop (xApp (xVar 4) (xTup (xCons (xVar 6) (xCons (xBin pAdd (xBin pAdd (xVar 6) (xC (.int 1))) (xDef f_law_draw (xConsD (xVar 0) (xConsD (xVar 1) (xConsD (xVar 3) xNilD))))) xNil))))))
      (fun ds ρ S' => ∃ (y5 y6 : Option D) (sc : List Span) (C : Cell), ρ = [some (scr ns), some (.ref l), some (.p (.int n)), some (.p (.int far)), some (.ref S.length), y5, y6] ∧ S' = S.set l C ++ [.lst (sc.map pr)] ∧ sc.length + ds.length = n ∧ (∀ x ∈ sc, 0 ≤ x.1 ∧ x.1 < far ∧ x.1 < x.2 ∧ x.2 ≤ x.1 + far) ∧ Town ns l (c + 2 * sc.length) (S.set l C))
      (fun d ds ρ S' hI => by
        obtain ⟨y5, y6, sc, C, rfl, rfl, hl, hx, hTn⟩ := hI
        simp only [List.length_cons] at hl
        have hlen : (S.set l C).length = S.length := by simp
        obtain ⟨v, S1, e1, v0, v1, C1, eC1, hT1⟩ := draw_ok (lim := far) (hTn.app (T := [.lst (sc.map pr)])) (by omega) h0 h1
        rw [set_app (by rw [hlen]; exact hlS), List.set_set] at eC1
        subst eC1
        have hT1' := hT1.of_app (by simpa using hlS)
        obtain ⟨u, S2, e2, u0, u1, C2, eC2, hT2⟩ := draw_ok (lim := far) hT1 (by omega) h0 h1
        rw [set_app (by simpa using hlS), List.set_set] at eC2
        subst eC2
        have hT2' := hT2.of_app (by simpa using hlS)
        refine ⟨_, [some (scr ns), some (.ref l), some (.p (.int n)), some (.p (.int far)), some (.ref S.length), some (.p d), some (.p (.int v))], S.set l C2 ++ [.lst ((sc ++ [(v, v + 1 + u)]).map pr)], rfl, ?_, rfl, by simp, _, _, sc ++ [(v, v + 1 + u)], C2, rfl, rfl, by simp; omega, ?_, hT2'.mono (by simp; omega)⟩
        · have a1 : xSet 6 (xDef f_law_draw (xConsD (xVar 0) (xConsD (xVar 1) (xConsD (xVar 3) xNilD)))) [some (scr ns), some (.ref l), some (.p (.int n)), some (.p (.int far)), some (.ref S.length), some (.p d), y6] (S.set l C ++ [.lst (sc.map pr)]) = some (.nx [some (scr ns), some (.ref l), some (.p (.int n)), some (.p (.int far)), some (.ref S.length), some (.p d), some (.p (.int v))], S.set l C1 ++ [.lst (sc.map pr)]) := by
            refine set_p ?_
            rw [e_Def]
            exact e1
          show xSeq _ _ [some (scr ns), some (.ref l), some (.p (.int n)), some (.p (.int far)), some (.ref S.length), some (.p d), y6] _ = _
          rw [seq_nx a1]
          have a2 : xDef f_law_draw (xConsD (xVar 0) (xConsD (xVar 1) (xConsD (xVar 3) xNilD))) [some (scr ns), some (.ref l), some (.p (.int n)), some (.p (.int far)), some (.ref S.length), some (.p d), some (.p (.int v))] (S.set l C1 ++ [.lst (sc.map pr)]) = some (.p (.int u), S.set l C2 ++ [.lst (sc.map pr)]) := e2
          have a3 : xTup (xCons (xVar 6) (xCons (xBin pAdd (xBin pAdd (xVar 6) (xC (.int 1))) (xDef f_law_draw (xConsD (xVar 0) (xConsD (xVar 1) (xConsD (xVar 3) xNilD))))) xNil)) [some (scr ns), some (.ref l), some (.p (.int n)), some (.p (.int far)), some (.ref S.length), some (.p d), some (.p (.int v))] (S.set l C1 ++ [.lst (sc.map pr)]) = some (.p (pr (v, v + 1 + u)), S.set l C2 ++ [.lst (sc.map pr)]) := by
            simp [pr, e2]
          have hg : (S.set l C2 ++ [Cell.lst (sc.map pr)])[S.length]? = some (.lst (sc.map pr)) := by
            rw [List.getElem?_append_right (by simp)]; simp
          have hst : (S.set l C2 ++ [Cell.lst (sc.map pr)]).set S.length (.lst (sc.map pr ++ [pr (v, v + 1 + u)])) = S.set l C2 ++ [.lst ((sc ++ [(v, v + 1 + u)]).map pr)] := by
            have := app_set (S := S.set l C2) (X := Cell.lst (sc.map pr)) (C := .lst (sc.map pr ++ [pr (v, v + 1 + u)]))
            rw [List.length_set] at this
            rw [this]; simp
          have hb : (sc.map pr).length < 1000000 := by rw [List.length_map]; omega
          have a4 : xVar 4 [some (scr ns), some (.ref l), some (.p (.int n)), some (.p (.int far)), some (.ref S.length), some (.p d), some (.p (.int v))] (S.set l C1 ++ [.lst (sc.map pr)]) = some (.ref S.length, S.set l C1 ++ [.lst (sc.map pr)]) := rfl
          rw [e_Drop, e_App, a4]
          simp only [Option.bind_some, a3, hg, fz_p]
          rw [if_pos hb, hst]; rfl
        · intro x hx'
          rcases List.mem_append.mp hx' with h | h
          · exact hx x h
          · simp at h; subst h; refine ⟨v0, v1, ?_, ?_⟩ <;> simp only <;> omega)
      ((List.range n).map fun i => P.int (0 + (i : Nat))) [some (scr ns), some (.ref l), some (.p (.int n)), some (.p (.int far)), some (.ref S.length), none, none] (S ++ [.lst []]) ⟨none, none, [], S[l], rfl, by simp, by simp, by simp, by simpa using hT⟩
    obtain ⟨y5, y6, sc, C, rfl, rfl, hl, hx, hTn⟩ := hI
    simp only [List.length_nil, Nat.add_zero] at hl
    refine ⟨[y5, y6], sc, C, e, hl, hx, hTn.mono (by omega)⟩
  obtain ⟨ρ', sc, C, e, hl, hx, hTn⟩ := k2
  refine ⟨sc, S.set l C, ?_, hl, hx, C, rfl, hTn⟩
  have k3 : b_law_scene (startE 7 [scr ns, .ref l, .p (.int n), .p (.int far)]) S = some (.rt (.p (scP sc)), S.set l C ++ [.lst (sc.map pr)]) := by
    unfold b_law_scene
    rw [seq_nx k1, seq_nx e]
    have hg : (S.set l C ++ [Cell.lst (sc.map pr)])[S.length]? = some (.lst (sc.map pr)) := by
      rw [List.getElem?_append_right (by simp)]; simp
    simp [R.rd, hg, scP]
  unfold f_law_scene mkF
  rw [if_pos (by rfl), k3]
  simp
end XL
end
section
set_option Elab.async false
set_option linter.all false
set_option autoImplicit false
set_option maxRecDepth 100000
set_option maxHeartbeats 1000000
namespace XL
/-! ### ranks -/
def cnt (x : Int) (l : List Int) : Nat := (l.filter fun z => decide (z < x)).length
theorem cnt_cons (x y : Int) (l : List Int) : cnt x (y :: l) = (if y < x then 1 else 0) + cnt x l := by
  unfold cnt
  by_cases h : y < x <;> simp [List.filter_cons, h]; omega
theorem cnt_mono {x y : Int} (h : x ≤ y) : ∀ l : List Int, cnt x l ≤ cnt y l
  | [] => Nat.le_refl _
  | z :: l => by
    have := cnt_mono h l
    rw [cnt_cons, cnt_cons]
    split <;> split <;> omega
theorem cnt_lt {x y : Int} (h : x < y) : ∀ {l : List Int}, x ∈ l → cnt x l < cnt y l
  | [], hx => by cases hx
  | z :: l, hx => by
    rw [cnt_cons, cnt_cons]
    have h0 := cnt_mono (Int.le_of_lt h) l
    rcases List.mem_cons.mp hx with rfl | hx
    · rw [if_neg (by omega), if_pos h]; omega
    · have := cnt_lt h hx
      split <;> split <;> omega
theorem cnt_len {x : Int} : ∀ {l : List Int}, x ∈ l → cnt x l < l.length
  | [], hx => by cases hx
  | z :: l, hx => by
    rw [cnt_cons, List.length_cons]
    rcases List.mem_cons.mp hx with rfl | hx
    · rw [if_neg (by omega)]
      have : cnt x l ≤ l.length := List.length_filter_le _ _
      omega
    · have := cnt_len hx
      split <;> omega
theorem cnt_at : ∀ {l : List Int} {k : Nat} {x : Int}, Asc l → l[k]? = some x → cnt x l = k
  | [], k, x, _, h => by simp at h
  | z :: l, k, x, ha, h => by
    obtain ⟨h1, h2⟩ := List.pairwise_cons.mp ha
    rw [cnt_cons]
    cases k with
    | zero =>
      simp at h; subst h
      rw [if_neg (by omega)]
      unfold cnt
      have : l.filter (fun w => decide (w < z)) = [] := by
        rw [List.filter_eq_nil_iff]
        intro w hw
        have := h1 w hw; simp; omega
      rw [this]; rfl
    | succ k =>
      simp at h
      have hx := List.mem_of_getElem? h
      have := h1 x hx
      rw [if_pos this, cnt_at h2 h]; omega
theorem rk_cnt (x : Int) (l : List Int) : rk x l = cnt x (endsOf l) := (rk_ends l).symm
theorem rk_lt {x y : Int} {l : List Int} (hx : x ∈ l) (h : x < y) : rk x l < rk y l := by
  rw [rk_cnt, rk_cnt]; exact cnt_lt h (ends_mem.mpr hx)
theorem rk_lt_iff {x y : Int} {l : List Int} (hx : x ∈ l) : rk x l < rk y l ↔ x < y := by
  refine ⟨fun h => ?_, rk_lt hx⟩
  by_cases c : x < y
  · exact c
  · have := cnt_mono (show y ≤ x by omega) (endsOf l)
    rw [rk_cnt, rk_cnt] at h; omega
theorem rk_eq_iff {x y : Int} {l : List Int} (hx : x ∈ l) (hy : y ∈ l) : rk x l = rk y l ↔ x = y := by
  refine ⟨fun h => ?_, fun h => by rw [h]⟩
  rcases Int.lt_trichotomy x y with c | c | c
  · have := rk_lt hx c; omega
  · exact c
  · have := rk_lt hy c; omega
theorem rk_congr {α : Type} (u v : α → Int) (x y : Int) : ∀ (ps : List α), (∀ p ∈ ps, ∀ q ∈ ps, u p = u q ↔ v p = v q) → (∀ p ∈ ps, u p < x ↔ v p < y) → rk x (ps.map u) = rk y (ps.map v)
  | [], _, _ => rfl
  | p :: ps, h1, h2 => by
    have ih := rk_congr u v x y ps (fun a ha b hb => h1 a (List.mem_cons_of_mem _ ha) b (List.mem_cons_of_mem _ hb)) (fun a ha => h2 a (List.mem_cons_of_mem _ ha))
    simp only [List.map_cons, rk, ih]
    have m : u p ∈ ps.map u ↔ v p ∈ ps.map v := by
      simp only [List.mem_map]
      constructor
      · rintro ⟨q, hq, e⟩; exact ⟨q, hq, (h1 q (List.mem_cons_of_mem _ hq) p List.mem_cons_self).mp e⟩
      · rintro ⟨q, hq, e⟩; exact ⟨q, hq, (h1 q (List.mem_cons_of_mem _ hq) p List.mem_cons_self).mpr e⟩
    have l := h2 p List.mem_cons_self
    by_cases a : u p ∈ ps.map u
    · rw [if_pos a, if_pos (m.mp a)]
    · rw [if_neg a, if_neg (fun z => a (m.mpr z))]
      by_cases b : u p < x
      · rw [if_pos b, if_pos (l.mp b)]
      · rw [if_neg b, if_neg (fun z => b (l.mpr z))]
/-! ### forms -/
theorem endsL_map (g : Int → Int) (sc : List Span) : endsL (sc.map fun x => (g x.1, g x.2)) = (endsL sc).map g := by
  induction sc with
  | nil => rfl
  | cons x xs ih => simp [endsL] at ih ⊢; exact ih
theorem form_ends (sc : List Span) : endsL (form sc) = (endsL sc).map fun x => ((rk x (endsL sc) : Nat) : Int) := endsL_map (fun x => ((rk x (endsL sc) : Nat) : Int)) sc
/-- the ends in sequence without gaps -/
theorem ends_form (sc : List Span) : endsOf (endsL (form sc)) = (List.range (endsOf (endsL sc)).length).map fun (i : Nat) => (i : Int) := by
  refine asc_one (ends_asc _) ?_ fun k => ?_
  · rw [Asc, List.pairwise_map]
    exact List.Pairwise.imp (fun h => by omega) List.pairwise_lt_range
  · rw [ends_mem, form_ends]
    simp only [List.mem_map, List.mem_range]
    constructor
    · rintro ⟨x, hx, rfl⟩
      exact ⟨rk x (endsL sc), by rw [rk_cnt]; exact cnt_len (ends_mem.mpr hx), rfl⟩
    · rintro ⟨i, hi, rfl⟩
      have e := List.getElem?_eq_getElem hi
      exact ⟨(endsOf (endsL sc))[i], ends_mem.mp (List.getElem_mem hi), by rw [rk_cnt, cnt_at (ends_asc _) e]⟩
theorem cnt_range (m k : Nat) (h : k < m) : cnt (k : Int) ((List.range m).map fun (i : Nat) => (i : Int)) = k := by
  refine cnt_at ?_ (by simp [h])
  rw [Asc, List.pairwise_map]
  exact List.Pairwise.imp (fun h => by omega) List.pairwise_lt_range
theorem form_form (sc : List Span) : form (form sc) = form sc := by
  have key : ∀ z ∈ endsL sc, rk ((rk z (endsL sc) : Nat) : Int) (endsL (form sc)) = rk z (endsL sc) := fun z hz => by
    rw [rk_cnt _ (endsL (form sc)), ends_form, cnt_range]
    rw [rk_cnt]; exact cnt_len (ends_mem.mpr hz)
  show (form sc).map (fun x => (((rk x.1 (endsL (form sc)) : Nat) : Int), ((rk x.2 (endsL (form sc)) : Nat) : Int))) = form sc
  unfold form at *
  rw [List.map_map]
  refine List.map_congr_left fun x hx => ?_
  obtain ⟨h1, h2⟩ := mem_ends hx
  simp only [Function.comp]
  rw [key _ h1, key _ h2]
theorem form_mono {sc : List Span} {g : Int → Int} (hg : ∀ x y, g x < g y ↔ x < y) : form (sc.map fun x => (g x.1, g x.2)) = form sc := by
  have inj : ∀ x y, x = y ↔ g x = g y := fun x y => by
    constructor
    · intro h; rw [h]
    · intro h
      rcases Int.lt_trichotomy x y with c | c | c
      · have := (hg x y).mpr c; omega
      · exact c
      · have := (hg y x).mpr c; omega
  have key : ∀ z, rk (g z) ((endsL sc).map g) = rk z (endsL sc) := fun z => by
    have := rk_congr (α := Int) id g z (g z) (endsL sc) (fun p _ q _ => inj p q) (fun p _ => (hg p z).symm)
    rw [List.map_id] at this
    exact this.symm
  unfold form
  rw [endsL_map, List.map_map]
  refine List.map_congr_left fun x _ => ?_
  simp only [Function.comp, key]
theorem form_len (sc : List Span) : (form sc).length = sc.length := by simp [form]
theorem rk_le (x : Int) (l : List Int) : rk x l ≤ l.length := by
  induction l with
  | nil => simp [rk]
  | cons y l ih => simp only [rk, List.length_cons]; split <;> (try split) <;> omega
theorem form_valid {sc : List Span} (h : Valid sc) : Valid (form sc) := by
  refine ⟨by rw [form_len]; exact h.one, by rw [form_len]; exact h.five, fun x hx => ?_⟩
  obtain ⟨y, hy, rfl⟩ := List.mem_map.mp hx
  obtain ⟨m1, m2⟩ := mem_ends hy
  have := rk_lt m1 (h.ok y hy).mid
  have a := rk_le y.2 (endsL sc)
  rw [endsL_len] at a
  have := h.five
  exact ⟨by simp only; omega, by simp only; omega, by simp only; omega⟩
/-! ### what a letter says -/
theorem letter_cmp {x y x' y' : Span} (hx : x.1 < x.2) (hy : y.1 < y.2) (hx' : x'.1 < x'.2) (hy' : y'.1 < y'.2) (h : letter x y = letter x' y') :
    ((x.1 < y.1 ↔ x'.1 < y'.1) ∧ (x.1 = y.1 ↔ x'.1 = y'.1)) ∧ ((x.1 < y.2 ↔ x'.1 < y'.2) ∧ (x.1 = y.2 ↔ x'.1 = y'.2)) ∧ ((x.2 < y.1 ↔ x'.2 < y'.1) ∧ (x.2 = y.1 ↔ x'.2 = y'.1)) ∧ ((x.2 < y.2 ↔ x'.2 < y'.2) ∧ (x.2 = y.2 ↔ x'.2 = y'.2)) := by
  obtain ⟨a, b⟩ := x
  obtain ⟨c, d⟩ := y
  obtain ⟨a', b'⟩ := x'
  obtain ⟨c', d'⟩ := y'
  simp only at hx hy hx' hy' ⊢
  unfold letter at h
  simp only at h
  repeat' split at h
  all_goals first | (exfalso; revert h; decide) | (refine ⟨⟨?_, ?_⟩, ⟨?_, ?_⟩, ⟨?_, ?_⟩, ?_, ?_⟩ <;> omega)
theorem letter_congr {x y x' y' : Span} (h : ((x.1 < y.1 ↔ x'.1 < y'.1) ∧ (x.1 = y.1 ↔ x'.1 = y'.1)) ∧ ((x.1 < y.2 ↔ x'.1 < y'.2) ∧ (x.1 = y.2 ↔ x'.1 = y'.2)) ∧ ((x.2 < y.1 ↔ x'.2 < y'.1) ∧ (x.2 = y.1 ↔ x'.2 = y'.1)) ∧ ((x.2 < y.2 ↔ x'.2 < y'.2) ∧ (x.2 = y.2 ↔ x'.2 = y'.2))) : letter x y = letter x' y' := by
  obtain ⟨⟨h1, h2⟩, ⟨h3, h4⟩, ⟨h5, h6⟩, h7, h8⟩ := h
  have e1 : x.2 ≤ y.1 ↔ x'.2 ≤ y'.1 := by omega
  have e2 : y.2 ≤ x.1 ↔ y'.2 ≤ x'.1 := by omega
  have e3 : y.1 < x.1 ↔ y'.1 < x'.1 := by omega
  have e4 : y.2 = x.1 ↔ y'.2 = x'.1 := by omega
  unfold letter
  simp only [e1, e2, e3, e4, h1, h2, h6, h7, h8]
theorem letter_form {sc : List Span} {x y : Span} (hx : x ∈ sc) (hy : y ∈ sc) : letter (((rk x.1 (endsL sc) : Nat) : Int), ((rk x.2 (endsL sc) : Nat) : Int)) (((rk y.1 (endsL sc) : Nat) : Int), ((rk y.2 (endsL sc) : Nat) : Int)) = letter x y := by
  obtain ⟨a1, a2⟩ := mem_ends hx
  obtain ⟨b1, b2⟩ := mem_ends hy
  refine letter_congr ⟨⟨?_, ?_⟩, ⟨?_, ?_⟩, ⟨?_, ?_⟩, ?_, ?_⟩ <;> simp only [Int.ofNat_lt, Int.natCast_inj, rk_lt_iff, rk_eq_iff, a1, a2, b1, b2]
/-- two scenes have one form exactly if all their ways are equal -/
theorem form_iff {sc sc' : List Span} (hv : ∀ x ∈ sc, x.1 < x.2) (hv' : ∀ x ∈ sc', x.1 < x.2) (hl : sc.length = sc'.length) :
    (∀ (i j : Nat) (x y x' y' : Span), sc[i]? = some x → sc[j]? = some y → sc'[i]? = some x' → sc'[j]? = some y' → letter x y = letter x' y') ↔ form sc = form sc' := by
  constructor
  · intro h
    let ps : List (Int × Int) := (sc.zip sc').flatMap fun z => [(z.1.1, z.2.1), (z.1.2, z.2.2)]
    have e1 : ∀ {a b : List Span}, a.length = b.length → ((a.zip b).flatMap fun z => [(z.1.1, z.2.1), (z.1.2, z.2.2)]).map Prod.fst = endsL a ∧ ((a.zip b).flatMap fun z => [(z.1.1, z.2.1), (z.1.2, z.2.2)]).map Prod.snd = endsL b := by
      intro a
      induction a with
      | nil => intro b hb; cases b with
        | nil => exact ⟨rfl, rfl⟩
        | cons _ _ => simp at hb
      | cons x xs ih =>
        intro b hb
        cases b with
        | nil => simp at hb
        | cons y ys =>
          obtain ⟨i1, i2⟩ := ih (b := ys) (by simpa using hb)
          simp [endsL] at i1 i2 ⊢
          exact ⟨i1, i2⟩
    obtain ⟨f1, f2⟩ := e1 hl
    have hp : ∀ p ∈ ps, ∃ (i : Nat) (x x' : Span), sc[i]? = some x ∧ sc'[i]? = some x' ∧ (p = (x.1, x'.1) ∨ p = (x.2, x'.2)) := fun p hp => by
      obtain ⟨z, hz, hz2⟩ := List.mem_flatMap.mp hp
      obtain ⟨i, hi, e⟩ := List.getElem_of_mem hz
      refine ⟨i, z.1, z.2, ?_, ?_, by simpa using hz2⟩
      · rw [List.getElem_zip] at e
        have : i < sc.length := by simp at hi; omega
        rw [List.getElem?_eq_getElem this, ← e]
      · rw [List.getElem_zip] at e
        have : i < sc'.length := by simp at hi; omega
        rw [List.getElem?_eq_getElem this, ← e]
    have cmp : ∀ p ∈ ps, ∀ q ∈ ps, (p.1 < q.1 ↔ p.2 < q.2) ∧ (p.1 = q.1 ↔ p.2 = q.2) := fun p hp' q hq => by
      obtain ⟨i, x, x', h1, h2, h3⟩ := hp p hp'
      obtain ⟨j, y, y', g1, g2, g3⟩ := hp q hq
      have c := letter_cmp (hv x (List.mem_of_getElem? h1)) (hv y (List.mem_of_getElem? g1)) (hv' x' (List.mem_of_getElem? h2)) (hv' y' (List.mem_of_getElem? g2)) (h i j x y x' y' h1 g1 h2 g2)
      rcases h3 with rfl | rfl <;> rcases g3 with rfl | rfl
      · exact c.1
      · exact c.2.1
      · exact c.2.2.1
      · exact c.2.2.2
    have key : ∀ q ∈ ps, rk q.1 (endsL sc) = rk q.2 (endsL sc') := fun q hq => by
      rw [← f1, ← f2]
      exact rk_congr Prod.fst Prod.snd q.1 q.2 ps (fun a ha b hb => (cmp a ha b hb).2) (fun a ha => (cmp a ha q hq).1)
    unfold form
    refine List.ext_getElem? fun i => ?_
    rw [List.getElem?_map, List.getElem?_map]
    by_cases hi : i < sc.length
    · have hi' : i < sc'.length := by omega
      rw [List.getElem?_eq_getElem hi, List.getElem?_eq_getElem hi']
      have hz : (sc[i], sc'[i]) ∈ sc.zip sc' := by
        have : i < (sc.zip sc').length := by simp; omega
        have e := List.getElem_mem this
        rwa [List.getElem_zip] at e
      simp only [Option.map_some, Option.some.injEq, Prod.mk.injEq, Int.natCast_inj]
      exact ⟨key (sc[i].1, sc'[i].1) (List.mem_flatMap.mpr ⟨_, hz, by simp⟩), key (sc[i].2, sc'[i].2) (List.mem_flatMap.mpr ⟨_, hz, by simp⟩)⟩
    · rw [List.getElem?_eq_none (by omega), List.getElem?_eq_none (by omega)]; rfl
  · intro h i j x y x' y' h1 h2 h3 h4
    have g : ∀ {a : List Span} {k : Nat} {z : Span}, a[k]? = some z → (form a)[k]? = some (((rk z.1 (endsL a) : Nat) : Int), ((rk z.2 (endsL a) : Nat) : Int)) := fun hz => by
      unfold form; rw [List.getElem?_map, hz]; rfl
    have i1 := g h1
    have i2 := g h2
    rw [h, g h3] at i1
    rw [h, g h4] at i2
    have e1 := Option.some.inj i1
    have e2 := Option.some.inj i2
    rw [← letter_form (List.mem_of_getElem? h1) (List.mem_of_getElem? h2), ← letter_form (List.mem_of_getElem? h3) (List.mem_of_getElem? h4), ← e1, ← e2]
end XL
end
section
set_option Elab.async false
set_option linter.all false
set_option autoImplicit false
set_option maxRecDepth 100000
set_option maxHeartbeats 1000000
namespace XL
theorem law_normal_ok {sc : List Span} (hl : sc.length ≤ 1000) (S : Sto) : f_law_normal [.p (scP sc)] S = some (.p (scP (form sc)), S) := by
  have b1 : ∀ (ρ : Env), ρ[0]? = some (some (.p (scP sc))) → ρ.length = 3 → xLc (xItA (xVar 0)) (.nm 2) xTyes (xBin pIx (xVar 2) (xC (.int 0))) [2] ρ S = some (.frl ((sc.map Prod.fst).map P.int), S) := fun ρ h0 h3 => by
    rw [lc_all (ds := sc.map pr) (l := none) (fun d => match d with | .tup [.int a, .int b] => .int a | _ => .non) (itA_tup (by simp [h0, scP])) (fun d hd => by
      obtain ⟨x, hx, rfl⟩ := List.mem_map.mp hd
      refine ⟨_, rfl, .p (.int x.1), ?_, rfl⟩
      have : ((wipeE ρ [2]).set 2 (some (.p (pr x))))[2]? = some (some (.p (pr x))) := by simp [wipeE, h3]
      simp only [e_Bin, e_Var, this]
      simp [pr]) (by rw [big_is, List.length_map]; omega)]
    simp [pr, Function.comp]
  have b2 : ∀ (ρ : Env), ρ[0]? = some (some (.p (scP sc))) → ρ.length = 3 → xLc (xItA (xVar 0)) (.nm 2) xTyes (xBin pIx (xVar 2) (xC (.int 1))) [2] ρ S = some (.frl ((sc.map Prod.snd).map P.int), S) := fun ρ h0 h3 => by
    rw [lc_all (ds := sc.map pr) (l := none) (fun d => match d with | .tup [.int a, .int b] => .int b | _ => .non) (itA_tup (by simp [h0, scP])) (fun d hd => by
      obtain ⟨x, hx, rfl⟩ := List.mem_map.mp hd
      refine ⟨_, rfl, .p (.int x.2), ?_, rfl⟩
      have : ((wipeE ρ [2]).set 2 (some (.p (pr x))))[2]? = some (some (.p (pr x))) := by simp [wipeE, h3]
      simp only [e_Bin, e_Var, this]
      simp [pr]) (by rw [big_is, List.length_map]; omega)]
    simp [pr, Function.comp]
  have hends : endsOf (sc.map Prod.fst ++ sc.map Prod.snd) = endsOf (endsL sc) := ends_congr fun k => by
    simp only [List.mem_append, List.mem_map, endsL, List.mem_flatMap, List.mem_cons, List.not_mem_nil, or_false]
    constructor
    · rintro (⟨x, hx, rfl⟩ | ⟨x, hx, rfl⟩)
      · exact ⟨x, hx, .inl rfl⟩
      · exact ⟨x, hx, .inr rfl⟩
    · rintro ⟨x, hx, rfl | rfl⟩
      · exact .inl ⟨x, hx, rfl⟩
      · exact .inr ⟨x, hx, rfl⟩
  have e0 : startE 3 [.p (scP sc)] = [some (.p (scP sc)), none, none] := rfl
  have k1 : xSet 1 (xUn uSortedSet (xBin pAdd (xLc (xItA (xVar 0)) (.nm 2) xTyes (xBin pIx (xVar 2) (xC (.int 0))) [2]) (xLc (xItA (xVar 0)) (.nm 2) xTyes (xBin pIx (xVar 2) (xC (.int 1))) [2]))) [some (.p (scP sc)), none, none] S = some (.nx [some (.p (scP sc)), some (.ref S.length), none], S ++ [.lst ((endsOf (endsL sc)).map P.int)]) := by
    have e2 : xUn uSortedSet (xBin pAdd (xLc (xItA (xVar 0)) (.nm 2) xTyes (xBin pIx (xVar 2) (xC (.int 0))) [2]) (xLc (xItA (xVar 0)) (.nm 2) xTyes (xBin pIx (xVar 2) (xC (.int 1))) [2])) [some (.p (scP sc)), none, none] S = some (.frl ((endsOf (endsL sc)).map P.int), S) := by
      rw [e_Un, e_Bin, b1 _ rfl rfl]
      simp only [Option.bind_some, b2 [some (.p (scP sc)), none, none] rfl rfl, rd_frl]
      have : pAdd (.lst ((sc.map Prod.fst).map P.int)) (.lst ((sc.map Prod.snd).map P.int)) = some (.frl ((sc.map Prod.fst ++ sc.map Prod.snd).map P.int)) := by
        unfold pAdd
        simp only
        rw [if_pos (by simp; omega), List.map_append]
      simp only [this, Option.map_some, Option.bind_some, rd_frl]
      rw [sortedSet_int (by simp; omega), hends]; rfl
    rw [set_frl e2]; rfl
  have k2 : xLc (xItA (xVar 0)) (.nm 2) xTyes (xTup (xCons (xMeth .lst mIndex (xVar 1) (xCons (xBin pIx (xVar 2) (xC (.int 0))) xNil)) (xCons (xMeth .lst mIndex (xVar 1) (xCons (xBin pIx (xVar 2) (xC (.int 1))) xNil)) xNil))) [2] [some (.p (scP sc)), some (.ref S.length), none] (S ++ [.lst ((endsOf (endsL sc)).map P.int)]) = some (.frl ((form sc).map pr), S ++ [.lst ((endsOf (endsL sc)).map P.int)]) := by
    rw [lc_all (ds := sc.map pr) (l := none) (fun d => match d with | .tup [.int a, .int b] => pr ((rk a (endsL sc) : Nat), (rk b (endsL sc) : Nat)) | _ => .non) (itA_tup (by simp [scP])) (fun d hd => by
      obtain ⟨x, hx, rfl⟩ := List.mem_map.mp hd
      refine ⟨[some (.p (scP sc)), some (.ref S.length), some (.p (pr x))], rfl, .p (pr ((rk x.1 (endsL sc) : Nat), (rk x.2 (endsL sc) : Nat))), ?_, rfl⟩
      obtain ⟨m1, m2⟩ := mem_ends hx
      simp [R.rd, isTy, index_ends m1, index_ends m2, pr]) (by rw [big_is, List.length_map]; omega)]
    congr 3
    simp [form, pr, List.map_map, Function.comp]
  have k3 : b_law_normal (startE 3 [.p (scP sc)]) S = some (.rt (.p (scP (form sc))), S ++ [.lst ((endsOf (endsL sc)).map P.int)]) := by
    unfold b_law_normal
    rw [e0, seq_nx k1]
    refine ret_p ?_
    rw [e_Call, e_Cons, k2]
    simp [scP]
  exact mkF_p rfl k3 take_app
theorem fit_pr (x : Span) (n : Nat) : P.fit (n + 1) (pr x) = true := by simp [pr]
theorem fit_sc (sc : List Span) : P.fit 60 (scP sc) = true := by
  show ((sc.map pr).all (P.fit 59)) = true
  rw [List.all_eq_true]
  intro d hd
  obtain ⟨x, _, rfl⟩ := List.mem_map.mp hd
  exact fit_pr x 58
theorem pyeq_pr (x y : Span) : P.pyeq (pr x) (pr y) = decide (x = y) := by
  obtain ⟨a, b⟩ := x
  obtain ⟨c, d⟩ := y
  simp only [pr, P.pyeq, P.pyeqs, Prod.mk.injEq, Bool.and_true, Bool.decide_and]
theorem pyeqs_prs : ∀ (a b : List Span), P.pyeqs (a.map pr) (b.map pr) = decide (a = b)
  | [], [] => by simp [P.pyeqs]
  | [], _ :: _ => by simp [P.pyeqs]
  | _ :: _, [] => by simp [P.pyeqs]
  | x :: a, y :: b => by
    have := pyeqs_prs a b
    simp only [List.map_cons, P.pyeqs, pyeq_pr, this, List.cons.injEq, Bool.decide_and]
theorem pyeq_sc (a b : List Span) : P.pyeq (scP a) (scP b) = decide (a = b) := by
  unfold scP
  rw [P.pyeq, pyeqs_prs]
theorem eq_sc (a b : List Span) : pEq (scP a) (scP b) = some (.p (.bl (decide (a = b)))) := by
  unfold pEq; rw [fit_sc, fit_sc, pyeq_sc]; rfl
theorem ne_sc (a b : List Span) : pNe (scP a) (scP b) = some (.p (.bl (!decide (a = b)))) := by
  unfold pNe; rw [fit_sc, fit_sc, pyeq_sc]; rfl
theorem is_form_form {sc : List Span} (h : Valid sc) (S : Sto) : f_is_form [.p (scP (form sc))] S = some (.p (.bl true), S) := by
  refine fin_same rfl ?_
  have hv := form_valid h
  have h5 := hv.five
  simp [b_is_form, startE, is_scene_ok hv, found_form_ok (show (form sc).length ≤ 1000 by omega), eq_sc, form_form]
end XL
end
section
set_option Elab.async false
set_option linter.all false
set_option autoImplicit false
set_option maxRecDepth 100000
set_option maxHeartbeats 1000000
namespace XL
/-- a for over numbered things -/
theorem for_idx {n0 : Nat} {l : Option Nat} {S0 : Sto} {t : Tg} {b : XS} (n : Nat) (f : Nat → P) (I : Nat → Env → Sto → Prop)
    (step : ∀ k ρ S, k < n → I k ρ S → ∃ ρ1 ρ2 S2, t.put (f k) ρ = some ρ1 ∧ b ρ1 S = some (.nx ρ2, S2) ∧ cellOk l S0 S2 = true ∧ S2.length ≤ n0 ∧ I (k + 1) ρ2 S2) {ρ : Env} {S : Sto} (h : I 0 ρ S) :
    ∃ ρ' S', forGo n0 l S0 t b ((List.range n).map f) ρ S = some (.nx ρ', S') ∧ I n ρ' S' := by
  obtain ⟨ρ', S', e, k, hk, ed, hI⟩ := for_go (n0 := n0) (l := l) (S0 := S0) (t := t) (b := b) (fun ds ρ S => ∃ k, k ≤ n ∧ ds = ((List.range n).drop k).map f ∧ I k ρ S) (fun d ds ρ S hI => by
    obtain ⟨k, hk, e, hI⟩ := hI
    have hlt : k < n := by
      by_cases c : k < n
      · exact c
      · rw [List.drop_eq_nil_of_le (by simp; omega)] at e; cases e
    have e2 : (List.range n).drop k = k :: (List.range n).drop (k + 1) := by
      rw [List.drop_eq_getElem_cons (by simpa using hlt)]; simp
    rw [e2, List.map_cons] at e
    obtain ⟨rfl, rfl⟩ := List.cons.inj e
    obtain ⟨ρ1, ρ2, S2, a1, a2, a3, a4, a5⟩ := step k ρ S hlt hI
    exact ⟨ρ1, ρ2, S2, a1, a2, a3, a4, k + 1, hlt, rfl, a5⟩) ((List.range n).map f) ρ S ⟨0, Nat.zero_le _, by simp, h⟩
  have : k = n := by
    have h1 := congrArg List.length ed
    simp at h1
    omega
  subst this
  exact ⟨ρ', S', e, hI⟩
theorem letter_conv {x y : Span} (hx : x.1 < x.2) (hy : y.1 < y.2) : conv (letter x y) = letter y x := by
  unfold letter
  repeat' split
  all_goals first | (exfalso; omega) | decide
theorem letter_self {x : Span} (hx : x.1 < x.2) : letter x x = [101] := by
  unfold letter
  repeat' split
  all_goals first | (exfalso; omega) | rfl
theorem letter_ways (x y : Span) : IsWays (letter x y) := by
  unfold letter
  repeat' split
  all_goals decide
/-- all the ways of a scene, as texts -/
def waysOf (sc : List Span) : List P := (List.range sc.length).flatMap fun i => (List.range sc.length).map fun j => P.str (letter (sc.getD i (0, 1)) (sc.getD j (0, 1)))
theorem small_letter (x y : Span) : ∀ c ∈ letter x y, c < 1114112 := (letter_ways x y).small
theorem fm_succ {α : Type} (f : Nat → List α) (k : Nat) : (List.range (k + 1)).flatMap f = (List.range k).flatMap f ++ f k := by
  rw [List.range_succ, List.flatMap_append]; simp
theorem mp_succ {α : Type} (f : Nat → α) (k : Nat) : (List.range (k + 1)).map f = (List.range k).map f ++ [f k] := by
  rw [List.range_succ, List.map_append]; rfl
abbrev bIn02 : XS :=
    (xSeq (xSet 13 (xDef f_way_of (xConsD (xVar 3) (xConsD (xVar 7) (xConsD (xVar 12) xNilD)))))
    (xSeq (xIfS (xTor (xB (xBin pNe (xVar 13) (xDef f_law_letter (xConsD (xBin pIx (xVar 3) (xVar 7)) (xConsD (xBin pIx (xVar 3) (xVar 12)) xNilD))))) (xB (xBin pNe (xVar 13) (xDef f_way_of (xConsD (xVar 5) (xConsD (xVar 7) (xConsD (xVar 12) xNilD)))))))
    (xRet (xC (.bl false)))
    xPass)
    (xSeq (xIfS (xTor (xB (xBin pNe (xDef f_way_of (xConsD (xVar 3) (xConsD (xVar 12) (xConsD (xVar 7) xNilD)))) (xDef f_converse (xConsD (xVar 13) xNilD)))) (xTand (xB (xBin pEq (xVar 7) (xVar 12))) (xB (xBin pNe (xVar 13) (xC (.str [101]))))))
    (xRet (xC (.bl false)))
    xPass)
    (xSeq (xDrop (xApp (xVar 10) (xVar 13)))
    (xDrop (xApp (xVar 11) (xDef f_way_of (xConsD (xVar 4) (xConsD (xVar 7) (xConsD (xVar 12) xNilD))))))))))
def env02 (ns : List Int) (n : Nat) (sc ot la : List Span) (y ti : Int) (i j le : Option D) : Env :=
  [some (scr ns), some (.ref 0), some (.p (.int n)), some (.p (scP sc)), some (.p (scP ot)), some (.p (scP la)), some (.ref 1), i, some (.p (.int y)), some (.p (.int ti)), some (.ref 2), some (.ref 3), j, le, none, none, none]
theorem in_body {ns : List Int} {n : Nat} {sc ot la : List Span} {y ti : Int} {le : Option D} {C E : Cell} {W O : List P} {i j : Nat} (vs : Valid sc) (vo : Valid ot) (vl : Valid la) (ls : sc.length = n) (lo : ot.length = n) (ll : la.length = n)
    (same : ∀ (i j : Nat), i < n → j < n → letter (la.getD i (0, 1)) (la.getD j (0, 1)) = letter (sc.getD i (0, 1)) (sc.getD j (0, 1))) (hi : i < n) (hj : j < n) (hW : W.length < 1000) (hO : O.length < 1000) :
    bIn02 (env02 ns n sc ot la y ti (some (.p (.int i))) (some (.p (.int j))) le) [C, E, .lst W, .lst O] =
      some (.nx (env02 ns n sc ot la y ti (some (.p (.int i))) (some (.p (.int j))) (some (.p (.str (letter (sc.getD i (0, 1)) (sc.getD j (0, 1))))))), [C, E, .lst (W ++ [.str (letter (sc.getD i (0, 1)) (sc.getD j (0, 1)))]), .lst (O ++ [.str (letter (ot.getD i (0, 1)) (ot.getD j (0, 1)))])]) := by
  have g : ∀ {a : List Span} {k : Nat}, k < a.length → a[k]? = some (a.getD k (0, 1)) := fun h => by
    rw [List.getD_eq_getElem?_getD, List.getElem?_eq_getElem h]; rfl
  have gs : ∀ k < n, sc[k]? = some (sc.getD k (0, 1)) := fun k hk => g (by omega)
  have go : ∀ k < n, ot[k]? = some (ot.getD k (0, 1)) := fun k hk => g (by omega)
  have gl : ∀ k < n, la[k]? = some (la.getD k (0, 1)) := fun k hk => g (by omega)
  have w1 := fun S => way_of_ok vs (gs i hi) (gs j hj) S
  have w4 := fun S => way_of_ok vs (gs j hj) (gs i hi) S
  have w3 := fun S => way_of_ok vl (gl i hi) (gl j hj) S
  have w6 := fun S => way_of_ok vo (go i hi) (go j hj) S
  have mx := (vs.ok _ (List.mem_of_getElem? (gs i hi))).mid
  have my := (vs.ok _ (List.mem_of_getElem? (gs j hj))).mid
  have w2 := fun S => law_letter_ok _ _ mx my S
  have i1 : pIx (scP sc) (.int i) = some (.p (pr (sc.getD i (0, 1)))) := ix_tup_of (by omega) (by rw [Int.toNat_natCast, List.getElem?_map, gs i hi]; rfl)
  have i2 : pIx (scP sc) (.int j) = some (.p (pr (sc.getD j (0, 1)))) := ix_tup_of (by omega) (by rw [Int.toNat_natCast, List.getElem?_map, gs j hj]; rfl)
  have w5 := fun S => converse_ok (letter_ways (sc.getD i (0, 1)) (sc.getD j (0, 1))) S
  rw [letter_conv mx my] at w5
  rw [same i j hi hj] at w3
  have hij : i = j → letter (sc.getD i (0, 1)) (sc.getD j (0, 1)) = [101] := fun e => by subst e; exact letter_self mx
  generalize hA : letter (sc.getD i (0, 1)) (sc.getD j (0, 1)) = A at *
  generalize hB : letter (sc.getD j (0, 1)) (sc.getD i (0, 1)) = B at *
  generalize letter (ot.getD i (0, 1)) (ot.getD j (0, 1)) = F at *
  generalize sc.getD i (0, 1) = x at *
  generalize sc.getD j (0, 1) = z at *
  clear gs go gl same g
  have sA : ∀ c ∈ A, c < 1114112 := by rw [← hA]; exact small_letter _ _
  have sB : ∀ c ∈ B, c < 1114112 := by rw [← hB]; exact small_letter _ _
  have nA : pNe (.str A) (.str A) = some (.p (.bl false)) := by rw [ne_str sA sA]; simp
  have nB : pNe (.str B) (.str B) = some (.p (.bl false)) := by rw [ne_str sB sB]; simp
  have k1 : xSet 13 (xDef f_way_of (xConsD (xVar 3) (xConsD (xVar 7) (xConsD (xVar 12) xNilD)))) (env02 ns n sc ot la y ti (some (.p (.int i))) (some (.p (.int j))) le) [C, E, .lst W, .lst O] = some (.nx (env02 ns n sc ot la y ti (some (.p (.int i))) (some (.p (.int j))) (some (.p (.str A)))), [C, E, .lst W, .lst O]) := set_p (w1 _)
  have k2 : xTor (xB (xBin pNe (xVar 13) (xDef f_law_letter (xConsD (xBin pIx (xVar 3) (xVar 7)) (xConsD (xBin pIx (xVar 3) (xVar 12)) xNilD))))) (xB (xBin pNe (xVar 13) (xDef f_way_of (xConsD (xVar 5) (xConsD (xVar 7) (xConsD (xVar 12) xNilD)))))) (env02 ns n sc ot la y ti (some (.p (.int i))) (some (.p (.int j))) (some (.p (.str A)))) [C, E, .lst W, .lst O] = some (false, [C, E, .lst W, .lst O]) := by
    simp [env02, i1, i2, w2, w3, nA]
  have k3 : xTor (xB (xBin pNe (xDef f_way_of (xConsD (xVar 3) (xConsD (xVar 12) (xConsD (xVar 7) xNilD)))) (xDef f_converse (xConsD (xVar 13) xNilD)))) (xTand (xB (xBin pEq (xVar 7) (xVar 12))) (xB (xBin pNe (xVar 13) (xC (.str [101]))))) (env02 ns n sc ot la y ti (some (.p (.int i))) (some (.p (.int j))) (some (.p (.str A)))) [C, E, .lst W, .lst O] = some (false, [C, E, .lst W, .lst O]) := by
    by_cases e : i = j
    · have hAe := hij e
      subst e
      have nE : pNe (.str A) (.str [101]) = some (.p (.bl false)) := by rw [← hAe]; exact nA
      simp [env02, w4, w5, nB, nE]
    · have : ¬ (i : Int) = j := by omega
      simp [env02, w4, w5, nB, this]
  have k4 : xDrop (xApp (xVar 10) (xVar 13)) (env02 ns n sc ot la y ti (some (.p (.int i))) (some (.p (.int j))) (some (.p (.str A)))) [C, E, .lst W, .lst O] = some (.nx (env02 ns n sc ot la y ti (some (.p (.int i))) (some (.p (.int j))) (some (.p (.str A)))), [C, E, .lst (W ++ [.str A]), .lst O]) := by
    have : W.length < 1000000 := by omega
    simp [env02, this]
  have k5 : xDrop (xApp (xVar 11) (xDef f_way_of (xConsD (xVar 4) (xConsD (xVar 7) (xConsD (xVar 12) xNilD))))) (env02 ns n sc ot la y ti (some (.p (.int i))) (some (.p (.int j))) (some (.p (.str A)))) [C, E, .lst (W ++ [.str A]), .lst O] = some (.nx (env02 ns n sc ot la y ti (some (.p (.int i))) (some (.p (.int j))) (some (.p (.str A)))), [C, E, .lst (W ++ [.str A]), .lst (O ++ [.str F])]) := by
    have : O.length < 1000000 := by omega
    simp [env02, this, w6]
  show xSeq _ _ _ _ = _
  rw [seq_nx k1, seq_nx (if_no k2), seq_nx (if_no k3), seq_nx k4, k5]
def rowOf (sc : List Span) (n i : Nat) : List P := (List.range n).map fun j => P.str (letter (sc.getD i (0, 1)) (sc.getD j (0, 1)))
theorem in_loop {ns : List Int} {n : Nat} {sc ot la : List Span} {y ti : Int} {j0 le : Option D} {C E : Cell} {W O : List P} {i : Nat} (vs : Valid sc) (vo : Valid ot) (vl : Valid la) (ls : sc.length = n) (lo : ot.length = n) (ll : la.length = n)
    (same : ∀ (i j : Nat), i < n → j < n → letter (la.getD i (0, 1)) (la.getD j (0, 1)) = letter (sc.getD i (0, 1)) (sc.getD j (0, 1))) (hi : i < n) (hW : W.length < 900) (hO : O.length < 900) :
    ∃ j' le', xFor (xRng1 (xVar 2)) (.nm 12) bIn02 (env02 ns n sc ot la y ti (some (.p (.int i))) j0 le) [C, E, .lst W, .lst O] = some (.nx (env02 ns n sc ot la y ti (some (.p (.int i))) j' le'), [C, E, .lst (W ++ rowOf sc n i), .lst (O ++ rowOf ot n i)]) := by
  have h5 := vs.five
  unfold xFor
  rw [rng1 (n := n) rfl (by omega), intsFrom_eq]
  simp only [Option.bind_some, Int.zero_add]
  obtain ⟨ρ', S', e, j', le', rfl, rfl⟩ := for_idx (n0 := [C, E, Cell.lst W, Cell.lst O].length) (l := none) (S0 := [C, E, Cell.lst W, Cell.lst O]) (t := .nm 12) (b := bIn02) n (fun j => P.int (j : Nat))
    (fun k ρ S => ∃ j' le', ρ = env02 ns n sc ot la y ti (some (.p (.int i))) j' le' ∧ S = [C, E, .lst (W ++ (List.range k).map fun j => P.str (letter (sc.getD i (0, 1)) (sc.getD j (0, 1)))), .lst (O ++ (List.range k).map fun j => P.str (letter (ot.getD i (0, 1)) (ot.getD j (0, 1))))])
    (fun k ρ S hk hI => by
      obtain ⟨j', le', rfl, rfl⟩ := hI
      refine ⟨_, _, _, rfl, in_body vs vo vl ls lo ll same hi hk (by simp; omega) (by simp; omega), rfl, by simp, _, _, rfl, ?_⟩
      rw [mp_succ, mp_succ, List.append_assoc, List.append_assoc]) (ρ := env02 ns n sc ot la y ti (some (.p (.int i))) j0 le) (S := [C, E, Cell.lst W, Cell.lst O]) ⟨j0, le, rfl, by simp⟩
  exact ⟨j', le', e⟩
theorem row_len (sc : List Span) (n i : Nat) : (rowOf sc n i).length = n := by simp [rowOf]
theorem rows_len (sc : List Span) (n : Nat) : ∀ k, ((List.range k).flatMap (rowOf sc n)).length = k * n
  | 0 => by simp
  | k + 1 => by rw [fm_succ, List.length_append, rows_len sc n k, row_len, Nat.succ_mul]
theorem out_loop {ns : List Int} {n : Nat} {sc ot la : List Span} {y ti : Int} {i0 j0 le : Option D} {C E : Cell} (vs : Valid sc) (vo : Valid ot) (vl : Valid la) (ls : sc.length = n) (lo : ot.length = n) (ll : la.length = n)
    (same : ∀ (i j : Nat), i < n → j < n → letter (la.getD i (0, 1)) (la.getD j (0, 1)) = letter (sc.getD i (0, 1)) (sc.getD j (0, 1))) :
    ∃ i' j' le', xFor (xRng1 (xVar 2)) (.nm 7) (xFor (xRng1 (xVar 2)) (.nm 12) bIn02) (env02 ns n sc ot la y ti i0 j0 le) [C, E, .lst [], .lst []] = some (.nx (env02 ns n sc ot la y ti i' j' le'), [C, E, .lst ((List.range n).flatMap (rowOf sc n)), .lst ((List.range n).flatMap (rowOf ot n))]) := by
  have h5 := vs.five
  rw [xFor]
  rw [rng1 (n := n) rfl (by omega), intsFrom_eq]
  simp only [Option.bind_some, Int.zero_add]
  obtain ⟨ρ', S', e, i', j', le', rfl, rfl⟩ := for_idx (n0 := [C, E, Cell.lst [], Cell.lst []].length) (l := none) (S0 := [C, E, Cell.lst [], Cell.lst []]) (t := .nm 7) (b := xFor (xRng1 (xVar 2)) (.nm 12) bIn02) n (fun j => P.int (j : Nat))
    (fun k ρ S => ∃ i' j' le', ρ = env02 ns n sc ot la y ti i' j' le' ∧ S = [C, E, .lst ((List.range k).flatMap (rowOf sc n)), .lst ((List.range k).flatMap (rowOf ot n))])
    (fun k ρ S hk hI => by
      obtain ⟨i', j', le', rfl, rfl⟩ := hI
      have hkn : k * n ≤ 25 := Nat.le_trans (Nat.mul_le_mul (show k ≤ 5 by omega) (show n ≤ 5 by omega)) (by decide)
      obtain ⟨j2, le2, e2⟩ := in_loop (ns := ns) (y := y) (ti := ti) (j0 := j') (le := le') (C := C) (E := E) (W := (List.range k).flatMap (rowOf sc n)) (O := (List.range k).flatMap (rowOf ot n)) (i := k) vs vo vl ls lo ll same hk (by rw [rows_len]; omega) (by rw [rows_len]; omega)
      refine ⟨_, _, _, rfl, e2, rfl, by simp, _, _, _, rfl, ?_⟩
      rw [fm_succ, fm_succ]) (ρ := env02 ns n sc ot la y ti i0 j0 le) (S := [C, E, Cell.lst [], Cell.lst []]) ⟨i0, j0, le, rfl, rfl⟩
  exact ⟨i', j', le', e⟩
/-! the last row: equal lists of letters, equal forms -/
theorem pyeqs_strs : ∀ (a b : List (List Nat)), P.pyeqs (a.map P.str) (b.map P.str) = decide (a = b)
  | [], [] => by simp [P.pyeqs]
  | [], _ :: _ => by simp [P.pyeqs]
  | _ :: _, [] => by simp [P.pyeqs]
  | x :: a, y :: b => by
    have := pyeqs_strs a b
    simp only [List.map_cons, P.pyeqs, P.pyeq, this, List.cons.injEq, Bool.decide_and]
def lets (sc : List Span) (n : Nat) : List (List Nat) := (List.range n).flatMap fun i => (List.range n).map fun j => letter (sc.getD i (0, 1)) (sc.getD j (0, 1))
theorem rows_lets (sc : List Span) (n : Nat) : (List.range n).flatMap (rowOf sc n) = (lets sc n).map P.str := by
  unfold lets
  rw [List.map_flatMap]
  congr 1
  funext i
  simp [rowOf, Function.comp]
theorem lets_iff (sc ot : List Span) (n : Nat) : lets sc n = lets ot n ↔ ∀ i j, i < n → j < n → letter (sc.getD i (0, 1)) (sc.getD j (0, 1)) = letter (ot.getD i (0, 1)) (ot.getD j (0, 1)) := by
  constructor
  · intro h i j hi hj
    have len : ∀ (s : List Span) (k : Nat), ((List.range k).flatMap fun i => (List.range n).map fun j => letter (s.getD i (0, 1)) (s.getD j (0, 1))).length = k * n := by
      intro s k
      induction k with
      | zero => simp
      | succ k ih => rw [fm_succ, List.length_append, ih]; simp [Nat.succ_mul]
    have key : ∀ (s : List Span) (k : Nat), i < k → ((List.range k).flatMap fun i => (List.range n).map fun j => letter (s.getD i (0, 1)) (s.getD j (0, 1)))[i * n + j]? = some (letter (s.getD i (0, 1)) (s.getD j (0, 1))) := by
      intro s k
      induction k with
      | zero => intro h; omega
      | succ k ih =>
        intro hk
        rw [fm_succ]
        by_cases c : i < k
        · have : i * n + j < k * n := by
            have := Nat.mul_le_mul_right n (show i + 1 ≤ k by omega)
            rw [Nat.add_mul] at this; omega
          rw [List.getElem?_append_left (by rw [len]; exact this)]
          exact ih c
        · have e : i = k := by omega
          subst e
          rw [List.getElem?_append_right (by rw [len]; omega), len]
          have : i * n + j - i * n = j := by omega
          rw [this, List.getElem?_map, List.getElem?_range hj]; rfl
    have a := key sc n hi
    have b := key ot n hi
    have h' : ((List.range n).flatMap fun i => (List.range n).map fun j => letter (sc.getD i (0, 1)) (sc.getD j (0, 1))) = ((List.range n).flatMap fun i => (List.range n).map fun j => letter (ot.getD i (0, 1)) (ot.getD j (0, 1))) := h
    rw [h', b] at a
    exact (Option.some.inj a).symm
  · intro h
    unfold lets
    rw [List.flatMap_def, List.flatMap_def]
    congr 1
    refine List.map_congr_left fun i hi => List.map_congr_left fun j hj => h i j (List.mem_range.mp hi) (List.mem_range.mp hj)
theorem lets_form {sc ot : List Span} {n : Nat} (vs : Valid sc) (vo : Valid ot) (ls : sc.length = n) (lo : ot.length = n) : lets sc n = lets ot n ↔ form ot = form sc := by
  rw [lets_iff, eq_comm (a := form ot), ← form_iff (fun x hx => (vs.ok x hx).mid) (fun x hx => (vo.ok x hx).mid) (by omega)]
  have g : ∀ {a : List Span} {k : Nat} {z : Span}, a[k]? = some z → a.getD k (0, 1) = z := fun h => by
    rw [List.getD_eq_getElem?_getD, h]; rfl
  constructor
  · intro h i j x y x' y' h1 h2 h3 h4
    have := h i j (by rw [← ls]; exact (List.getElem?_eq_some_iff.mp h1).1) (by rw [← ls]; exact (List.getElem?_eq_some_iff.mp h2).1)
    rw [g h1, g h2, g h3, g h4] at this
    exact this
  · intro h i j hi hj
    have e : ∀ {a : List Span} {k : Nat}, k < a.length → a[k]? = some (a.getD k (0, 1)) := fun h => by
      rw [List.getD_eq_getElem?_getD, List.getElem?_eq_getElem h]; rfl
    exact h i j _ _ _ _ (e (by omega)) (e (by omega)) (e (by omega)) (e (by omega))
theorem argD_p {a : XE} {ys : XD} {ρ : Env} {S S1 S2 : Sto} {d : P} {ds : List D} (h : a ρ S = some (.p d, S1)) (hr : ys ρ S1 = some (ds, S2)) : xConsD a ys ρ S = some (.p d :: ds, S2) := by
  rw [e_ConsD, h]; simp [hr]
theorem argD_ref {a : XE} {ys : XD} {ρ : Env} {S S1 S2 : Sto} {l : Nat} {ds : List D} (h : a ρ S = some (.ref l, S1)) (hr : ys ρ S1 = some (ds, S2)) : xConsD a ys ρ S = some (.ref l :: ds, S2) := by
  rw [e_ConsD, h]; simp [hr]
theorem set0 {C D : Cell} : [C].set 0 D = [D] := rfl
abbrev tail02 : XS :=
    (xSeq (xSet 5 (xCall cTuple (xCons (xLc (xItA (xVar 3)) (.tp [14, 15]) xTyes
      (xTup (xCons (xBin pAdd (xBin pMul (xVar 14) (xVar 9)) (xVar 8)) (xCons (xBin pAdd (xBin pMul (xVar 15) (xVar 9)) (xVar 8)) xNil))) [14, 15]) xNil)))
    (xSeq (xIfS (xTor (xB (xBin pNe (xDef f_form_of (xConsD (xVar 3) xNilD)) (xDef f_law_normal (xConsD (xVar 3) xNilD)))) (xTor (xB (xBin pNe (xDef f_form_of (xConsD (xVar 5) xNilD)) (xDef f_form_of (xConsD (xVar 3) xNilD)))) (xB (xBin pIsNot (xDef f_is_form (xConsD (xDef f_form_of (xConsD (xVar 3) xNilD)) xNilD)) (xC (.bl true))))))
    (xRet (xC (.bl false)))
    xPass)
    (xSeq (xSet 6 (xUn uSortedSet (xBin pAdd (xLc (xItA (xDef f_form_of (xConsD (xVar 3) xNilD))) (.nm 16) xTyes
      (xBin pIx (xVar 16) (xC (.int 0))) [16]) (xLc (xItA (xDef f_form_of (xConsD (xVar 3) xNilD))) (.nm 16) xTyes
      (xBin pIx (xVar 16) (xC (.int 1))) [16]))))
    (xSeq (xIfS (xB (xBin pNe (xVar 6) (xUn uListRng (xCall cLen (xCons (xVar 6) xNil)))))
    (xRet (xC (.bl false)))
    xPass)
    (xSeq (xPar [10, 11] (xConsB (xLst xNil) (xConsB (xLst xNil) xNilD)))
    (xSeq (xFor (xRng1 (xVar 2)) (.nm 7) (xFor (xRng1 (xVar 2)) (.nm 12) bIn02))
    (xRet (xBin pEq (xBin pEq (xVar 10) (xVar 11)) (xBin pEq (xDef f_form_of (xConsD (xVar 4) xNilD)) (xDef f_form_of (xConsD (xVar 3) xNilD)))))))))))
theorem tail_ok {ns : List Int} {n : Nat} {sc ot : List Span} {y ti : Int} {C : Cell} (vs : Valid sc) (vo : Valid ot) (ls : sc.length = n) (lo : ot.length = n) (ht : 0 < ti) (ht2 : ti < 10) (hy : -50 ≤ y) (hy2 : y < 49) (hs : ∀ x ∈ sc, 0 ≤ x.1 ∧ x.2 ≤ 60) :
    ∃ S, tail02 [some (scr ns), some (.ref 0), some (.p (.int n)), some (.p (scP sc)), some (.p (scP ot)), none, none, none, some (.p (.int y)), some (.p (.int ti)), none, none, none, none, none, none, none] [C] = some (.rt (.p (.bl true)), S) := by
  have h5 := vs.five
  have g : ∀ u v : Int, u * ti + y < v * ti + y ↔ u < v := fun u v => by
    constructor
    · intro h
      have h' : u * ti < v * ti := by omega
      exact Int.lt_of_mul_lt_mul_right h' (by omega)
    · intro h
      have := Int.mul_lt_mul_of_pos_right h ht
      omega
  generalize hla : (sc.map fun x => (x.1 * ti + y, x.2 * ti + y)) = la
  have fl : form la = form sc := by rw [← hla]; exact form_mono (g := fun z => z * ti + y) g
  have ll : la.length = n := by rw [← hla, List.length_map]; exact ls
  have bnd : ∀ u : Int, 0 ≤ u → u ≤ 60 → 0 ≤ u * ti ∧ u * ti ≤ 540 := fun u h1 h2 => by
    refine ⟨Int.mul_nonneg h1 (by omega), ?_⟩
    have a : u * ti ≤ 60 * ti := Int.mul_le_mul_of_nonneg_right h2 (by omega)
    omega
  have vl : Valid la := by
    refine ⟨by rw [ll, ← ls]; exact vs.one, by omega, fun x hx => ?_⟩
    rw [← hla] at hx
    obtain ⟨z, hz, rfl⟩ := List.mem_map.mp hx
    obtain ⟨z1, z2⟩ := hs z hz
    have zm := (vs.ok z hz).mid
    have b1 := bnd z.1 z1 (by omega)
    have b2 := bnd z.2 (by omega) z2
    have := (g z.1 z.2).mpr zm
    exact ⟨by simp only; omega, this, by simp only; omega⟩
  have same : ∀ (i j : Nat), i < n → j < n → letter (la.getD i (0, 1)) (la.getD j (0, 1)) = letter (sc.getD i (0, 1)) (sc.getD j (0, 1)) := by
    have := (lets_iff la sc n).mp ((lets_form vl vs ll ls).mpr fl.symm)
    exact this
  have k1 : xSet 5 (xCall cTuple (xCons (xLc (xItA (xVar 3)) (.tp [14, 15]) xTyes
      (xTup (xCons (xBin pAdd (xBin pMul (xVar 14) (xVar 9)) (xVar 8)) (xCons (xBin pAdd (xBin pMul (xVar 15) (xVar 9)) (xVar 8)) xNil))) [14, 15]) xNil)) [some (scr ns), some (.ref 0), some (.p (.int n)), some (.p (scP sc)), some (.p (scP ot)), none, none, none, some (.p (.int y)), some (.p (.int ti)), none, none, none, none, none, none, none] [C]
      = some (.nx [some (scr ns), some (.ref 0), some (.p (.int n)), some (.p (scP sc)), some (.p (scP ot)), some (.p (scP la)), none, none, some (.p (.int y)), some (.p (.int ti)), none, none, none, none, none, none, none], [C]) := by
    refine set_p ?_
    have q : ∀ u : Int, pMul (.int u) (.int ti) = some (.p (.int (u * ti))) := fun u => mul_int' _ _ (by omega) (by omega)
    rw [e_Call, e_Cons, lc_all (ds := sc.map pr) (l := none) (fun d => match d with | .tup [.int a, .int b] => pr (a * ti + y, b * ti + y) | _ => .non) (itA_tup (by simp [scP])) (fun d hd => by
      obtain ⟨x, hx, rfl⟩ := List.mem_map.mp hd
      refine ⟨_, rfl, .p (pr (x.1 * ti + y, x.2 * ti + y)), ?_, rfl⟩
      simp [wipeE, q, pr]) (by rw [big_is, List.length_map]; omega)]
    simp [scP, ← hla, pr, Function.comp]
  generalize hF : form sc = F at *
  have f1 : ∀ S, f_form_of [.p (scP sc)] S = some (.p (scP F), S) := fun S => by rw [← hF]; exact form_of_ok vs S
  have f2 : ∀ S, f_form_of [.p (scP la)] S = some (.p (scP F), S) := fun S => by rw [← fl]; exact form_of_ok vl S
  have f3 : ∀ S, f_law_normal [.p (scP sc)] S = some (.p (scP F), S) := fun S => by rw [← hF]; exact law_normal_ok (by omega) S
  have f4 : ∀ S, f_is_form [.p (scP F)] S = some (.p (.bl true), S) := fun S => by rw [← hF]; exact is_form_form vs S
  have nF : pNe (scP F) (scP F) = some (.p (.bl false)) := by rw [ne_sc]; simp
  have lF : F.length ≤ 5 := by rw [← hF, form_len]; exact h5
  let e1 : Env := [some (scr ns), some (.ref 0), some (.p (.int n)), some (.p (scP sc)), some (.p (scP ot)), some (.p (scP la)), none, none, some (.p (.int y)), some (.p (.int ti)), none, none, none, none, none, none, none]
  have k2 : xTor (xB (xBin pNe (xDef f_form_of (xConsD (xVar 3) xNilD)) (xDef f_law_normal (xConsD (xVar 3) xNilD)))) (xTor (xB (xBin pNe (xDef f_form_of (xConsD (xVar 5) xNilD)) (xDef f_form_of (xConsD (xVar 3) xNilD)))) (xB (xBin pIsNot (xDef f_is_form (xConsD (xDef f_form_of (xConsD (xVar 3) xNilD)) xNilD)) (xC (.bl true))))) e1 [C] = some (false, [C]) := by
    simp [e1, f1, f2, f3, f4, nF, pIsNot]
  have c1 : xLc (xItA (xDef f_form_of (xConsD (xVar 3) xNilD))) (.nm 16) xTyes (xBin pIx (xVar 16) (xC (.int 0))) [16] e1 [C] = some (.frl ((F.map Prod.fst).map P.int), [C]) := by
    rw [lc_all (ds := F.map pr) (l := none) (fun d => match d with | .tup [.int a, .int b] => .int a | _ => .non) (itA_tup (show xDef f_form_of (xConsD (xVar 3) xNilD) e1 [C] = some (.p (.tup (F.map pr)), [C]) from f1 [C])) (fun d hd => by
      obtain ⟨x, hx, rfl⟩ := List.mem_map.mp hd
      refine ⟨_, rfl, .p (.int x.1), ?_, rfl⟩
      simp [e1, wipeE, pr]) (by rw [big_is, List.length_map]; omega)]
    simp [pr, Function.comp]
  have c2 : xLc (xItA (xDef f_form_of (xConsD (xVar 3) xNilD))) (.nm 16) xTyes (xBin pIx (xVar 16) (xC (.int 1))) [16] e1 [C] = some (.frl ((F.map Prod.snd).map P.int), [C]) := by
    rw [lc_all (ds := F.map pr) (l := none) (fun d => match d with | .tup [.int a, .int b] => .int b | _ => .non) (itA_tup (show xDef f_form_of (xConsD (xVar 3) xNilD) e1 [C] = some (.p (.tup (F.map pr)), [C]) from f1 [C])) (fun d hd => by
      obtain ⟨x, hx, rfl⟩ := List.mem_map.mp hd
      refine ⟨_, rfl, .p (.int x.2), ?_, rfl⟩
      simp [e1, wipeE, pr]) (by rw [big_is, List.length_map]; omega)]
    simp [pr, Function.comp]
  have hends : endsOf (F.map Prod.fst ++ F.map Prod.snd) = endsOf (endsL F) := ends_congr fun k => by
    simp only [List.mem_append, List.mem_map, endsL, List.mem_flatMap, List.mem_cons, List.not_mem_nil, or_false]
    constructor
    · rintro (⟨x, hx, rfl⟩ | ⟨x, hx, rfl⟩)
      · exact ⟨x, hx, .inl rfl⟩
      · exact ⟨x, hx, .inr rfl⟩
    · rintro ⟨x, hx, rfl | rfl⟩
      · exact .inl ⟨x, hx, rfl⟩
      · exact .inr ⟨x, hx, rfl⟩
  generalize hm : (endsOf (endsL sc)).length = m
  have hE : endsOf (endsL F) = (List.range m).map fun (i : Nat) => (i : Int) := by rw [← hF, ends_form, hm]
  have hm2 : m ≤ 100 := by
    have : ∀ l : List Int, (endsOf l).length ≤ l.length := by
      intro l
      induction l with
      | nil => simp [endsOf]
      | cons x xs ih =>
        have : ∀ (x : Int) (l : List Int), (insS x l).length ≤ l.length + 1 := by
          intro x l
          induction l with
          | nil => simp [insS]
          | cons y ys ih => unfold insS; split <;> (try split) <;> simp <;> omega
        have := this x (endsOf xs)
        simp only [endsOf, List.length_cons]; omega
    have := this (endsL sc)
    rw [endsL_len] at this; omega
  let R : List P := (List.range m).map fun (i : Nat) => P.int (i : Int)
  have k3 : xSet 6 (xUn uSortedSet (xBin pAdd (xLc (xItA (xDef f_form_of (xConsD (xVar 3) xNilD))) (.nm 16) xTyes
      (xBin pIx (xVar 16) (xC (.int 0))) [16]) (xLc (xItA (xDef f_form_of (xConsD (xVar 3) xNilD))) (.nm 16) xTyes
      (xBin pIx (xVar 16) (xC (.int 1))) [16]))) e1 [C] = some (.nx [some (scr ns), some (.ref 0), some (.p (.int n)), some (.p (scP sc)), some (.p (scP ot)), some (.p (scP la)), some (.ref 1), none, some (.p (.int y)), some (.p (.int ti)), none, none, none, none, none, none, none], [C, .lst R]) := by
    have e2 : xUn uSortedSet (xBin pAdd (xLc (xItA (xDef f_form_of (xConsD (xVar 3) xNilD))) (.nm 16) xTyes
      (xBin pIx (xVar 16) (xC (.int 0))) [16]) (xLc (xItA (xDef f_form_of (xConsD (xVar 3) xNilD))) (.nm 16) xTyes
      (xBin pIx (xVar 16) (xC (.int 1))) [16])) e1 [C] = some (.frl R, [C]) := by
      rw [e_Un, e_Bin, c1]
      simp only [Option.bind_some, c2, rd_frl]
      have : pAdd (.lst ((F.map Prod.fst).map P.int)) (.lst ((F.map Prod.snd).map P.int)) = some (.frl ((F.map Prod.fst ++ F.map Prod.snd).map P.int)) := by
        unfold pAdd
        simp only
        rw [if_pos (by simp; omega), List.map_append]
      simp only [this, Option.map_some, Option.bind_some, rd_frl]
      rw [sortedSet_int (by simp; omega), hends, hE]
      simp [R, Function.comp]
    rw [set_frl e2]; rfl
  have hR : R.length = m := by simp [R]
  have pR : P.pyeqs R R = true := by
    have : ∀ l : List Nat, P.pyeqs (l.map fun (i : Nat) => P.int (i : Int)) (l.map fun (i : Nat) => P.int (i : Int)) = true := by
      intro l
      induction l with
      | nil => simp [P.pyeqs]
      | cons a l ih => simp only [List.map_cons, P.pyeqs, P.pyeq, ih]; simp
    exact this _
  have fR : R.all (P.fit 59) = true := by simp [R]
  have k4 : xB (xBin pNe (xVar 6) (xUn uListRng (xCall cLen (xCons (xVar 6) xNil)))) [some (scr ns), some (.ref 0), some (.p (.int n)), some (.p (scP sc)), some (.p (scP ot)), some (.p (scP la)), some (.ref 1), none, some (.p (.int y)), some (.p (.int ti)), none, none, none, none, none, none, none] [C, .lst R] = some (false, [C, .lst R]) := by
    have hu : uListRng (.int (m : Int)) = some (.frl R) := by
      have : uListRng (.int (m : Int)) = some (.frl ((List.range (m : Int).toNat).map fun i => P.int (i : Nat))) := if_pos ⟨by omega, by show (m : Int) ≤ ((1000000 : Nat) : Int); omega⟩
      rw [this]; simp [R]
    have hn : pNe (.lst R) (.lst R) = some (.p (.bl false)) := by
      unfold pNe
      rw [fit_lst60, fR, P.pyeq, pR]; rfl
    simp [XL.R.rd, hR, hu, hn]
  have k5 : xPar [10, 11] (xConsB (xLst xNil) (xConsB (xLst xNil) xNilD)) [some (scr ns), some (.ref 0), some (.p (.int n)), some (.p (scP sc)), some (.p (scP ot)), some (.p (scP la)), some (.ref 1), none, some (.p (.int y)), some (.p (.int ti)), none, none, none, none, none, none, none] [C, .lst R] = some (.nx (env02 ns n sc ot la y ti none none none), [C, .lst R, .lst [], .lst []]) := by
    simp [setAllD, env02]
  obtain ⟨i', j', le', k6⟩ := out_loop (ns := ns) (y := y) (ti := ti) (i0 := none) (j0 := none) (le := none) (C := C) (E := .lst R) vs vo vl ls lo ll same
  refine ⟨[C, .lst R, .lst ((lets sc n).map P.str), .lst ((lets ot n).map P.str)], ?_⟩
  show xSeq _ _ _ _ = _
  rw [seq_nx k1, seq_nx (if_no k2), seq_nx k3, seq_nx (if_no k4), seq_nx k5, seq_nx k6]
  rw [rows_lets, rows_lets]
  have fo := fun S => form_of_ok vo S
  have hsm : ∀ (a : List Span), ((lets a n).map P.str).all (P.fit 59) = true := fun a => by
    rw [List.all_eq_true]
    intro d hd
    obtain ⟨l, hl, rfl⟩ := List.mem_map.mp hd
    unfold lets at hl
    obtain ⟨i, _, hl⟩ := List.mem_flatMap.mp hl
    obtain ⟨j, _, rfl⟩ := List.mem_map.mp hl
    exact fit_st (small_letter _ _) _
  have q1 : pEq (.lst ((lets sc n).map P.str)) (.lst ((lets ot n).map P.str)) = some (.p (.bl (decide (lets sc n = lets ot n)))) := by
    unfold pEq
    rw [fit_lst60, fit_lst60, hsm, hsm, P.pyeq, pyeqs_strs]; rfl
  have q2 : (decide (lets sc n = lets ot n)) = decide (form ot = F) := by
    have := lets_form vs vo ls lo
    rw [hF] at this
    exact decide_eq_decide.mpr this
  have q3 : ∀ b : Bool, pEq (.bl b) (.bl b) = some (.p (.bl true)) := fun b => by cases b <;> rfl
  have r1 : xVar 10 (env02 ns n sc ot la y ti i' j' le') [C, .lst R, .lst ((lets sc n).map P.str), .lst ((lets ot n).map P.str)] = some (.ref 2, [C, .lst R, .lst ((lets sc n).map P.str), .lst ((lets ot n).map P.str)]) := rfl
  refine ret_p (d := .bl true) ?_
  have r2 : xBin pEq (xVar 10) (xVar 11) (env02 ns n sc ot la y ti i' j' le') [C, .lst R, .lst ((lets sc n).map P.str), .lst ((lets ot n).map P.str)] = some (.p (.bl (decide (form ot = F))), [C, .lst R, .lst ((lets sc n).map P.str), .lst ((lets ot n).map P.str)]) := by
    have : xBin pEq (xVar 10) (xVar 11) (env02 ns n sc ot la y ti i' j' le') [C, .lst R, .lst ((lets sc n).map P.str), .lst ((lets ot n).map P.str)] = (pEq (.lst ((lets sc n).map P.str)) (.lst ((lets ot n).map P.str))).map fun r => (r, [C, .lst R, .lst ((lets sc n).map P.str), .lst ((lets ot n).map P.str)]) := rfl
    rw [this, q1, q2]; rfl
  have r3 : xBin pEq (xDef f_form_of (xConsD (xVar 4) xNilD)) (xDef f_form_of (xConsD (xVar 3) xNilD)) (env02 ns n sc ot la y ti i' j' le') [C, .lst R, .lst ((lets sc n).map P.str), .lst ((lets ot n).map P.str)] = some (.p (.bl (decide (form ot = F))), [C, .lst R, .lst ((lets sc n).map P.str), .lst ((lets ot n).map P.str)]) := by
    rw [bin_p (show xDef f_form_of (xConsD (xVar 4) xNilD) (env02 ns n sc ot la y ti i' j' le') _ = some (.p (scP (form ot)), _) from fo _) (show xDef f_form_of (xConsD (xVar 3) xNilD) (env02 ns n sc ot la y ti i' j' le') _ = some (.p (scP F), _) from f1 _), eq_sc]; rfl
  rw [bin_p r2 r3, q3]; rfl
theorem law_is_k02 (ns : List Int) (hl : ns.length ≤ 63) : ∃ S, f_law_k02 [.p (.lst (ns.map P.int))] [] = some (.p (.bl true), S) := by
  have b0 : startE 17 [scr ns] = [some (scr ns), none, none, none, none, none, none, none, none, none, none, none, none, none, none, none, none] := rfl
  -- town
  have k1 : xSet 1 (xDef f_law_town (xConsD (xVar 0) xNilD)) (startE 17 [scr ns]) [] = some (.nx [some (scr ns), some (.ref 0), none, none, none, none, none, none, none, none, none, none, none, none, none, none, none], [.lst (.int 0 :: ns.map P.int)]) :=
    set_frl (show xDef f_law_town (xConsD (xVar 0) xNilD) (startE 17 [scr ns]) [] = some (.frl (.int 0 :: ns.map P.int), []) from law_town_ok hl [])
  have T0 : Town ns 0 0 [.lst (.int 0 :: ns.map P.int)] := town_new (S := [])
  -- spans
  obtain ⟨v1, S1, d1, p1, q1, C1, e1, T1⟩ := draw_ok (lim := 5) T0 (by omega) (by omega) (by omega)
  rw [set0] at e1
  subst e1
  obtain ⟨n, hn⟩ : ∃ n : Nat, 1 + v1 = n := ⟨(1 + v1).toNat, by omega⟩
  have k2 : xSet 2 (xBin pAdd (xC (.int 1)) (xDef f_law_draw (xConsD (xVar 0) (xConsD (xVar 1) (xConsD (xC (.int 5)) xNilD))))) [some (scr ns), some (.ref 0), none, none, none, none, none, none, none, none, none, none, none, none, none, none, none] [.lst (.int 0 :: ns.map P.int)] = some (.nx [some (scr ns), some (.ref 0), some (.p (.int n)), none, none, none, none, none, none, none, none, none, none, none, none, none, none], [C1]) := by
    refine set_p ?_
    have a : xDef f_law_draw (xConsD (xVar 0) (xConsD (xVar 1) (xConsD (xC (.int 5)) xNilD))) [some (scr ns), some (.ref 0), none, none, none, none, none, none, none, none, none, none, none, none, none, none, none] [.lst (.int 0 :: ns.map P.int)] = some (.p (.int v1), [C1]) := d1
    rw [bin_p (p := .int 1) (S1 := [.lst (.int 0 :: ns.map P.int)]) rfl a, add_int, hn]; rfl
  -- the scene
  obtain ⟨far, S2, d2, m2, C2, e2, T2⟩ := law_pick_ok T1 (by omega) [.int 2, .int 4, .int 30] (by simp) (by decide)
  rw [set0] at e2
  subst e2
  obtain ⟨fr, rfl, fr0, fr1⟩ : ∃ fr : Int, far = .int fr ∧ 0 < fr ∧ fr ≤ 30 := by
    simp only [List.mem_cons, List.not_mem_nil, or_false] at m2
    rcases m2 with rfl | rfl | rfl
    · exact ⟨2, rfl, by omega, by omega⟩
    · exact ⟨4, rfl, by omega, by omega⟩
    · exact ⟨30, rfl, by omega, by omega⟩
  obtain ⟨sc, S3, d3, l3, x3, C3, e3, T3⟩ := law_scene_ok n fr T2 (by omega) (by omega) fr0 (by omega)
  rw [set0] at e3
  subst e3
  have k3 : xSet 3 (xDef f_law_scene (xConsD (xVar 0) (xConsD (xVar 1) (xConsD (xVar 2) (xConsD (xDef f_law_pick (xConsD (xVar 0) (xConsD (xVar 1) (xConsD (xLst (xCons (xC (.int 2)) (xCons (xC (.int 4)) (xCons (xC (.int 30)) xNil)))) xNilD)))) xNilD))))) [some (scr ns), some (.ref 0), some (.p (.int n)), none, none, none, none, none, none, none, none, none, none, none, none, none, none] [C1] = some (.nx [some (scr ns), some (.ref 0), some (.p (.int n)), some (.p (scP sc)), none, none, none, none, none, none, none, none, none, none, none, none, none], [C3]) := by
    refine set_p ?_
    have a : xDef f_law_pick (xConsD (xVar 0) (xConsD (xVar 1) (xConsD (xLst (xCons (xC (.int 2)) (xCons (xC (.int 4)) (xCons (xC (.int 30)) xNil)))) xNilD))) [some (scr ns), some (.ref 0), some (.p (.int n)), none, none, none, none, none, none, none, none, none, none, none, none, none, none] [C1] = some (.p (.int fr), [C2]) := d2
    have a2 : xConsD (xVar 0) (xConsD (xVar 1) (xConsD (xVar 2) (xConsD (xDef f_law_pick (xConsD (xVar 0) (xConsD (xVar 1) (xConsD (xLst (xCons (xC (.int 2)) (xCons (xC (.int 4)) (xCons (xC (.int 30)) xNil)))) xNilD)))) xNilD))) [some (scr ns), some (.ref 0), some (.p (.int n)), none, none, none, none, none, none, none, none, none, none, none, none, none, none] [C1] = some ([scr ns, .ref 0, .p (.int n), .p (.int fr)], [C2]) := by
      exact argD_p (S1 := [C1]) rfl (argD_ref (S1 := [C1]) rfl (argD_p (S1 := [C1]) rfl (argD_p a rfl)))
    rw [e_Def, a2]
    exact d3
  -- the other
  obtain ⟨ot, S4, d4, l4, x4, C4, e4, T4⟩ := law_scene_ok n 2 T3 (by omega) (by omega) (by omega) (by omega)
  rw [set0] at e4
  subst e4
  have k4 : xSet 4 (xDef f_law_scene (xConsD (xVar 0) (xConsD (xVar 1) (xConsD (xVar 2) (xConsD (xC (.int 2)) xNilD))))) [some (scr ns), some (.ref 0), some (.p (.int n)), some (.p (scP sc)), none, none, none, none, none, none, none, none, none, none, none, none, none] [C3] = some (.nx [some (scr ns), some (.ref 0), some (.p (.int n)), some (.p (scP sc)), some (.p (scP ot)), none, none, none, none, none, none, none, none, none, none, none, none], [C4]) := set_p d4
  -- by, times
  obtain ⟨v5, S5, d5, p5, q5, C5, e5, T5⟩ := draw_ok (lim := 99) T4 (by omega) (by omega) (by omega)
  rw [set0] at e5
  subst e5
  obtain ⟨v6, S6, d6, p6, q6, C6, e6, T6⟩ := draw_ok (lim := 9) T5 (by omega) (by omega) (by omega)
  rw [set0] at e6
  subst e6
  have k5 : xPar [8, 9] (xConsB (xBin pSub (xDef f_law_draw (xConsD (xVar 0) (xConsD (xVar 1) (xConsD (xC (.int 99)) xNilD)))) (xC (.int 50))) (xConsB (xBin pAdd (xC (.int 1)) (xDef f_law_draw (xConsD (xVar 0) (xConsD (xVar 1) (xConsD (xC (.int 9)) xNilD))))) xNilD)) [some (scr ns), some (.ref 0), some (.p (.int n)), some (.p (scP sc)), some (.p (scP ot)), none, none, none, none, none, none, none, none, none, none, none, none] [C4] = some (.nx [some (scr ns), some (.ref 0), some (.p (.int n)), some (.p (scP sc)), some (.p (scP ot)), none, none, none, some (.p (.int (v5 - 50))), some (.p (.int (1 + v6))), none, none, none, none, none, none, none], [C6]) := by
    have a : xBin pSub (xDef f_law_draw (xConsD (xVar 0) (xConsD (xVar 1) (xConsD (xC (.int 99)) xNilD)))) (xC (.int 50)) [some (scr ns), some (.ref 0), some (.p (.int n)), some (.p (scP sc)), some (.p (scP ot)), none, none, none, none, none, none, none, none, none, none, none, none] [C4] = some (.p (.int (v5 - 50)), [C5]) := by
      have a0 : xDef f_law_draw (xConsD (xVar 0) (xConsD (xVar 1) (xConsD (xC (.int 99)) xNilD))) [some (scr ns), some (.ref 0), some (.p (.int n)), some (.p (scP sc)), some (.p (scP ot)), none, none, none, none, none, none, none, none, none, none, none, none] [C4] = some (.p (.int v5), [C5]) := d5
      rw [bin_p (q := .int 50) (S2 := [C5]) a0 rfl, sub_int]; rfl
    have b : xBin pAdd (xC (.int 1)) (xDef f_law_draw (xConsD (xVar 0) (xConsD (xVar 1) (xConsD (xC (.int 9)) xNilD)))) [some (scr ns), some (.ref 0), some (.p (.int n)), some (.p (scP sc)), some (.p (scP ot)), none, none, none, none, none, none, none, none, none, none, none, none] [C5] = some (.p (.int (1 + v6)), [C6]) := by
      have a0 : xDef f_law_draw (xConsD (xVar 0) (xConsD (xVar 1) (xConsD (xC (.int 9)) xNilD))) [some (scr ns), some (.ref 0), some (.p (.int n)), some (.p (scP sc)), some (.p (scP ot)), none, none, none, none, none, none, none, none, none, none, none, none] [C5] = some (.p (.int v6), [C6]) := d6
      rw [bin_p (p := .int 1) (S1 := [C5]) rfl a0, add_int]; rfl
    rw [e_Par, e_ConsB, a]
    simp only [Option.bind_some, box_p, e_ConsB, b, e_NilD, Option.map_some]
    rfl
  have vs : Valid sc := ⟨by omega, by omega, fun x hx => by
    have := x3 x hx
    exact ⟨by omega, this.2.2.1, by omega⟩⟩
  have vo : Valid ot := ⟨by omega, by omega, fun x hx => by
    have := x4 x hx
    exact ⟨by omega, this.2.2.1, by omega⟩⟩
  obtain ⟨S, e⟩ := tail_ok (ns := ns) (C := C6) (y := v5 - 50) (ti := 1 + v6) vs vo l3 l4 (by omega) (by omega) (by omega) (by omega) (fun x hx => by have := x3 x hx; omega)
  refine ⟨S.take 0, ?_⟩
  have k6 : b_law_k02 (startE 17 [scr ns]) [] = some (.rt (.p (.bl true)), S) := by
    unfold b_law_k02
    rw [seq_nx k1, seq_nx k2, seq_nx k3, seq_nx k4, seq_nx k5]
    exact e
  unfold f_law_k02 mkF
  rw [if_pos (by rfl)]
  show Option.bind (b_law_k02 (startE 17 [scr ns]) []) _ = _
  rw [k6]; rfl
end XL
end
open PySem PySem.W PyProof.Rows in
set_option maxRecDepth 100000 in
set_option maxHeartbeats 0 in
theorem PySem.Challenge.cw_spansure_k02_whole_ways_holds : PySem.Challenge.rw_spansure_k02_whole_ways.Holds := by
  w_on; o_law; k_head; (case hw => w_witness2)
  k_fill
  refine XL.law_walk (l := PySem.Challenge.rw_spansure_k02_whole_ways) (k := 5) (n := 63) (f := XL.f_law_k02) rfl (by decide) rfl ⟨rfl, by decide, by decide⟩ (fun w h Y => PySem.W.kIn_of Y) (fun P => ?L) ?F (fun ns hl => XL.law_is_k02 ns hl)
  case L => (first | rfl | kernel_rfl | decide +kernel)
  case F =>
    intro w mg fa h KX G hmg
    refine' K02.fin KX hmg rfl ?T ?F0 ?F1 ?F2 ?F3 ?F4 ?F5 ?F6 ?F7 ?F8 ?F9 ?F10 ?F11 ?F12 ?F13 ?F14 ?F15 ?F16 ?F17 ?F18
    case T =>
      constructor
      · refine' PySem.W.mg_none_of KX G ?_
        k_is
      · refine' PySem.W.mg_none_of KX G ?_
        k_is
      · refine' PySem.W.mg_none_of KX G ?_
        k_is
      · refine' PySem.W.mg_none_of KX G ?_
        k_is
      · refine' PySem.W.mg_none_of KX G ?_
        k_is
      · refine' PySem.W.mg_none_of KX G ?_
        k_is
      · refine' PySem.W.mg_none_of KX G ?_
        k_is
      · refine' PySem.W.mg_none_of KX G ?_
        k_is
      · refine' PySem.W.mg_none_of KX G ?_
        k_is
      · refine' PySem.W.mg_none_of KX G ?_
        k_is
      · refine' XL.str_at KX G ?a ?e
        (case a => k_is)
        (case e => rfl)
      · refine' XL.tab_at KX G ?a ?l ?kl ?lo ?te
        (case a => k_is)
        (case l => k_is)
        (case kl => exact ⟨⟨_, _, rfl, rfl⟩, ⟨⟨_, _, rfl, rfl⟩, ⟨⟨_, _, rfl, rfl⟩, ⟨⟨_, _, rfl, rfl⟩, ⟨⟨_, _, rfl, rfl⟩, ⟨⟨_, _, rfl, rfl⟩, ⟨⟨_, _, rfl, rfl⟩, trivial⟩⟩⟩⟩⟩⟩⟩)
        (case lo => rfl)
        (case te => exact ⟨_, _, _, rfl, ⟨_, _, rfl, rfl⟩, (XL.KRep.str rfl), ⟨_, _, _, rfl, ⟨_, _, rfl, rfl⟩, (XL.KRep.str rfl), ⟨_, _, _, rfl, ⟨_, _, rfl, rfl⟩, (XL.KRep.str rfl), ⟨_, _, _, rfl, ⟨_, _, rfl, rfl⟩, (XL.KRep.str rfl), ⟨_, _, _, rfl, ⟨_, _, rfl, rfl⟩, (XL.KRep.str rfl), ⟨_, _, _, rfl, ⟨_, _, rfl, rfl⟩, (XL.KRep.str rfl), ⟨_, _, _, rfl, ⟨_, _, rfl, rfl⟩, (XL.KRep.str rfl), rfl⟩⟩⟩⟩⟩⟩⟩)
    case F0 =>
      refine' XL.fun_at KX G ?a ?l ?c ?k (fun us hl => match us, hl with | [_], _ => rfl)
      (case a => k_is)
      (case l => k_is)
      (case c => k_is)
      (case k => k_is)
    case F1 =>
      refine' XL.fun_at KX G ?a ?l ?c ?k (fun us hl => match us, hl with | [_, _, _], _ => rfl)
      (case a => k_is)
      (case l => k_is)
      (case c => k_is)
      (case k => k_is)
    case F2 =>
      refine' XL.fun_at KX G ?a ?l ?c ?k (fun us hl => match us, hl with | [_, _, _, _], _ => rfl)
      (case a => k_is)
      (case l => k_is)
      (case c => k_is)
      (case k => k_is)
    case F3 =>
      refine' XL.fun_at KX G ?a ?l ?c ?k (fun us hl => match us, hl with | [_, _, _], _ => rfl)
      (case a => k_is)
      (case l => k_is)
      (case c => k_is)
      (case k => k_is)
    case F4 =>
      refine' XL.fun_at KX G ?a ?l ?c ?k (fun us hl => match us, hl with | [_, _, _], _ => rfl)
      (case a => k_is)
      (case l => k_is)
      (case c => k_is)
      (case k => k_is)
    case F5 =>
      refine' XL.fun_at KX G ?a ?l ?c ?k (fun us hl => match us, hl with | [_], _ => rfl)
      (case a => k_is)
      (case l => k_is)
      (case c => k_is)
      (case k => k_is)
    case F6 =>
      refine' XL.fun_at KX G ?a ?l ?c ?k (fun us hl => match us, hl with | [_], _ => rfl)
      (case a => k_is)
      (case l => k_is)
      (case c => k_is)
      (case k => k_is)
    case F7 =>
      refine' XL.fun_at KX G ?a ?l ?c ?k (fun us hl => match us, hl with | [_], _ => rfl)
      (case a => k_is)
      (case l => k_is)
      (case c => k_is)
      (case k => k_is)
    case F8 =>
      refine' XL.fun_at KX G ?a ?l ?c ?k (fun us hl => match us, hl with | [_], _ => rfl)
      (case a => k_is)
      (case l => k_is)
      (case c => k_is)
      (case k => k_is)
    case F9 =>
      refine' XL.fun_at KX G ?a ?l ?c ?k (fun us hl => match us, hl with | [_], _ => rfl)
      (case a => k_is)
      (case l => k_is)
      (case c => k_is)
      (case k => k_is)
    case F10 =>
      refine' XL.fun_at KX G ?a ?l ?c ?k (fun us hl => match us, hl with | [_], _ => rfl)
      (case a => k_is)
      (case l => k_is)
      (case c => k_is)
      (case k => k_is)
    case F11 =>
      refine' XL.fun_at KX G ?a ?l ?c ?k (fun us hl => match us, hl with | [_, _], _ => rfl)
      (case a => k_is)
      (case l => k_is)
      (case c => k_is)
      (case k => k_is)
    case F12 =>
      refine' XL.fun_at KX G ?a ?l ?c ?k (fun us hl => match us, hl with | [_, _, _], _ => rfl)
      (case a => k_is)
      (case l => k_is)
      (case c => k_is)
      (case k => k_is)
    case F13 =>
      refine' XL.fun_at KX G ?a ?l ?c ?k (fun us hl => match us, hl with | [_, _], _ => rfl)
      (case a => k_is)
      (case l => k_is)
      (case c => k_is)
      (case k => k_is)
    case F14 =>
      refine' XL.fun_at KX G ?a ?l ?c ?k (fun us hl => match us, hl with | [_], _ => rfl)
      (case a => k_is)
      (case l => k_is)
      (case c => k_is)
      (case k => k_is)
    case F15 =>
      refine' XL.fun_at KX G ?a ?l ?c ?k (fun us hl => match us, hl with | [_], _ => rfl)
      (case a => k_is)
      (case l => k_is)
      (case c => k_is)
      (case k => k_is)
    case F16 =>
      refine' XL.fun_at KX G ?a ?l ?c ?k (fun us hl => match us, hl with | [_], _ => rfl)
      (case a => k_is)
      (case l => k_is)
      (case c => k_is)
      (case k => k_is)
    case F17 =>
      refine' XL.fun_at KX G ?a ?l ?c ?k (fun us hl => match us, hl with | [_], _ => rfl)
      (case a => k_is)
      (case l => k_is)
      (case c => k_is)
      (case k => k_is)
    case F18 =>
      refine' XL.fun_at KX G ?a ?l ?c ?k (fun us hl => match us, hl with | [_], _ => rfl)
      (case a => k_is)
      (case l => k_is)
      (case c => k_is)
      (case k => k_is)
