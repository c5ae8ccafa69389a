import PyProof.Rows.All
import Wide.All
import OpenK.AllK
import Wide.FinOn
import HandS.ForMost
import HandS.TupAny
import HandS.TupMul
import HandS.TupLe
import HandS.IsInst
import HandS.Deep
import HandS.More
import HandS.Style
import KE.SortData
import KE.DataCmp
import HandS.Strs
import HandS.SetFor
import HandS.TupSets
import HandS.StrMore
import HandS.Conv
import HandS.WordsDict
import HandS.Small
import HandS.TupLen
import HandS.Iter
import PyProof.CollectStr
import PyProof.ListRange
import HandS.Replace
import KE.KDictPairs
import KE.KDictCopyH
import KE.GoesEnum
import KE.DataMinMax
import PyProof.WalksMore
import PySem.Challenge.RW_spansure_k50_whole_rooms
set_option Elab.async false
set_option linter.all false
set_option maxRecDepth 100000
section
set_option autoImplicit false
set_option linter.all false
namespace XL
/-- plain data: None, truths, ints, texts (their codes), tuples, lists that nobody changes -/
inductive P where
  | non
  | bl (b : Bool)
  | int (i : Int)
  | str (s : List Nat)
  | tup (ds : List P)
  | lst (ds : List P)
mutual
def P.beq : P → P → Bool
  | .non, .non => true
  | .bl a, .bl b => a == b
  | .int i, .int j => decide (i = j)
  | .str s, .str t => decide (s = t)
  | .tup xs, .tup ys => P.beqs xs ys
  | .lst xs, .lst ys => P.beqs xs ys
  | _, _ => false
def P.beqs : List P → List P → Bool
  | [], [] => true
  | x :: xs, y :: ys => P.beq x y && P.beqs xs ys
  | _, _ => false
end
mutual
theorem P.beq_eq : ∀ (a b : P), P.beq a b = true → a = b
  | .non, b, h => by cases b <;> simp_all [P.beq]
  | .bl x, b, h => by cases b <;> simp_all [P.beq]
  | .int x, b, h => by cases b <;> simp_all [P.beq]
  | .str x, b, h => by cases b <;> simp_all [P.beq]
  | .tup xs, b, h => by
    cases b <;> simp [P.beq] at h
    rename_i ys
    rw [P.beqs_eq xs ys h]
  | .lst xs, b, h => by
    cases b <;> simp [P.beq] at h
    rename_i ys
    rw [P.beqs_eq xs ys h]
theorem P.beqs_eq : ∀ (a b : List P), P.beqs a b = true → a = b
  | [], b, h => by cases b <;> simp_all [P.beqs]
  | x :: xs, b, h => by
    cases b with
    | nil => simp [P.beqs] at h
    | cons y ys =>
      simp [P.beqs] at h
      rw [P.beq_eq x y h.1, P.beqs_eq xs ys h.2]
end
mutual
theorem P.beq_refl : ∀ (a : P), P.beq a a = true
  | .non => by simp [P.beq]
  | .bl x => by simp [P.beq]
  | .int x => by simp [P.beq]
  | .str x => by simp [P.beq]
  | .tup xs => by simp [P.beq, P.beqs_refl xs]
  | .lst xs => by simp [P.beq, P.beqs_refl xs]
theorem P.beqs_refl : ∀ (a : List P), P.beqs a a = true
  | [] => by simp [P.beqs]
  | x :: xs => by simp [P.beqs, P.beq_refl x, P.beqs_refl xs]
end
instance : DecidableEq P := fun a b => if h : P.beq a b = true then .isTrue (P.beq_eq a b h) else .isFalse fun e => h (e ▸ P.beq_refl a)

/-- depth at most n, codes of texts in range -/
def P.fit : Nat → P → Bool
  | _, .non => true
  | _, .bl _ => true
  | _, .int _ => true
  | _, .str s => s.all fun c => decide (c < 1114112)
  | 0, .tup _ => false
  | n + 1, .tup ds => ds.all (P.fit n)
  | 0, .lst _ => false
  | n + 1, .lst ds => ds.all (P.fit n)

/-! Python: a == b -/
mutual
def P.pyeq : P → P → Bool
  | .non, .non => true
  | .bl a, .bl b => a == b
  | .bl a, .int j => decide ((if a then 1 else 0) = j)
  | .int i, .bl b => decide (i = (if b then 1 else 0))
  | .int i, .int j => decide (i = j)
  | .str s, .str t => decide (s = t)
  | .tup xs, .tup ys => P.pyeqs xs ys
  | .lst xs, .lst ys => P.pyeqs xs ys
  | _, _ => false
def P.pyeqs : List P → List P → Bool
  | [], [] => true
  | x :: xs, y :: ys => P.pyeq x y && P.pyeqs xs ys
  | _, _ => false
end

/-- what a variable holds -/
inductive D where
  | p (d : P)
  | ref (l : Nat)
deriving DecidableEq
/-- what stands in a cell -/
inductive Cell where
  | lst (ds : List P)
  | dct (lk t : Bool) (kvs : List (P × P))
deriving DecidableEq
/-- what an expression gives: data, a cell, a new list, a new dict -/
inductive R where
  | p (d : P)
  | ref (l : Nat)
  | frl (ds : List P)
  | frd (t : Bool) (kvs : List (P × P))
deriving DecidableEq
abbrev Env := List (Option D)
abbrev Sto := List Cell
abbrev XE := Env → Sto → Option (R × Sto)
abbrev XT := Env → Sto → Option (Bool × Sto)
abbrev XA := Env → Sto → Option (List R × Sto)
abbrev XI := Env → Sto → Option (List P × Option Nat × Sto)
abbrev XF := List D → Sto → Option (R × Sto)
inductive Fl where
  | nx (ρ : Env)
  | rt (r : R)
  | bk (ρ : Env)
  | ct (ρ : Env)
abbrev XS := Env → Sto → Option (Fl × Sto)

/-- what is read now -/
def R.rd (S : Sto) : R → Option P
  | .p d => some d
  | .ref l => match S[l]? with
    | some (.lst ds) => some (.lst ds)
    | _ => none
  | .frl ds => some (.lst ds)
  | .frd _ _ => none
/-- what may be put into a tuple or list -/
def R.fz : R → Option P
  | .p d => some d
  | .frl ds => some (.lst ds)
  | _ => none
/-- the most items of a list -/
abbrev big : Nat := 1000000

/-! ### expressions -/
def xVar (i : Nat) : XE := fun ρ S => match ρ[i]? with
  | some (some (.p d)) => some (.p d, S)
  | some (some (.ref l)) => some (.ref l, S)
  | _ => none
def xC (d : P) : XE := fun _ S => some (.p d, S)
def xBin (f : P → P → Option R) (a b : XE) : XE := fun ρ S =>
  (a ρ S).bind fun x => (b ρ x.2).bind fun y => (x.1.rd y.2).bind fun p => (y.1.rd y.2).bind fun q => (f p q).map fun r => (r, y.2)
def xUn (f : P → Option R) (a : XE) : XE := fun ρ S => (a ρ S).bind fun x => (x.1.rd x.2).bind fun p => (f p).map fun r => (r, x.2)
/-- a op b op' c, b once -/
def xChain (f g : P → P → Option R) (a b c : XE) : XE := fun ρ S =>
  (a ρ S).bind fun x => (b ρ x.2).bind fun y => (x.1.rd y.2).bind fun p => (y.1.rd y.2).bind fun q => (f p q).bind fun r => match r with
    | .p (.bl true) => (c ρ y.2).bind fun z => (y.1.rd z.2).bind fun q => (z.1.rd z.2).bind fun w => (g q w).map fun r => (r, z.2)
    | .p (.bl false) => some (.p (.bl false), y.2)
    | _ => none
def xAnd (a b : XE) : XE := fun ρ S => (a ρ S).bind fun x => match x.1 with
  | .p (.bl true) => b ρ x.2
  | .p (.bl false) => some (.p (.bl false), x.2)
  | _ => none
def xOr (a b : XE) : XE := fun ρ S => (a ρ S).bind fun x => match x.1 with
  | .p (.bl true) => some (.p (.bl true), x.2)
  | .p (.bl false) => b ρ x.2
  | _ => none
def xNot (a : XE) : XE := fun ρ S => (a ρ S).bind fun x => match x.1 with
  | .p (.bl c) => some (.p (.bl (!c)), x.2)
  | _ => none
def xIf (t : XT) (a b : XE) : XE := fun ρ S => (t ρ S).bind fun x => if x.1 then a ρ x.2 else b ρ x.2
/-- tests -/
def xB (a : XE) : XT := fun ρ S => (a ρ S).bind fun x => match x.1 with
  | .p (.bl c) => some (c, x.2)
  | _ => none
def xTand (a b : XT) : XT := fun ρ S => (a ρ S).bind fun x => if x.1 then b ρ x.2 else some (false, x.2)
def xTor (a b : XT) : XT := fun ρ S => (a ρ S).bind fun x => if x.1 then some (true, x.2) else b ρ x.2
def xTnot (a : XT) : XT := fun ρ S => (a ρ S).map fun x => (!x.1, x.2)
def xTyes : XT := fun _ S => some (true, S)
/-- arguments from the left -/
def xNil : XA := fun _ S => some ([], S)
def xCons (a : XE) (r : XA) : XA := fun ρ S => (a ρ S).bind fun x => (r ρ x.2).map fun y => (x.1 :: y.1, y.2)
def fzs : List R → Option (List P)
  | [] => some []
  | r :: rs => (r.fz).bind fun d => (fzs rs).map fun ds => d :: ds
def rds (S : Sto) : List R → Option (List P)
  | [] => some []
  | r :: rs => (r.rd S).bind fun d => (rds S rs).map fun ds => d :: ds
def xTup (a : XA) : XE := fun ρ S => (a ρ S).bind fun x => (fzs x.1).bind fun ds => if ds.length ≤ big then some (.p (.tup ds), x.2) else none
def xLst (a : XA) : XE := fun ρ S => (a ρ S).bind fun x => (fzs x.1).bind fun ds => if ds.length ≤ big then some (.frl ds, x.2) else none
/-- a built-in by values that are read -/
def xCall (f : List P → Option R) (a : XA) : XE := fun ρ S => (a ρ S).bind fun x => (rds x.2 x.1).bind fun ds => (f ds).map fun r => (r, x.2)
/-- a new thing becomes a cell -/
def R.box (S : Sto) : R → D × Sto
  | .p d => (.p d, S)
  | .ref l => (.ref l, S)
  | .frl ds => (.ref S.length, S ++ [.lst ds])
  | .frd t kvs => (.ref S.length, S ++ [.dct false t kvs])
/-- what is handed to a def: a new list as data, a new dict as a cell -/
def R.arg (S : Sto) : R → D × Sto
  | .frl ds => (.p (.lst ds), S)
  | r => r.box S
abbrev XD := Env → Sto → Option (List D × Sto)
def xNilD : XD := fun _ S => some ([], S)
def xConsB (a : XE) (r : XD) : XD := fun ρ S => (a ρ S).bind fun x => (r ρ (x.1.box x.2).2).map fun y => ((x.1.box x.2).1 :: y.1, y.2)
def xConsD (a : XE) (r : XD) : XD := fun ρ S => (a ρ S).bind fun x => (r ρ (x.1.arg x.2).2).map fun y => ((x.1.arg x.2).1 :: y.1, y.2)
def xDef (f : XF) (a : XD) : XE := fun ρ S => (a ρ S).bind fun x => f x.1 x.2

/-! ### statements -/
/-- x = r -/
def xSet (i : Nat) (a : XE) : XS := fun ρ S => (a ρ S).map fun x => (.nx (ρ.set i (some (x.1.box x.2).1)), (x.1.box x.2).2)
/-- names of a target: one, or a flat tuple -/
inductive Tg where
  | nm (i : Nat)
  | tp (is : List Nat)
def setAll : List Nat → List P → Env → Option Env
  | [], [], ρ => some ρ
  | i :: is, d :: ds, ρ => setAll is ds (ρ.set i (some (.p d)))
  | _, _, _ => none
def Tg.put (t : Tg) (d : P) (ρ : Env) : Option Env := match t with
  | .nm i => some (ρ.set i (some (.p d)))
  | .tp is => match d with
    | .tup ds => setAll is ds ρ
    | _ => none
def xUnp (is : List Nat) (a : XE) : XS := fun ρ S => (a ρ S).bind fun x => (x.1.rd x.2).bind fun d => ((Tg.tp is).put d ρ).map fun ρ' => (.nx ρ', x.2)
/-- a, b = e1, e2 -/
def setAllD : List Nat → List D → Env → Option Env
  | [], [], ρ => some ρ
  | i :: is, d :: ds, ρ => setAllD is ds (ρ.set i (some d))
  | _, _, _ => none
def xPar (is : List Nat) (a : XD) : XS := fun ρ S => (a ρ S).bind fun x => (setAllD is x.1 ρ).map fun ρ' => (.nx ρ', x.2)
def xDrop (a : XE) : XS := fun ρ S => (a ρ S).map fun x => (.nx ρ, x.2)
def xRet (a : XE) : XS := fun ρ S => (a ρ S).map fun x => (.rt x.1, x.2)
def xRetN : XS := fun _ S => some (.rt (.p .non), S)
def xPass : XS := fun ρ S => some (.nx ρ, S)
def xSeq (a b : XS) : XS := fun ρ S => (a ρ S).bind fun x => match x.1 with
  | .nx ρ' => b ρ' x.2
  | fl => some (fl, x.2)
def xIfS (t : XT) (a b : XS) : XS := fun ρ S => (t ρ S).bind fun x => if x.1 then a ρ x.2 else b ρ x.2
/-- a statement that is never reached -/
def xNever : XS := fun _ _ => none

/-! ### what is dropped behind a turn: the cells made in it that no slot holds -/
def slotRefs (n0 : Nat) : Env → List Nat
  | [] => []
  | some (.ref l) :: ρ => if n0 ≤ l ∧ l ∉ slotRefs n0 ρ then l :: slotRefs n0 ρ else slotRefs n0 ρ
  | _ :: ρ => slotRefs n0 ρ
def renRef (n0 : Nat) (ks : List Nat) (l : Nat) : Nat := if l < n0 then l else n0 + ks.idxOf l
def renSlot (n0 : Nat) (ks : List Nat) : Option D → Option D
  | some (.ref l) => some (.ref (renRef n0 ks l))
  | x => x
def keptCells (S : Sto) (ks : List Nat) : Sto := ks.map fun k => S.getD k (.lst [])
def gc (n0 : Nat) (ρ : Env) (S : Sto) : Env × Sto :=
  if S.length ≤ n0 then (ρ, S) else
  let ks := slotRefs n0 ρ
  (ρ.map (renSlot n0 ks), S.take n0 ++ keptCells S ks)

/-! ### loops -/
def cellOk (l : Option Nat) (S0 S : Sto) : Bool := match l with
  | none => true
  | some l => decide (S[l]? = S0[l]?)
def forGo (n0 : Nat) (l : Option Nat) (S0 : Sto) (t : Tg) (b : XS) : List P → Env → Sto → Option (Fl × Sto)
  | [], ρ, S => some (.nx ρ, S)
  | d :: ds, ρ, S => (t.put d ρ).bind fun ρ1 => (b ρ1 S).bind fun x => match x.1 with
    | .nx ρ2 => let y := gc n0 ρ2 x.2; if cellOk l S0 y.2 then forGo n0 l S0 t b ds y.1 y.2 else none
    | .ct ρ2 => let y := gc n0 ρ2 x.2; if cellOk l S0 y.2 then forGo n0 l S0 t b ds y.1 y.2 else none
    | .bk ρ2 => some (.nx ρ2, x.2)
    | .rt r => some (.rt r, x.2)
def xFor (it : XI) (t : Tg) (b : XS) : XS := fun ρ S => (it ρ S).bind fun x => forGo x.2.2.length x.2.1 x.2.2 t b x.1 ρ x.2.2
def whGo (n0 : Nat) (t : XT) (b : XS) : Nat → Env → Sto → Option (Fl × Sto)
  | 0, _, _ => none
  | n + 1, ρ, S => (t ρ S).bind fun x => if x.1 then (b ρ x.2).bind fun y => match y.1 with
      | .nx ρ2 => let z := gc n0 ρ2 y.2; whGo n0 t b n z.1 z.2
      | .ct ρ2 => let z := gc n0 ρ2 y.2; whGo n0 t b n z.1 z.2
      | .bk ρ2 => some (.nx ρ2, y.2)
      | .rt r => some (.rt r, y.2)
    else some (.nx ρ, x.2)
/-- while, at most n turns -/
def xWhile (n : Nat) (t : XT) (b : XS) : XS := fun ρ S => whGo S.length t b n ρ S
/-- what is walked: a list (a cell's too), a tuple; a text; a range -/
def xIt (a : XE) : XI := fun ρ S => (a ρ S).bind fun x => match x.1 with
  | .p (.lst ds) => some (ds, none, x.2)
  | .p (.tup ds) => some (ds, none, x.2)
  | .frl ds => some (ds, none, x.2)
  | .ref l => match x.2[l]? with
    | some (.lst ds) => some (ds, some l, x.2)
    | _ => none
  | _ => none
def xItS (a : XE) : XI := fun ρ S => (a ρ S).bind fun x => match x.1 with
  | .p (.str s) => some (s.map fun c => .str [c], none, x.2)
  | _ => none
def intsFrom (lo : Int) : Nat → List P
  | 0 => []
  | n + 1 => .int lo :: intsFrom (lo + 1) n
def xRng1 (a : XE) : XI := fun ρ S => (a ρ S).bind fun x => match x.1 with
  | .p (.int j) => if j ≤ 1000000 ∧ -1000000 ≤ j then some (intsFrom 0 j.toNat, none, x.2) else none
  | _ => none
def xRng2 (a b : XE) : XI := fun ρ S => (a ρ S).bind fun x => (b ρ x.2).bind fun y => match x.1, y.1 with
  | .p (.int i), .p (.int j) => if j ≤ 1000000 ∧ -1000000 ≤ i ∧ i ≤ 1000000 ∧ -1000000 ≤ j then some (intsFrom i (j - i).toNat, none, y.2) else none
  | _, _ => none
/-- the comprehension's own slots forgotten -/
def wipeE (ρ : Env) : List Nat → Env
  | [] => ρ
  | v :: vs => (wipeE ρ vs).set v none
def lcGo (l : Option Nat) (S0 : Sto) (t : Tg) (c : XT) (e : XE) (ρ : Env) : List P → List P → Sto → Option (List P × Sto)
  | [], acc, S => some (acc, S)
  | d :: ds, acc, S => (t.put d ρ).bind fun ρ1 => (c ρ1 S).bind fun x => if x.1 then
      (e ρ1 x.2).bind fun y => (y.1.fz).bind fun v => if acc.length < big ∧ cellOk l S0 y.2 then lcGo l S0 t c e ρ ds (acc ++ [v]) y.2 else none
    else if cellOk l S0 x.2 then lcGo l S0 t c e ρ ds acc x.2 else none
def xLc (it : XI) (t : Tg) (c : XT) (e : XE) (vs : List Nat) : XE := fun ρ S => (it ρ S).bind fun x =>
  (lcGo x.2.1 x.2.2 t c e (wipeE ρ vs) x.1 [] x.2.2).map fun y => (.frl y.1, y.2)
def lc2Go (l : Option Nat) (S0 : Sto) (t : Tg) (c : XT) (it1 : XI) (t1 : Tg) (c1 : XT) (e : XE) (ρ : Env) (vs1 : List Nat) : List P → List P → Sto → Option (List P × Sto)
  | [], acc, S => some (acc, S)
  | d :: ds, acc, S => (t.put d ρ).bind fun ρ1 => (c ρ1 S).bind fun x => if x.1 then
      (it1 ρ1 x.2).bind fun z => (lcGo z.2.1 z.2.2 t1 c1 e (wipeE ρ1 vs1) z.1 acc z.2.2).bind fun y => if cellOk l S0 y.2 then lc2Go l S0 t c it1 t1 c1 e ρ vs1 ds y.1 y.2 else none
    else if cellOk l S0 x.2 then lc2Go l S0 t c it1 t1 c1 e ρ vs1 ds acc x.2 else none
def xLc2 (it : XI) (t : Tg) (c : XT) (it1 : XI) (t1 : Tg) (c1 : XT) (e : XE) (vs vs1 : List Nat) : XE := fun ρ S => (it ρ S).bind fun x =>
  (lc2Go x.2.1 x.2.2 t c it1 t1 c1 e (wipeE ρ vs) vs1 x.1 [] x.2.2).map fun y => (.frl y.1, y.2)

/-! ### defs -/
def finish (base : Nat) (r : R) (S : Sto) : Option (R × Sto) := match r with
  | .p d => some (.p d, S.take base)
  | .frl ds => some (.frl ds, S.take base)
  | .frd t kvs => some (.frd t kvs, S.take base)
  | .ref l => if l < base then some (.ref l, S.take base) else match S[l]? with
    | some (.lst ds) => some (.frl ds, S.take base)
    | some (.dct false t kvs) => some (.frd t kvs, S.take base)
    | _ => none
def startE (n : Nat) (args : List D) : Env := args.map some ++ List.replicate (n - args.length) none
def mkF (k n : Nat) (b : XS) : XF := fun args S => if args.length = k then (b (startE n args) S).bind fun x => match x.1 with
  | .nx _ => finish S.length (.p .non) x.2
  | .rt r => finish S.length r x.2
  | _ => none
  else none

/-! ### methods of built-in types -/
inductive Ty where
  | str
  | lst
def isTy : Ty → P → Bool
  | .str, .str _ => true
  | .lst, .lst _ => true
  | _, _ => false
def xMeth (ty : Ty) (f : P → List P → Option R) (o : XE) (a : XA) : XE := fun ρ S => (o ρ S).bind fun x => (x.1.rd x.2).bind fun p0 => if isTy ty p0 then
  (a ρ x.2).bind fun y => (x.1.rd y.2).bind fun p => (rds y.2 y.1).bind fun ps => (f p ps).map fun r => (r, y.2) else none

/-! ### stores to cells -/
/-- o.append(e), o a cell -/
def xApp (o a : XE) : XE := fun ρ S => (o ρ S).bind fun x => match x.1 with
  | .ref l => match x.2[l]? with
    | some (.lst _) => (a ρ x.2).bind fun y => match y.2[l]? with
      | some (.lst ds) => (y.1.fz).bind fun d => if ds.length < big then some (.p .non, y.2.set l (.lst (ds ++ [d]))) else none
      | _ => none
    | _ => none
  | _ => none
/-- o.extend(e), o a cell, e a list -/
def xExt (o a : XE) : XE := fun ρ S => (o ρ S).bind fun x => match x.1 with
  | .ref l => match x.2[l]? with
    | some (.lst _) => (a ρ x.2).bind fun y => match y.2[l]? with
      | some (.lst ds) => match y.1 with
        | .frl es => if ds.length + es.length ≤ big then some (.p .non, y.2.set l (.lst (ds ++ es))) else none
        | _ => none
      | _ => none
    | _ => none
  | _ => none
/-- o.pop() -/
def xPop (o : XE) : XE := fun ρ S => (o ρ S).bind fun x => match x.1 with
  | .ref l => match x.2[l]? with
    | some (.lst ds) => match ds.getLast? with
      | some d => some (.p d, x.2.set l (.lst ds.dropLast))
      | none => none
    | _ => none
  | _ => none
/-- Python's index into n items -/
def ixP (n : Nat) (i : Int) : Option Nat := if 0 ≤ i then (if i.toNat < n then some i.toNat else none) else (if (-i).toNat ≤ n then some (n - (-i).toNat) else none)
/-- o[i] = e, o a cell with a list -/
def xPutL (e o i : XE) : XS := fun ρ S => (e ρ S).bind fun v => (o ρ v.2).bind fun x => (i ρ x.2).bind fun y => match x.1, y.1 with
  | .ref l, .p (.int j) => match y.2[l]? with
    | some (.lst ds) => (v.1.fz).bind fun d => (ixP ds.length j).map fun k => (.nx ρ, y.2.set l (.lst (ds.set k d)))
    | _ => none
  | _, _ => none
end XL
end
section
set_option Elab.async false
set_option linter.all false
set_option maxRecDepth 100000
set_option maxHeartbeats 1000000
namespace XL
open PySem L2

/-! ### how data lie in the heap -/
/-- (no written lists) -/
def KL (K : PySem.W.Frag) (a : Addr) (xs : List V) : Prop := False
def FzL (K : PySem.W.Frag) (m : List Addr) (H : Hp) (a : Addr) (xs : List V) : Prop := (Rd H a (.lst xs) ∧ a ∉ m) ∨ KL K a xs
def FzT (K : PySem.W.Frag) (m : List Addr) (H : Hp) (a : Addr) (xs : List V) : Prop := H a = some (.tup xs) ∧ a ∉ m
theorem FzL.sq {K : PySem.W.Frag} {m : List Addr} {H : Hp} {a : Addr} {xs : List V} (h : FzL K m H a xs) : SqL K H a xs := h.elim (fun z => .inl z.1) fun z => z.elim
theorem FzL.rd {K : PySem.W.Frag} {m : List Addr} {H : Hp} {a : Addr} {xs : List V} (h : FzL K m H a xs) : Rd H a (.lst xs) := h.elim (fun z => z.1) fun z => z.elim
theorem FzT.sq {K : PySem.W.Frag} {m : List Addr} {H : Hp} {a : Addr} {xs : List V} (h : FzT K m H a xs) : SqT K H a xs := .inl (.inl h.1)
mutual
def RepP (K : PySem.W.Frag) (m : List Addr) (H : Hp) : P → V → Prop
  | .non, v => v = .non
  | .bl b, v => v = .bl b
  | .int i, v => v = .int i
  | .str s, v => v = .str ⟨s.toArray⟩
  | .tup ds, v => ∃ a vs, v = .ref a ∧ FzT K m H a vs ∧ RepPs K m H ds vs
  | .lst ds, v => ∃ a vs, v = .ref a ∧ FzL K m H a vs ∧ RepPs K m H ds vs
def RepPs (K : PySem.W.Frag) (m : List Addr) (H : Hp) : List P → List V → Prop
  | [], vs => vs = []
  | d :: ds, vs => ∃ v r, vs = v :: r ∧ RepP K m H d v ∧ RepPs K m H ds r
end
/-- as it is read now: the list itself may be a cell -/
def RdT (K : PySem.W.Frag) (m : List Addr) (H : Hp) : P → V → Prop
  | .lst ds, v => ∃ a vs, v = .ref a ∧ Rd H a (.lst vs) ∧ RepPs K m H ds vs
  | d, v => RepP K m H d v
def RdTs (K : PySem.W.Frag) (m : List Addr) (H : Hp) : List P → List V → Prop
  | [], vs => vs = []
  | d :: ds, vs => ∃ v r, vs = v :: r ∧ RdT K m H d v ∧ RdTs K m H ds r
/-- keys: ints, texts; tuples of them -/
def keyP : P → Option Key
  | .int i => some (.inl i)
  | .str s => some (.inr ⟨s.toArray⟩)
  | _ => none
def tksP : List P → Option (List Key)
  | [] => some []
  | d :: ds => (keyP d).bind fun k => (tksP ds).map fun ks => k :: ks
def tkP : P → Option (List Key)
  | .tup ds => tksP ds
  | _ => none
def Cell.vals : Cell → List P
  | .lst ds => ds
  | .dct _ _ kvs => kvs.map (·.2)
/-- a dict's object by its keys and values -/
def DictU (t : Bool) (ks : List P) (ws : List V) (u : HO) : Prop := match t with
  | false => ∃ k : List Key, ks.map keyP = k.map some ∧ u = .dK (k.zip ws)
  | true => ∃ k : List (List Key), ks.map tkP = k.map some ∧ u = .dT (k.zip ws)
/-- the object of a cell with the values ws -/
def HoOf : Cell → List V → HO → Prop
  | .lst _, ws, o => o = .lst ws
  | .dct false t kvs, ws, o => DictU t (kvs.map (·.1)) ws o
  | .dct true t kvs, ws, o => ∃ ob u, o = .frz ob u ∧ DictU t (kvs.map (·.1)) ws u
def RepC (K : PySem.W.Frag) (m : List Addr) (H : Hp) (a : Addr) (c : Cell) : Prop := ∃ ws o, H a = some o ∧ HoOf c ws o ∧ RepPs K m H c.vals ws
theorem RepC.lst {K : PySem.W.Frag} {m : List Addr} {H : Hp} {a : Addr} {ds : List P} : RepC K m H a (.lst ds) ↔ ∃ vs, H a = some (.lst vs) ∧ RepPs K m H ds vs := by
  constructor
  · rintro ⟨ws, o, h1, h2, h3⟩
    cases h2
    exact ⟨ws, h1, h3⟩
  · rintro ⟨vs, h1, h2⟩
    exact ⟨vs, _, h1, rfl, h2⟩
/-- there, and no tuple -/
def GdOk (H : Hp) (a : Addr) : Prop := H a ≠ none ∧ ∀ vs, H a ≠ some (.tup vs)
/-- the cells stand at m; G: what else no data may hold (a list that is being made) -/
structure RepSt (K : PySem.W.Frag) (G m : List Addr) (S : Sto) (H : Hp) : Prop where
  len : m.length = S.length
  nd : m.Nodup
  cell : ∀ (l : Nat) (a : Addr) (c : Cell), m[l]? = some a → S[l]? = some c → RepC K (m ++ G) H a c
  gd : ∀ a ∈ G, GdOk H a ∧ a ∉ m
def RepD (K : PySem.W.Frag) (G m : List Addr) (H : Hp) : D → V → Prop
  | .p d, v => RepP K (m ++ G) H d v
  | .ref l, v => ∃ a, v = .ref a ∧ m[l]? = some a
def RepDs (K : PySem.W.Frag) (G m : List Addr) (H : Hp) : List D → List V → Prop
  | [], vs => vs = []
  | d :: ds, vs => ∃ v r, vs = v :: r ∧ RepD K G m H d v ∧ RepDs K G m H ds r
structure RepE (K : PySem.W.Frag) (G m : List Addr) (H : Hp) (ρ : Env) (σ : L2.St) : Prop where
  len : ρ.length = σ.length
  slot : ∀ (i : Nat) (d : D), ρ[i]? = some (some d) → ∃ v, σ[i]? = some (some v) ∧ RepD K G m H d v
def RepR (K : PySem.W.Frag) (G m : List Addr) (H : Hp) : R → V → Prop
  | .p d, v => RepP K (m ++ G) H d v
  | .ref l, v => ∃ a, v = .ref a ∧ m[l]? = some a
  | .frl ds, v => ∃ a vs, v = .ref a ∧ a ∉ m ++ G ∧ H a = some (.lst vs) ∧ RepPs K (m ++ G) H ds vs
  | .frd t kvs, v => ∃ a, v = .ref a ∧ a ∉ m ++ G ∧ RepC K (m ++ G) H a (.dct false t kvs)
def RepRs (K : PySem.W.Frag) (G m : List Addr) (H : Hp) : List R → List V → Prop
  | [], vs => vs = []
  | d :: ds, vs => ∃ v r, vs = v :: r ∧ RepR K G m H d v ∧ RepRs K G m H ds r
/-- what is new may become a cell; H0: the heap ahead, in which it is not -/
def Own (K : PySem.W.Frag) (H0 : Hp) (G m : List Addr) (H : Hp) (S : Sto) : R → V → Prop
  | .p _, _ => True
  | .ref _, _ => True
  | .frl ds, v => ∃ a, v = .ref a ∧ H0 a = none ∧ RepSt K G (m ++ [a]) (S ++ [.lst ds]) H
  | .frd t kvs, v => ∃ a, v = .ref a ∧ H0 a = none ∧ RepSt K G (m ++ [a]) (S ++ [.dct false t kvs]) H
structure Step (m : List Addr) (H : Hp) (m' : List Addr) (H' : Hp) : Prop where
  pre : ∃ t, m' = m ++ t ∧ ∀ a ∈ t, H a = none
  keep : ∀ a o, H a = some o → a ∉ m → H' a = some o
  dom : ∀ a, H' a = none → H a = none
  fz : ∀ a o u, H a = some (.frz o u) → H' a = some (.frz o u)
def Ext (H H' : Hp) : Prop := ∀ a o, H a = some o → H' a = some o
theorem Ext.refl (H : Hp) : Ext H H := fun _ _ h => h
theorem Ext.trans {H H1 H2 : Hp} (a : Ext H H1) (b : Ext H1 H2) : Ext H H2 := fun x o h => b x o (a x o h)
theorem Ext.new {H : Hp} {p : Addr} {o : HO} (h : H p = none) : Ext H (upd H p o) := fun a u e => by
  rw [upd_ne (ne_of_none e h)]
  exact e
theorem Ext.none {H H' : Hp} (e : Ext H H') {a : Addr} (h : H' a = none) : H a = none := by
  cases q : H a with
  | none => rfl
  | some o => rw [e a o q] at h; cases h
theorem Step.of_ext {m : List Addr} {H H' : Hp} (e : Ext H H') : Step m H m H' := ⟨⟨[], by simp, fun _ h => by cases h⟩, fun a o h _ => e a o h, fun a h => e.none h, fun a o u h => e a _ h⟩
theorem Step.refl {m : List Addr} {H : Hp} : Step m H m H := Step.of_ext (Ext.refl H)

section
variable {K : PySem.W.Frag} {G m m' m1 m2 : List Addr} {H H' H0 H1 H2 : Hp}
theorem Step.mem (s : Step m H m' H') {a : Addr} (h : H a ≠ none) (hm : a ∉ m) : a ∉ m' := by
  obtain ⟨t, rfl, ht⟩ := s.pre
  intro z
  rcases List.mem_append.mp z with z | z
  · exact hm z
  · exact h (ht a z)
theorem Step.get (s : Step m H m' H') {l : Nat} {a : Addr} (h : m[l]? = some a) : m'[l]? = some a := by
  obtain ⟨t, rfl, ht⟩ := s.pre
  have hl : l < m.length := (List.getElem?_eq_some_iff.mp h).1
  rw [List.getElem?_append_left hl]
  exact h
theorem Step.trans (s : Step m H m1 H1) (u : Step m1 H1 m2 H2) : Step m H m2 H2 := by
  obtain ⟨t, rfl, ht⟩ := s.pre
  obtain ⟨t', rfl, ht'⟩ := u.pre
  refine ⟨⟨t ++ t', by simp, fun a ha => ?_⟩, fun a o h hm => ?_, fun a h => s.dom a (u.dom a h), fun a o w h => u.fz a o w (s.fz a o w h)⟩
  · rcases List.mem_append.mp ha with z | z
    · exact ht a z
    · exact s.dom a (ht' a z)
  · refine u.keep a o (s.keep a o h hm) (s.mem (by rw [h]; simp) hm)
theorem rd_ne {a : Addr} {u : HO} (h : Rd H a u) : H a ≠ none := by
  rcases h with h | ⟨o, h⟩ <;> (rw [h]; simp)
theorem Step.memG (s : Step m H m' H') {a : Addr} (h : H a ≠ none) (hm : a ∉ m ++ G) : a ∉ m' ++ G := fun z => by
  rw [List.mem_append, not_or] at hm
  rcases List.mem_append.mp z with z | z
  · exact s.mem h hm.1 z
  · exact hm.2 z
theorem not_l {a : Addr} (h : a ∉ m ++ G) : a ∉ m := fun z => h (List.mem_append_left _ z)
theorem rd_step (s : Step m H m' H') {a : Addr} {u : HO} (h : Rd H a u) (hm : a ∉ m ++ G) : Rd H' a u ∧ a ∉ m' ++ G := by
  refine ⟨?_, s.memG (rd_ne h) hm⟩
  rcases h with h | ⟨o, h⟩
  · exact .inl (s.keep _ _ h (not_l hm))
  · exact .inr ⟨o, s.keep _ _ h (not_l hm)⟩
mutual
theorem RepP.step (s : Step m H m' H') : ∀ (d : P) (v : V), RepP K (m ++ G) H d v → RepP K (m' ++ G) H' d v
  | .non, v, h => by simpa [RepP] using h
  | .bl b, v, h => by simpa [RepP] using h
  | .int i, v, h => by simpa [RepP] using h
  | .str x, v, h => by simpa [RepP] using h
  | .tup ds, v, h => by
    simp only [RepP] at h ⊢
    obtain ⟨a, vs, e, f, r⟩ := h
    exact ⟨a, vs, e, ⟨s.keep _ _ f.1 (not_l f.2), (rd_step s (.inl f.1) f.2).2⟩, RepPs.step s ds vs r⟩
  | .lst ds, v, h => by
    simp only [RepP] at h ⊢
    obtain ⟨a, vs, e, f, r⟩ := h
    exact ⟨a, vs, e, f.elim (fun z => .inl (rd_step s z.1 z.2)) .inr, RepPs.step s ds vs r⟩
theorem RepPs.step (s : Step m H m' H') : ∀ (ds : List P) (vs : List V), RepPs K (m ++ G) H ds vs → RepPs K (m' ++ G) H' ds vs
  | [], vs, h => by simpa [RepPs] using h
  | d :: ds, vs, h => by
    simp only [RepPs] at h ⊢
    obtain ⟨v, r, e, h1, h2⟩ := h
    exact ⟨v, r, e, RepP.step s d v h1, RepPs.step s ds r h2⟩
end
theorem RepP.rdt : ∀ {d : P} {v : V}, RepP K m H d v → RdT K m H d v
  | .non, v, h => h
  | .bl b, v, h => h
  | .int i, v, h => h
  | .str x, v, h => h
  | .tup ds, v, h => h
  | .lst ds, v, h => by
    simp only [RepP] at h
    obtain ⟨a, vs, e, f, r⟩ := h
    exact ⟨a, vs, e, f.rd, r⟩
theorem RepPs.length : ∀ {ds : List P} {vs : List V}, RepPs K m H ds vs → ds.length = vs.length
  | [], vs, h => by simp only [RepPs] at h; subst h; rfl
  | d :: ds, vs, h => by
    simp only [RepPs] at h
    obtain ⟨v, r, rfl, h1, h2⟩ := h
    simp [RepPs.length h2]
theorem RepPs.get : ∀ {ds : List P} {vs : List V} {i : Nat} {d : P}, RepPs K m H ds vs → ds[i]? = some d → ∃ v, vs[i]? = some v ∧ RepP K m H d v
  | [], vs, i, d, h, e => by simp at e
  | x :: ds, vs, 0, d, h, e => by
    simp only [RepPs] at h
    obtain ⟨v, r, rfl, h1, h2⟩ := h
    simp at e; subst e
    exact ⟨v, by simp, h1⟩
  | x :: ds, vs, i + 1, d, h, e => by
    simp only [RepPs] at h
    obtain ⟨v, r, rfl, h1, h2⟩ := h
    obtain ⟨w, hw, q⟩ := RepPs.get (i := i) h2 (by simpa using e)
    exact ⟨w, by simpa using hw, q⟩
theorem RepPs.append : ∀ {ds es : List P} {vs ws : List V}, RepPs K m H ds vs → RepPs K m H es ws → RepPs K m H (ds ++ es) (vs ++ ws)
  | [], es, vs, ws, h, q => by simp only [RepPs] at h; subst h; simpa using q
  | d :: ds, es, vs, ws, h, q => by
    simp only [RepPs] at h
    obtain ⟨v, r, rfl, h1, h2⟩ := h
    simp only [List.cons_append, RepPs]
    exact ⟨v, r ++ ws, rfl, h1, RepPs.append h2 q⟩
theorem RepPs.one {d : P} {v : V} (h : RepP K m H d v) : RepPs K m H [d] [v] := by
  simp only [RepPs]; exact ⟨v, [], rfl, h, rfl⟩
theorem RepPs.nil : RepPs K m H [] [] := by simp [RepPs]
theorem RepPs.cons {d : P} {v : V} {ds : List P} {vs : List V} (h : RepP K m H d v) (q : RepPs K m H ds vs) : RepPs K m H (d :: ds) (v :: vs) := by
  simp only [RepPs]; exact ⟨v, vs, rfl, h, q⟩
theorem RepD.step (s : Step m H m' H') {d : D} {v : V} (h : RepD K G m H d v) : RepD K G m' H' d v := by
  cases d with
  | p d => exact RepP.step s d v h
  | ref l => obtain ⟨a, e, q⟩ := h; exact ⟨a, e, s.get q⟩
theorem RepE.step (s : Step m H m' H') {ρ : Env} {σ : L2.St} (h : RepE K G m H ρ σ) : RepE K G m' H' ρ σ :=
  ⟨h.len, fun i d e => let ⟨v, a, b⟩ := h.slot i d e; ⟨v, a, b.step s⟩⟩
theorem RepR.step (s : Step m H m' H') {r : R} {v : V} (h : RepR K G m H r v) : RepR K G m' H' r v := by
  cases r with
  | p d => exact RepP.step s d v h
  | ref l => obtain ⟨a, e, q⟩ := h; exact ⟨a, e, s.get q⟩
  | frl ds =>
    obtain ⟨a, vs, e, nm, ha, q⟩ := h
    exact ⟨a, vs, e, s.memG (by rw [ha]; simp) nm, s.keep _ _ ha (not_l nm), RepPs.step s ds vs q⟩
  | frd t kvs =>
    obtain ⟨a, e, nm, ws, o, ha, ho, q⟩ := h
    exact ⟨a, e, s.memG (by rw [ha]; simp) nm, ws, o, s.keep _ _ ha (not_l nm), ho, RepPs.step s _ ws q⟩
theorem RepRs.step (s : Step m H m' H') : ∀ {rs : List R} {vs : List V}, RepRs K G m H rs vs → RepRs K G m' H' rs vs
  | [], vs, h => h
  | r :: rs, vs, h => by
    obtain ⟨v, w, e, h1, h2⟩ := h
    exact ⟨v, w, e, h1.step s, RepRs.step s h2⟩
theorem Own.back {S : Sto} (hd : ∀ a, H1 a = none → H0 a = none) {r : R} {v : V} (h : Own K H1 G m H S r v) : Own K H0 G m H S r v := by
  cases r with
  | p d => exact h
  | ref l => exact h
  | frl ds => obtain ⟨a, e, n0, q⟩ := h; exact ⟨a, e, hd a n0, q⟩
  | frd t kvs => obtain ⟨a, e, n0, q⟩ := h; exact ⟨a, e, hd a n0, q⟩
/-- a cell's address is tracked -/
theorem RepSt.has {S : Sto} (h : RepSt K G m S H) {a : Addr} (ha : a ∈ m) : H a ≠ none := by
  obtain ⟨l, hl, e⟩ := List.getElem_of_mem ha
  have hl' : l < S.length := h.len ▸ hl
  have q := h.cell l a S[l] (by rw [List.getElem?_eq_getElem hl, e]) (List.getElem?_eq_getElem hl')
  obtain ⟨ws, o, e, _⟩ := q
  rw [e]; simp
theorem RepSt.fresh {S : Sto} (h : RepSt K G m S H) {a : Addr} (ha : H a = none) : a ∉ m ++ G := fun z => (List.mem_append.mp z).elim (fun z => h.has z ha) fun z => (h.gd a z).1.1 ha
theorem GdOk.ext {H H' : Hp} {a : Addr} (h : GdOk H a) (e : Ext H H') : GdOk H' a := by
  cases c : H a with
  | none => exact absurd c h.1
  | some o => exact ⟨by rw [e a o c]; simp, fun vs => by rw [e a o c]; exact fun q => h.2 vs (by rw [c]; exact q)⟩
theorem GdOk.upd {H : Hp} {a b : Addr} {o : HO} (h : GdOk H b) (ne : b ≠ a) : GdOk (L2.upd H a o) b := by
  unfold GdOk
  rw [upd_ne ne]; exact h
/-- the heap grows -/
theorem RepSt.ext {S : Sto} (h : RepSt K G m S H) (e : Ext H H') : RepSt K G m S H' := ⟨h.len, h.nd, fun l a c h1 h2 => (by
  obtain ⟨ws, o, z, k, r⟩ := h.cell l a c h1 h2
  exact ⟨ws, o, e _ _ z, k, RepPs.step (Step.of_ext e) _ ws r⟩), fun a ha => ⟨(h.gd a ha).1.ext e, (h.gd a ha).2⟩⟩
theorem RepR.rd {S : Sto} (hS : RepSt K G m S H) {r : R} {v : V} {d : P} (h : RepR K G m H r v) (e : r.rd S = some d) : RdT K (m ++ G) H d v := by
  cases r with
  | p d' => simp only [R.rd, Option.some.injEq] at e; subst e; exact RepP.rdt h
  | ref l =>
    obtain ⟨a, rfl, hm⟩ := h
    simp only [R.rd] at e
    split at e
    · rename_i ds hl
      simp only [Option.some.injEq] at e; subst e
      obtain ⟨vs, z, r⟩ := RepC.lst.mp (hS.cell l a _ hm hl)
      exact ⟨a, vs, rfl, .inl z, r⟩
    · cases e
  | frl ds =>
    obtain ⟨a, vs, rfl, nm, ha, q⟩ := h
    simp only [R.rd, Option.some.injEq] at e; subst e
    exact ⟨a, vs, rfl, .inl ha, q⟩
  | frd t kvs => simp [R.rd] at e
theorem RepR.fz {r : R} {v : V} {d : P} (h : RepR K G m H r v) (e : r.fz = some d) : RepP K (m ++ G) H d v := by
  cases r with
  | p d' => simp only [R.fz, Option.some.injEq] at e; subst e; exact h
  | ref l => simp [R.fz] at e
  | frl ds =>
    obtain ⟨a, vs, rfl, nm, ha, q⟩ := h
    simp only [R.fz, Option.some.injEq] at e; subst e
    simp only [RepP]
    exact ⟨a, vs, rfl, .inl ⟨.inl ha, nm⟩, q⟩
  | frd t kvs => simp [R.fz] at e
theorem RepRs.fzs : ∀ {rs : List R} {vs : List V} {ds : List P}, RepRs K G m H rs vs → fzs rs = some ds → RepPs K (m ++ G) H ds vs
  | [], vs, ds, h, e => by
    simp only [XL.fzs, Option.some.injEq] at e; subst e
    simp only [RepRs] at h; subst h
    exact RepPs.nil
  | r :: rs, vs, ds, h, e => by
    obtain ⟨v, w, rfl, h1, h2⟩ := h
    simp only [XL.fzs, Option.bind_eq_some_iff, Option.map_eq_some_iff] at e
    obtain ⟨d, e1, es, e2, rfl⟩ := e
    exact RepPs.cons (h1.fz e1) (RepRs.fzs h2 e2)
theorem RepRs.rds {S : Sto} (hS : RepSt K G m S H) : ∀ {rs : List R} {vs : List V} {ds : List P}, RepRs K G m H rs vs → rds S rs = some ds → RdTs K (m ++ G) H ds vs
  | [], vs, ds, h, e => by
    simp only [XL.rds, Option.some.injEq] at e; subst e
    simp only [RepRs] at h; subst h
    rfl
  | r :: rs, vs, ds, h, e => by
    obtain ⟨v, w, rfl, h1, h2⟩ := h
    simp only [XL.rds, Option.bind_eq_some_iff, Option.map_eq_some_iff] at e
    obtain ⟨d, e1, es, e2, rfl⟩ := e
    exact ⟨v, w, rfl, h1.rd hS e1, RepRs.rds hS h2 e2⟩
/-- cells taken out, some of them kept -/
theorem RepP.sub (h : ∀ a, a ∈ m → a ∈ m') : (∀ (d : P) (v : V), RepP K m' H d v → RepP K m H d v) ∧ ∀ (ds : List P) (vs : List V), RepPs K m' H ds vs → RepPs K m H ds vs := by
  have key : ∀ (n : Nat), (∀ (d : P) (v : V), sizeOf d ≤ n → RepP K m' H d v → RepP K m H d v) ∧ ∀ (ds : List P) (vs : List V), sizeOf ds ≤ n → RepPs K m' H ds vs → RepPs K m H ds vs := by
    intro n
    induction n with
    | zero =>
      refine ⟨fun d v z => ?_, fun ds vs z => ?_⟩
      · cases d <;> simp at z
      · cases ds <;> simp at z
    | succ n ih =>
      refine ⟨fun d v z q => ?_, fun ds vs z q => ?_⟩
      · cases d with
        | tup ds =>
          simp only [RepP] at q ⊢
          obtain ⟨a, vs, e, f, r⟩ := q
          exact ⟨a, vs, e, ⟨f.1, fun u => f.2 (h a u)⟩, ih.2 ds vs (by simp at z; omega) r⟩
        | lst ds =>
          simp only [RepP] at q ⊢
          obtain ⟨a, vs, e, f, r⟩ := q
          exact ⟨a, vs, e, f.elim (fun w => .inl ⟨w.1, fun u => w.2 (h a u)⟩) .inr, ih.2 ds vs (by simp at z; omega) r⟩
        | non => simpa [RepP] using q
        | bl b => simpa [RepP] using q
        | int b => simpa [RepP] using q
        | str b => simpa [RepP] using q
      · cases ds with
        | nil => simpa [RepPs] using q
        | cons d ds =>
          simp only [RepPs] at q ⊢
          obtain ⟨v, r, e, q1, q2⟩ := q
          exact ⟨v, r, e, ih.1 d v (by simp at z; omega) q1, ih.2 ds r (by simp at z; omega) q2⟩
  exact ⟨fun d v => (key (sizeOf d)).1 d v (Nat.le_refl _), fun ds vs => (key (sizeOf ds)).2 ds vs (Nat.le_refl _)⟩
/-- what was just made may become a cell -/
theorem RepSt.pushC {S : Sto} (hS : RepSt K G m S H) {p : Addr} {vs : List V} {c : Cell} {ho : HO} (hp : H p = none) (hh : HoOf c vs ho) (r : RepPs K (m ++ G) H c.vals vs) : RepSt K G (m ++ [p]) (S ++ [c]) (upd H p ho) := by
  have st : Step m H (m ++ [p]) (upd H p ho) := ⟨⟨[p], rfl, fun a ha => by simp at ha; subst ha; exact hp⟩, fun a o e _ => Ext.new hp a o e, fun a e => (Ext.new hp).none e, fun a o w e => Ext.new hp a _ e⟩
  refine ⟨by simp [hS.len], ?_, fun l a c' h1 h2 => ?_, fun a ha => ⟨(hS.gd a ha).1.ext (Ext.new hp), fun z => ?_⟩⟩
  · rw [List.nodup_append]
    refine ⟨hS.nd, by simp, fun a ha b hb => ?_⟩
    simp at hb; subst hb
    exact fun e => hS.has ha (e ▸ hp)
  · by_cases hl : l < m.length
    · rw [List.getElem?_append_left hl] at h1
      rw [List.getElem?_append_left (hS.len ▸ hl)] at h2
      obtain ⟨ws, o, z, k, w⟩ := hS.cell l a c' h1 h2
      exact ⟨ws, o, Ext.new hp _ _ z, k, RepPs.step st _ ws w⟩
    · have hl2 : l < (m ++ [p]).length := (List.getElem?_eq_some_iff.mp h1).1
      have e : l = m.length := by simp at hl2; omega
      subst e
      simp at h1
      rw [hS.len] at h2
      simp at h2
      subst h1; subst h2
      exact ⟨vs, ho, upd_same, hh, RepPs.step st _ vs r⟩
  · rcases List.mem_append.mp z with z | z
    · exact (hS.gd a ha).2 z
    · simp at z; subst z
      exact (hS.gd _ ha).1.1 hp
theorem RepSt.push {S : Sto} (hS : RepSt K G m S H) {p : Addr} {vs : List V} {ds : List P} (hp : H p = none) (r : RepPs K (m ++ G) H ds vs) : RepSt K G (m ++ [p]) (S ++ [.lst ds]) (upd H p (.lst vs)) := hS.pushC hp rfl r
theorem own_newD {S : Sto} (hS : RepSt K G m S H) {p : Addr} {vs : List V} {t : Bool} {kvs : List (P × P)} {ho : HO} (hp : H p = none) (hh : HoOf (.dct false t kvs) vs ho) (r : RepPs K (m ++ G) H (kvs.map (·.2)) vs) : Own K H G m (upd H p ho) S (.frd t kvs) (.ref p) := ⟨p, rfl, hp, hS.pushC hp hh r⟩
theorem own_new {S : Sto} (hS : RepSt K G m S H) {p : Addr} {vs : List V} {ds : List P} (hp : H p = none) (r : RepPs K (m ++ G) H ds vs) : Own K H G m (upd H p (.lst vs)) S (.frl ds) (.ref p) := ⟨p, rfl, hp, hS.push hp r⟩
/-- what is new, read as it is -/
theorem own_repC {S : Sto} {c : Cell} {a : Addr} (q : RepSt K G (m ++ [a]) (S ++ [c]) H) : RepSt K G m S H ∧ a ∉ m ++ G ∧ RepC K (m ++ G) H a c := by
  have hl := q.len
  simp only [List.length_append, List.length_singleton] at hl
  have sub : ∀ b, b ∈ m ++ G → b ∈ (m ++ [a]) ++ G := fun b hb => by
    simp only [List.mem_append] at hb ⊢
    rcases hb with hb | hb
    · exact .inl (.inl hb)
    · exact .inr hb
  have nd := q.nd
  rw [List.nodup_append] at nd
  have ha : a ∉ m := fun z => nd.2.2 a z a (by simp) rfl
  have hG : a ∉ G := fun z => (q.gd a z).2 (by simp)
  refine ⟨⟨by omega, nd.1, fun l b c' h1 h2 => ?_, fun b hb => ⟨(q.gd b hb).1, fun z => (q.gd b hb).2 (List.mem_append_left _ z)⟩⟩, by simp [ha, hG], ?_⟩
  · have l1 : l < m.length := (List.getElem?_eq_some_iff.mp h1).1
    obtain ⟨ws, o, z, k, w⟩ := q.cell l b c' (by rw [List.getElem?_append_left l1]; exact h1) (by rw [List.getElem?_append_left (by omega)]; exact h2)
    exact ⟨ws, o, z, k, (RepP.sub sub).2 _ ws w⟩
  · obtain ⟨ws, o, z, k, w⟩ := q.cell m.length a c (by simp) (by rw [show m.length = S.length by omega]; simp)
    exact ⟨ws, o, z, k, (RepP.sub sub).2 _ ws w⟩
theorem own_rep {S : Sto} {ds : List P} {v : V} (h : Own K H0 G m H S (.frl ds) v) : RepSt K G m S H ∧ RepR K G m H (.frl ds) v := by
  obtain ⟨a, rfl, h0, q⟩ := h
  obtain ⟨h1, h2, h3⟩ := own_repC q
  obtain ⟨vs, z, w⟩ := RepC.lst.mp h3
  exact ⟨h1, a, vs, rfl, h2, z, w⟩
theorem own_repD {S : Sto} {t : Bool} {kvs : List (P × P)} {v : V} (h : Own K H0 G m H S (.frd t kvs) v) : RepSt K G m S H ∧ RepR K G m H (.frd t kvs) v := by
  obtain ⟨a, rfl, h0, q⟩ := h
  obtain ⟨h1, h2, h3⟩ := own_repC q
  exact ⟨h1, a, rfl, h2, h3⟩
end

/-! ### readings from the executable text -/
def tOf (K : PySem.W.Frag) (x : XE) : TE := fun σ H Q => ∃ m G ρ S r S', RepE K G m H ρ σ ∧ RepSt K G m S H ∧ x ρ S = some (r, S') ∧
  ∀ v m' H', Step m H m' H' → RepSt K G m' S' H' → RepR K G m' H' r v → Own K H G m' H' S' r v → Q v H'
def tOfT (K : PySem.W.Frag) (x : XT) : TT := fun σ H Q => ∃ m G ρ S b S', RepE K G m H ρ σ ∧ RepSt K G m S H ∧ x ρ S = some (b, S') ∧
  ∀ m' H', Step m H m' H' → RepSt K G m' S' H' → Q b H'
def tOfA (K : PySem.W.Frag) (x : XA) : TA := fun σ H Q => ∃ m G ρ S rs S', RepE K G m H ρ σ ∧ RepSt K G m S H ∧ x ρ S = some (rs, S') ∧
  ∀ vs m' H', Step m H m' H' → RepSt K G m' S' H' → RepRs K G m' H' rs vs → Q vs H'
def FlOk (K : PySem.W.Frag) (G m : List Addr) (H : Hp) (D : Ends) (S' : Sto) : Fl → Prop
  | .nx ρ' => ∀ σ' m' H', Step m H m' H' → RepSt K G m' S' H' → RepE K G m' H' ρ' σ' → D.nx σ' H'
  | .bk ρ' => ∀ σ' m' H', Step m H m' H' → RepSt K G m' S' H' → RepE K G m' H' ρ' σ' → D.bk σ' H'
  | .ct ρ' => ∀ σ' m' H', Step m H m' H' → RepSt K G m' S' H' → RepE K G m' H' ρ' σ' → D.ct σ' H'
  | .rt r => ∀ v m' H', Step m H m' H' → RepSt K G m' S' H' → RepR K G m' H' r v → Own K H G m' H' S' r v → D.rt v H'
def tOfS (K : PySem.W.Frag) (x : XS) : TS := fun D σ H => ∃ m G ρ S fl S', RepE K G m H ρ σ ∧ RepSt K G m S H ∧ x ρ S = some (fl, S') ∧ FlOk K G m H D S' fl
/-- by values: two, one, several -/
def rOf (K : PySem.W.Frag) (f : P → P → Option R) : R2 := fun x y H Q => ∃ m G S p q r, RepSt K G m S H ∧ RdT K (m ++ G) H p x ∧ RdT K (m ++ G) H q y ∧ f p q = some r ∧ ∀ v H', Ext H H' → RepR K G m H' r v → Own K H G m H' S r v → Q v H'
def uOf (K : PySem.W.Frag) (f : P → Option R) : V → Hp → VK → Prop := fun x H Q => ∃ m G S p r, RepSt K G m S H ∧ RdT K (m ++ G) H p x ∧ f p = some r ∧ ∀ v H', Ext H H' → RepR K G m H' r v → Own K H G m H' S r v → Q v H'
def cOf (K : PySem.W.Frag) (f : List P → Option R) : List V → Hp → VK → Prop := fun xs H Q => ∃ m G S ps r, RepSt K G m S H ∧ RdTs K (m ++ G) H ps xs ∧ f ps = some r ∧ ∀ v H', Ext H H' → RepR K G m H' r v → Own K H G m H' S r v → Q v H'

theorem PE.imp {X : Cx} {e : Expr} {t t' : TE} (h : PE X e t) (w : ∀ σ H Q, t' σ H Q → t σ H Q) : PE X e t' := ⟨fun pins s σ H Q I q => h.run pins s σ H Q I (w σ H Q q)⟩
theorem PT.imp {X : Cx} {e : Expr} {t t' : TT} (h : PT X e t) (w : ∀ σ H Q, t' σ H Q → t σ H Q) : PT X e t' := ⟨fun pins s σ H Q I q => h.run pins s σ H Q I (w σ H Q q)⟩
theorem PW.imp {X : Cx} {e : Expr} {t t' : TT} (h : PW X e t) (w : ∀ σ H Q, t' σ H Q → t σ H Q) : PW X e t' := ⟨fun wh pins s σ H Q I q => h.run wh pins s σ H Q I (w σ H Q q)⟩
theorem PA.imp {X : Cx} {es : List Expr} {t t' : TA} (h : PA X es t) (w : ∀ σ H Q, t' σ H Q → t σ H Q) : PA X es t' := ⟨fun pos pins s σ H Q I q => h.run pos pins s σ H Q I (w σ H Q q)⟩
theorem PS.imp {X : Cx} {st : Stmt} {t t' : TS} (h : PS X st t) (w : ∀ D σ H, t' D σ H → t D σ H) : PS X st t' := ⟨fun pins s σ H D I q => h.run pins s σ H D I (w D σ H q)⟩
theorem PSs.imp {X : Cx} {st : List Stmt} {t t' : TS} (h : PSs X st t) (w : ∀ D σ H, t' D σ H → t D σ H) : PSs X st t' := ⟨fun pins s σ H D I q => h.run pins s σ H D I (w D σ H q)⟩

section
variable {X : Cx} {a b c e : Expr} {xa xb xc : XE} {pos : Pos}
/-! ### expressions -/
theorem xe_var {i : Nat} {x : Str} (h : PE X (.Name x pos) (tVar i)) : PE X (.Name x pos) (tOf X.K (xVar i)) := PE.imp h fun σ H Q h => by
  obtain ⟨m, G, ρ, S, r, S', hE, hS, hx, k⟩ := h
  simp only [xVar] at hx
  split at hx
  · rename_i d hd
    cases hx
    obtain ⟨v, hv, q⟩ := hE.slot i _ hd
    exact ⟨v, hv, k v m H Step.refl hS q trivial⟩
  · rename_i l hd
    cases hx
    obtain ⟨v, hv, q⟩ := hE.slot i _ hd
    exact ⟨v, hv, k v m H Step.refl hS q trivial⟩
  · cases hx
/-- a name in slot i -/
theorem xv (i : Nat) {x : Str} (hN : X.N[i]? = some x := by rfl) (hv : Vis X.env.scope x := by first | exact Or.inl rfl | exact Or.inr (Or.inl rfl) | exact Or.inr (Or.inr rfl)) (hd : (x == ("__debug__" : Str)) = false := by decide)
    (hcd : (x == ("__classdict__" : Str)) = false := by decide) : PE X (.Name x pos) (tOf X.K (xVar i)) := xe_var (pe_var hN hv hd hcd)
theorem xe_C {d : P} {v : V} (h : PE X e (tC v)) (hd : ∀ m H, RepP X.K m H d v) : PE X e (tOf X.K (xC d)) := PE.imp h fun σ H Q h => by
  obtain ⟨m, G, ρ, S, r, S', hE, hS, hx, k⟩ := h
  cases hx
  exact k v m H Step.refl hS (hd (m ++ G) H) trivial
theorem xe_int {i : Int} {j} : PE X (.Constant (.int i) j pos) (tOf X.K (xC (.int i))) := xe_C pe_int fun _ _ => by simp [RepP]
theorem xe_bl {i : Bool} {j} : PE X (.Constant (.bool i) j pos) (tOf X.K (xC (.bl i))) := xe_C pe_bl fun _ _ => by simp [RepP]
theorem xe_str {x : Str} {s : List Nat} {j} (h : x = ⟨s.toArray⟩) : PE X (.Constant (.str x) j pos) (tOf X.K (xC (.str s))) := xe_C pe_str fun _ _ => by simp [RepP, h]
/-- one after another -/
theorem tOf.bin {K : PySem.W.Frag} {σ : L2.St} {H : Hp} {Q : VK} {f : P → P → Option R} {xa xb : XE} (h : tOf K (xBin f xa xb) σ H Q) : tOp (rOf K f) (tOf K xa) (tOf K xb) σ H Q := by
  obtain ⟨m, G, ρ, S, r, S', hE, hS, hx, k⟩ := h
  simp only [xBin, Option.bind_eq_some_iff, Option.map_eq_some_iff] at hx
  obtain ⟨⟨r1, S1⟩, h1, ⟨r2, S2⟩, h2, p, hp, q, hq, r', hf, e⟩ := hx
  cases e
  refine ⟨m, G, ρ, S, r1, S1, hE, hS, h1, fun v1 m1 H1 s1 hS1 q1 _ => ⟨m1, G, ρ, S1, r2, S2, hE.step s1, hS1, h2, fun v2 m2 H2 s2 hS2 q2 _ => ?_⟩⟩
  refine ⟨m2, G, S2, p, q, _, hS2, (q1.step s2).rd hS2 hp, q2.rd hS2 hq, hf, fun v H' e q o => ?_⟩
  exact k v m2 H' ((s1.trans s2).trans (Step.of_ext e)) (hS2.ext e) q (o.back (s1.trans s2).dom)
theorem xe_bin {op : Operator} {f : P → P → Option R} (ho : OpR X (binaryOp op) (rOf X.K f)) (ha : PE X a (tOf X.K xa)) (hb : PE X b (tOf X.K xb)) : PE X (.BinOp a op b pos) (tOf X.K (xBin f xa xb)) :=
  PE.imp (pe_op ho ha hb) fun σ H Q h => tOf.bin h
theorem xe_cmp {op : CmpOp} {f : P → P → Option R} (ho : OpR X (compareOp op) (rOf X.K f)) (ha : PE X a (tOf X.K xa)) (hb : PE X b (tOf X.K xb)) (hm : behindInMarks op b = false) : PE X (.Compare a [op] [b] pos) (tOf X.K (xBin f xa xb)) :=
  PE.imp (pe_cmpR ho ha hb hm) fun σ H Q h => tOf.bin h
theorem xe_un {op : UnaryOp} {f : P → Option R} (ho : UnR X (unaryOp op) (uOf X.K f)) (ha : PE X a (tOf X.K xa)) : PE X (.UnaryOp op a pos) (tOf X.K (xUn f xa)) :=
  PE.imp (pe_un ho ha) fun σ H Q h => by
    obtain ⟨m, G, ρ, S, r, S', hE, hS, hx, k⟩ := h
    simp only [xUn, Option.bind_eq_some_iff, Option.map_eq_some_iff] at hx
    obtain ⟨⟨r1, S1⟩, h1, p, hp, r', hf, e⟩ := hx
    cases e
    refine ⟨m, G, ρ, S, r1, S1, hE, hS, h1, fun v1 m1 H1 s1 hS1 q1 _ => ⟨m1, G, S1, p, _, hS1, q1.rd hS1 hp, hf, fun v H' e q o => ?_⟩⟩
    exact k v m1 H' (s1.trans (Step.of_ext e)) (hS1.ext e) q (o.back s1.dom)
theorem tOf.chain {K : PySem.W.Frag} {σ : L2.St} {H : Hp} {Q : VK} {f g : P → P → Option R} {xa xb xc : XE} (h : tOf K (xChain f g xa xb xc) σ H Q) : tChain (rOf K f) (rOf K g) (tOf K xa) (tOf K xb) (tOf K xc) σ H Q := by
  obtain ⟨m, G, ρ, S, r, S', hE, hS, hx, k⟩ := h
  simp only [xChain, Option.bind_eq_some_iff] at hx
  obtain ⟨⟨r1, S1⟩, h1, ⟨r2, S2⟩, h2, p, hp, q, hq, r', hf, hx⟩ := hx
  refine ⟨m, G, ρ, S, r1, S1, hE, hS, h1, fun v1 m1 H1 s1 hS1 q1 _ => ⟨m1, G, ρ, S1, r2, S2, hE.step s1, hS1, h2, fun v2 m2 H2 s2 hS2 q2 _ => ?_⟩⟩
  refine ⟨m2, G, S2, p, q, r', hS2, (q1.step s2).rd hS2 hp, q2.rd hS2 hq, hf, fun v H3 e3 q3 _ => ?_⟩
  have s3 : Step m2 H2 m2 H3 := Step.of_ext e3
  split at hx
  · simp only [Option.bind_eq_some_iff, Option.map_eq_some_iff] at hx
    obtain ⟨⟨r4, S4⟩, h4, p', hp', w, hw, r'', hg, e⟩ := hx
    cases e
    simp only [RepR, RepP] at q3
    subst q3
    refine ⟨true, rfl, ?_⟩
    rw [if_pos rfl]
    refine ⟨m2, G, ρ, S2, r4, S4, (hE.step s1).step (s2.trans s3), hS2.ext e3, h4, fun v4 m4 H4 s4 hS4 q4 _ => ?_⟩
    refine ⟨m4, G, S4, p', w, _, hS4, (q2.step (s3.trans s4)).rd hS4 hp', q4.rd hS4 hw, hg, fun v5 H5 e5 q5 o5 => ?_⟩
    have s14 := ((s1.trans s2).trans s3).trans s4
    exact k v5 m4 H5 (s14.trans (Step.of_ext e5)) (hS4.ext e5) q5 (o5.back s14.dom)
  · cases hx
    simp only [RepR, RepP] at q3
    subst q3
    refine ⟨false, rfl, ?_⟩
    rw [if_neg (by simp)]
    exact k (.bl false) m2 H3 ((s1.trans s2).trans s3) (hS2.ext e3) (by simp [RepR, RepP]) trivial
  · cases hx
theorem xe_chain {op op' : CmpOp} {f g : P → P → Option R} (ho : OpR X (compareOp op) (rOf X.K f)) (ho' : OpR X (compareOp op') (rOf X.K g)) (ha : PE X a (tOf X.K xa)) (hb : PE X b (tOf X.K xb)) (hc : PE X c (tOf X.K xc)) (hm : lastMarks [op, op'] [b, c] = false := by rfl) :
    PE X (.Compare a [op, op'] [b, c] pos) (tOf X.K (xChain f g xa xb xc)) :=
  PE.imp (pe_chain ho ho' ha hb hc hm) fun σ H Q h => h.chain
theorem xe_one {op : BoolOp} (ha : PE X a (tOf X.K xa)) : PE X (.BoolOp op [a] pos) (tOf X.K xa) := pe_one ha
theorem xe_and {rest : List Expr} (ha : PE X a (tOf X.K xa)) (hb : PE X (.BoolOp .And (b :: rest) pos) (tOf X.K xb)) : PE X (.BoolOp .And (a :: b :: rest) pos) (tOf X.K (xAnd xa xb)) :=
  PE.imp (pe_and ha hb) fun σ H Q h => by
    obtain ⟨m, G, ρ, S, r, S', hE, hS, hx, k⟩ := h
    simp only [xAnd, Option.bind_eq_some_iff] at hx
    obtain ⟨⟨r1, S1⟩, h1, hx⟩ := hx
    refine ⟨m, G, ρ, S, r1, S1, hE, hS, h1, fun v1 m1 H1 s1 hS1 q1 _ => ?_⟩
    dsimp only at hx
    split at hx
    · simp only [RepR, RepP] at q1
      refine ⟨true, q1, ?_⟩
      rw [if_pos rfl]
      exact ⟨m1, G, ρ, S1, r, S', hE.step s1, hS1, hx, fun v m' H' s hS' q o => k v m' H' (s1.trans s) hS' q (o.back s1.dom)⟩
    · cases hx
      simp only [RepR, RepP] at q1
      refine ⟨false, q1, ?_⟩
      rw [if_neg (by simp)]
      exact k _ m1 H1 s1 hS1 (by simp [RepR, RepP]) trivial
    · cases hx
theorem xe_not (ha : PE X a (tOf X.K xa)) : PE X (.UnaryOp .Not a pos) (tOf X.K (xNot xa)) :=
  PE.imp (pe_not ha) fun σ H Q h => by
    obtain ⟨m, G, ρ, S, r, S', hE, hS, hx, k⟩ := h
    simp only [xNot, Option.bind_eq_some_iff] at hx
    obtain ⟨⟨r1, S1⟩, h1, hx⟩ := hx
    refine ⟨m, G, ρ, S, r1, S1, hE, hS, h1, fun v1 m1 H1 s1 hS1 q1 _ => ?_⟩
    dsimp only at hx
    split at hx
    · cases hx
      simp only [RepR, RepP] at q1
      exact ⟨_, q1, k _ m1 H1 s1 hS1 (by simp [RepR, RepP]) trivial⟩
    · cases hx
theorem xe_ifExp {xt : XT} (ht : PT X c (tOfT X.K xt)) (ha : PE X a (tOf X.K xa)) (hb : PE X b (tOf X.K xb)) : PE X (.IfExp c a b pos) (tOf X.K (xIf xt xa xb)) :=
  PE.imp (pe_ifExp ht ha hb) fun σ H Q h => by
    obtain ⟨m, G, ρ, S, r, S', hE, hS, hx, k⟩ := h
    simp only [xIf, Option.bind_eq_some_iff] at hx
    obtain ⟨⟨r1, S1⟩, h1, hx⟩ := hx
    refine ⟨m, G, ρ, S, r1, S1, hE, hS, h1, fun m1 H1 s1 hS1 => ?_⟩
    dsimp only at hx
    cases r1 with
    | true => exact ⟨m1, G, ρ, S1, r, S', hE.step s1, hS1, by simpa using hx, fun v m' H' s hS' q o => k v m' H' (s1.trans s) hS' q (o.back s1.dom)⟩
    | false => exact ⟨m1, G, ρ, S1, r, S', hE.step s1, hS1, by simpa using hx, fun v m' H' s hS' q o => k v m' H' (s1.trans s) hS' q (o.back s1.dom)⟩
/-! ### tests -/
theorem xt_B (h : PE X e (tOf X.K xa)) (he : ∀ whole, isTrue e X.env whole = (do let v ← whole; standAt e.pos; holding [v] (truthy v)) := by intro _; rfl) : PT X e (tOfT X.K (xB xa)) :=
  PT.imp (pt_val h he) fun σ H Q h => by
    obtain ⟨m, G, ρ, S, r, S', hE, hS, hx, k⟩ := h
    simp only [xB, Option.bind_eq_some_iff] at hx
    obtain ⟨⟨r1, S1⟩, h1, hx⟩ := hx
    refine ⟨m, G, ρ, S, r1, S1, hE, hS, h1, fun v1 m1 H1 s1 hS1 q1 _ => ?_⟩
    dsimp only at hx
    split at hx
    · cases hx
      simp only [RepR, RepP] at q1
      exact ⟨_, q1, k m1 H1 s1 hS1⟩
    · cases hx
theorem xt_cmp {op : CmpOp} {f : P → P → Option R} (ho : OpR X (compareOp op) (rOf X.K f)) (ha : PE X a (tOf X.K xa)) (hb : PE X b (tOf X.K xb)) (hm : behindInMarks op b = false) : PT X (.Compare a [op] [b] pos) (tOfT X.K (xB (xBin f xa xb))) :=
  PT.imp (pt_cmpR ho ha hb hm) fun σ H Q h => by
    obtain ⟨m, G, ρ, S, r, S', hE, hS, hx, k⟩ := h
    simp only [xB, Option.bind_eq_some_iff] at hx
    obtain ⟨⟨r1, S1⟩, h1, hx⟩ := hx
    have q : tOf X.K (xBin f xa xb) σ H (fun x H' => ∃ k, x = .bl k ∧ Q k H') := by
      refine ⟨m, G, ρ, S, r1, S1, hE, hS, h1, fun v1 m1 H1 s1 hS1 q1 _ => ?_⟩
      dsimp only at hx
      split at hx
      · cases hx
        simp only [RepR, RepP] at q1
        exact ⟨_, q1, k m1 H1 s1 hS1⟩
      · cases hx
    exact tOf.bin q
theorem xt_chain {op op' : CmpOp} {f g : P → P → Option R} (ho : OpR X (compareOp op) (rOf X.K f)) (ho' : OpR X (compareOp op') (rOf X.K g)) (ha : PE X a (tOf X.K xa)) (hb : PE X b (tOf X.K xb)) (hc : PE X c (tOf X.K xc)) (hm : lastMarks [op, op'] [b, c] = false := by rfl) :
    PT X (.Compare a [op, op'] [b, c] pos) (tOfT X.K (xB (xChain f g xa xb xc))) :=
  PT.imp (pt_chain ho ho' ha hb hc hm) fun σ H Q h => by
    obtain ⟨m, G, ρ, S, r, S', hE, hS, hx, k⟩ := h
    simp only [xB, Option.bind_eq_some_iff] at hx
    obtain ⟨⟨r1, S1⟩, h1, hx⟩ := hx
    have q : tOf X.K (xChain f g xa xb xc) σ H (fun x H' => ∃ k, x = .bl k ∧ Q k H') := by
      refine ⟨m, G, ρ, S, r1, S1, hE, hS, h1, fun v1 m1 H1 s1 hS1 q1 _ => ?_⟩
      dsimp only at hx
      split at hx
      · cases hx
        simp only [RepR, RepP] at q1
        exact ⟨_, q1, k m1 H1 s1 hS1⟩
      · cases hx
    exact tOf.chain q
theorem xt_and {rest : List Expr} {xs xt : XT} (ha : PT X a (tOfT X.K xs)) (hb : PW X (.BoolOp .And (b :: rest) pos) (tOfT X.K xt)) : PW X (.BoolOp .And (a :: b :: rest) pos) (tOfT X.K (xTand xs xt)) :=
  PW.imp (pw_and ha hb) fun σ H Q h => by
    obtain ⟨m, G, ρ, S, r, S', hE, hS, hx, k⟩ := h
    simp only [xTand, Option.bind_eq_some_iff] at hx
    obtain ⟨⟨r1, S1⟩, h1, hx⟩ := hx
    refine ⟨m, G, ρ, S, r1, S1, hE, hS, h1, fun m1 H1 s1 hS1 => ?_⟩
    dsimp only at hx
    cases r1 with
    | true =>
      rw [if_pos rfl] at hx ⊢
      exact ⟨m1, G, ρ, S1, r, S', hE.step s1, hS1, hx, fun m' H' s hS' => k m' H' (s1.trans s) hS'⟩
    | false =>
      rw [if_neg (by simp)] at hx ⊢
      cases hx
      exact k m1 H1 s1 hS1
theorem xt_or {rest : List Expr} {xs xt : XT} (ha : PT X a (tOfT X.K xs)) (hb : PW X (.BoolOp .Or (b :: rest) pos) (tOfT X.K xt)) : PW X (.BoolOp .Or (a :: b :: rest) pos) (tOfT X.K (xTor xs xt)) :=
  PW.imp (pw_or ha hb) fun σ H Q h => by
    obtain ⟨m, G, ρ, S, r, S', hE, hS, hx, k⟩ := h
    simp only [xTor, Option.bind_eq_some_iff] at hx
    obtain ⟨⟨r1, S1⟩, h1, hx⟩ := hx
    refine ⟨m, G, ρ, S, r1, S1, hE, hS, h1, fun m1 H1 s1 hS1 => ?_⟩
    dsimp only at hx
    cases r1 with
    | true =>
      rw [if_pos rfl] at hx ⊢
      cases hx
      exact k m1 H1 s1 hS1
    | false =>
      rw [if_neg (by simp)] at hx ⊢
      exact ⟨m1, G, ρ, S1, r, S', hE.step s1, hS1, hx, fun m' H' s hS' => k m' H' (s1.trans s) hS'⟩
theorem xt_and1 {xs : XT} (ha : PT X a (tOfT X.K xs)) : PW X (.BoolOp .And [a] pos) (tOfT X.K xs) := pw_and1 ha
theorem xt_or1 {xs : XT} (ha : PT X a (tOfT X.K xs)) : PW X (.BoolOp .Or [a] pos) (tOfT X.K xs) := pw_or1 ha
theorem xt_not {xs : XT} (ha : PT X a (tOfT X.K xs)) : PT X (.UnaryOp .Not a pos) (tOfT X.K (xTnot xs)) :=
  PT.imp (pt_not ha) fun σ H Q h => by
    obtain ⟨m, G, ρ, S, r, S', hE, hS, hx, k⟩ := h
    simp only [xTnot, Option.map_eq_some_iff] at hx
    obtain ⟨⟨r1, S1⟩, h1, hx⟩ := hx
    cases hx
    exact ⟨m, G, ρ, S, r1, S1, hE, hS, h1, fun m1 H1 s1 hS1 => k m1 H1 s1 hS1⟩
theorem xts_nil : PTs X [] (tOfT X.K xTyes) := ⟨fun pins s σ H Q I h => pts_nil.run pins s σ H Q I (by
  obtain ⟨m, G, ρ, S, r, S', hE, hS, hx, k⟩ := h
  cases hx
  exact k m H Step.refl hS)⟩
theorem xts_one {xs : XT} (ha : PT X c (tOfT X.K xs)) : PTs X [c] (tOfT X.K xs) := pts_one ha
/-! ### arguments, displays -/
variable {es : List Expr} {xs : XA}
theorem xa_nil : PA X [] (tOfA X.K xNil) := PA.imp pa_nil fun σ H Q h => by
  obtain ⟨m, G, ρ, S, r, S', hE, hS, hx, k⟩ := h
  cases hx
  exact k [] m H Step.refl hS rfl
theorem xa_cons (ha : PE X e (tOf X.K xa)) (hr : PA X es (tOfA X.K xs)) (hs : starEach (e :: es) X.env = (false, eval e X.env) :: starEach es X.env := by rfl) : PA X (e :: es) (tOfA X.K (xCons xa xs)) :=
  PA.imp (pa_cons ha hr hs) fun σ H Q h => by
    obtain ⟨m, G, ρ, S, r, S', hE, hS, hx, k⟩ := h
    simp only [xCons, Option.bind_eq_some_iff, Option.map_eq_some_iff] at hx
    obtain ⟨⟨r1, S1⟩, h1, ⟨r2, S2⟩, h2, e⟩ := hx
    cases e
    refine ⟨m, G, ρ, S, r1, S1, hE, hS, h1, fun v1 m1 H1 s1 hS1 q1 _ => ⟨m1, G, ρ, S1, r2, S2, hE.step s1, hS1, h2, fun vs m2 H2 s2 hS2 q2 => ?_⟩⟩
    exact k (v1 :: vs) m2 H2 (s1.trans s2) hS2 ⟨v1, vs, rfl, q1.step s2, q2⟩
theorem big_size {n : Nat} (h : n ≤ big) : n ≤ sizeLine := Nat.le_trans h (by decide)
theorem xe_tup {x1} (h : PA X es (tOfA X.K xs)) : PE X (.Tuple es x1 pos) (tOf X.K (xTup xs)) := PE.imp (pe_tup h) fun σ H Q h => by
  obtain ⟨m, G, ρ, S, r, S', hE, hS, hx, k⟩ := h
  simp only [xTup, Option.bind_eq_some_iff] at hx
  obtain ⟨⟨rs, S1⟩, h1, ds, hd, hx⟩ := hx
  split at hx
  · rename_i hz
    cases hx
    refine ⟨m, G, ρ, S, rs, _, hE, hS, h1, fun vs m1 H1 s1 hS1 q1 => ?_⟩
    have r1 := q1.fzs hd
    refine ⟨by rw [← r1.length]; exact big_size hz, fun p hp => ?_⟩
    have e := Ext.new (o := .tup vs) hp
    have s2 : Step m1 H1 m1 (upd H1 p (.tup vs)) := Step.of_ext e
    refine k (.ref p) m1 _ (s1.trans s2) (hS1.ext e) ?_ trivial
    simp only [RepR, RepP]
    exact ⟨p, vs, rfl, ⟨upd_same, hS1.fresh hp⟩, RepPs.step s2 ds vs r1⟩
  · cases hx
theorem xe_lst (h : PA X es (tOfA X.K xs)) : PE X (.List es pos) (tOf X.K (xLst xs)) := PE.imp (pe_lst h) fun σ H Q h => by
  obtain ⟨m, G, ρ, S, r, S', hE, hS, hx, k⟩ := h
  simp only [xLst, Option.bind_eq_some_iff] at hx
  obtain ⟨⟨rs, S1⟩, h1, ds, hd, hx⟩ := hx
  split at hx
  · rename_i hz
    cases hx
    refine ⟨m, G, ρ, S, rs, _, hE, hS, h1, fun vs m1 H1 s1 hS1 q1 => ?_⟩
    have r1 := q1.fzs hd
    refine ⟨by rw [← r1.length]; exact big_size hz, fun p hp => ?_⟩
    have e := Ext.new (o := .lst vs) hp
    have s2 : Step m1 H1 m1 (upd H1 p (.lst vs)) := Step.of_ext e
    exact k (.ref p) m1 _ (s1.trans s2) (hS1.ext e) ⟨p, vs, rfl, hS1.fresh hp, upd_same, RepPs.step s2 ds vs r1⟩ ((own_new hS1 hp r1).back s1.dom)
  · cases hx
/-- a built-in by values -/
theorem tOf.call {K : PySem.W.Frag} {σ : L2.St} {H : Hp} {Q : VK} {f : List P → Option R} {xs : XA} (h : tOf K (xCall f xs) σ H Q) : tCB (cOf K f) (tOfA K xs) σ H Q := by
  obtain ⟨m, G, ρ, S, r, S', hE, hS, hx, k⟩ := h
  simp only [xCall, Option.bind_eq_some_iff, Option.map_eq_some_iff] at hx
  obtain ⟨⟨rs, S1⟩, h1, ds, hd, r', hf, e⟩ := hx
  cases e
  refine ⟨m, G, ρ, S, rs, S1, hE, hS, h1, fun vs m1 H1 s1 hS1 q1 => ⟨m1, G, S1, ds, _, hS1, q1.rds hS1 hd, hf, fun v H' e q o => ?_⟩⟩
  exact k v m1 H' (s1.trans (Step.of_ext e)) (hS1.ext e) q (o.back s1.dom)
end
end XL
end
section
set_option Elab.async false
set_option linter.all false
set_option maxRecDepth 100000
set_option maxHeartbeats 1000000
namespace XL
open PySem L2

section
variable {K : PySem.W.Frag} {G m m' m1 m2 : List Addr} {H H' H0 H1 H2 : Hp}
theorem Step.pushed (s : Step m H m1 H1) {a : Addr} (h : H a = none) : Step m H (m1 ++ [a]) H1 := by
  obtain ⟨t, rfl, ht⟩ := s.pre
  refine ⟨⟨t ++ [a], by simp, fun b hb => ?_⟩, s.keep, s.dom, s.fz⟩
  rcases List.mem_append.mp hb with z | z
  · exact ht b z
  · simp at z; subst z; exact h
/-- the general move of data: the cells change, the guarded ones too -/
theorem RepP.move {G' : List Addr} (k : ∀ a o, H a = some o → a ∉ m ++ G → H' a = some o) (f : ∀ a, a ∈ m' ++ G' → a ∈ m ++ G ∨ H a = none) :
    (∀ (d : P) (v : V), RepP K (m ++ G) H d v → RepP K (m' ++ G') H' d v) ∧ ∀ (ds : List P) (vs : List V), RepPs K (m ++ G) H ds vs → RepPs K (m' ++ G') H' ds vs := by
  have mv : ∀ {a : Addr} {u : HO}, Rd H a u → a ∉ m ++ G → Rd H' a u ∧ a ∉ m' ++ G' := fun {a u} h hm => by
    refine ⟨?_, fun z => ?_⟩
    · rcases h with h | ⟨o, h⟩
      · exact .inl (k _ _ h hm)
      · exact .inr ⟨o, k _ _ h hm⟩
    · rcases f a z with z | z
      · exact hm z
      · exact rd_ne h z
  have key : ∀ (n : Nat), (∀ (d : P) (v : V), sizeOf d ≤ n → RepP K (m ++ G) H d v → RepP K (m' ++ G') H' d v) ∧ ∀ (ds : List P) (vs : List V), sizeOf ds ≤ n → RepPs K (m ++ G) H ds vs → RepPs K (m' ++ G') H' ds vs := by
    intro n
    induction n with
    | zero =>
      refine ⟨fun d v z => ?_, fun ds vs z => ?_⟩
      · cases d <;> simp at z
      · cases ds <;> simp at z
    | succ n ih =>
      refine ⟨fun d v z q => ?_, fun ds vs z q => ?_⟩
      · cases d with
        | tup ds =>
          simp only [RepP] at q ⊢
          obtain ⟨a, vs, e, f, r⟩ := q
          exact ⟨a, vs, e, ⟨k _ _ f.1 f.2, (mv (.inl f.1) f.2).2⟩, ih.2 ds vs (by simp at z; omega) r⟩
        | lst ds =>
          simp only [RepP] at q ⊢
          obtain ⟨a, vs, e, f, r⟩ := q
          exact ⟨a, vs, e, f.elim (fun w => .inl (mv w.1 w.2)) .inr, ih.2 ds vs (by simp at z; omega) r⟩
        | non => simpa [RepP] using q
        | bl b => simpa [RepP] using q
        | int b => simpa [RepP] using q
        | str b => simpa [RepP] using q
      · cases ds with
        | nil => simpa [RepPs] using q
        | cons d ds =>
          simp only [RepPs] at q ⊢
          obtain ⟨v, r, e, q1, q2⟩ := q
          exact ⟨v, r, e, ih.1 d v (by simp at z; omega) q1, ih.2 ds r (by simp at z; omega) q2⟩
  exact ⟨fun d v => (key (sizeOf d)).1 d v (Nat.le_refl _), fun ds vs => (key (sizeOf ds)).2 ds vs (Nat.le_refl _)⟩
theorem RepD.sub (h : ∀ a, a ∈ m → a ∈ m') (g : ∀ (l : Nat) (a : Addr), m'[l]? = some a → m[l]? = some a) {d : D} {v : V} (q : RepD K G m' H d v) : RepD K G m H d v := by
  cases d with
  | p d =>
    exact (RepP.sub (m := m ++ G) (m' := m' ++ G) fun a ha => by
      simp only [List.mem_append] at ha ⊢
      exact ha.elim (fun z => .inl (h a z)) .inr).1 d v q
  | ref l => obtain ⟨a, e, z⟩ := q; exact ⟨a, e, g l a z⟩
theorem RepDs.step (s : Step m H m' H') : ∀ {ds : List D} {vs : List V}, RepDs K G m H ds vs → RepDs K G m' H' ds vs
  | [], vs, h => h
  | d :: ds, vs, h => by
    obtain ⟨v, w, e, h1, h2⟩ := h
    exact ⟨v, w, e, h1.step s, RepDs.step s h2⟩
theorem RepDs.length : ∀ {ds : List D} {vs : List V}, RepDs K G m H ds vs → ds.length = vs.length
  | [], vs, h => by simp only [RepDs] at h; subst h; rfl
  | d :: ds, vs, h => by
    obtain ⟨v, w, rfl, h1, h2⟩ := h
    simp [RepDs.length h2]
theorem RepDs.get : ∀ {ds : List D} {vs : List V} {i : Nat} {d : D}, RepDs K G m H ds vs → ds[i]? = some d → ∃ v, vs[i]? = some v ∧ RepD K G m H d v
  | [], vs, i, d, h, e => by simp at e
  | x :: ds, vs, 0, d, h, e => by
    obtain ⟨v, r, rfl, h1, h2⟩ := h
    simp at e; subst e
    exact ⟨v, by simp, h1⟩
  | x :: ds, vs, i + 1, d, h, e => by
    obtain ⟨v, r, rfl, h1, h2⟩ := h
    obtain ⟨w, hw, q⟩ := RepDs.get (i := i) h2 (by simpa using e)
    exact ⟨w, by simpa using hw, q⟩
theorem RepE.set {ρ : Env} {σ : L2.St} {i : Nat} {d : D} {v : V} (h : RepE K G m H ρ σ) (q : RepD K G m H d v) : RepE K G m H (ρ.set i (some d)) (σ.set i (some v)) := by
  refine ⟨by simp [h.len], fun j e hj => ?_⟩
  by_cases c : i = j
  · subst c
    have hl : i < ρ.length := by
      have := (List.getElem?_eq_some_iff.mp hj).1
      simpa using this
    rw [List.getElem?_set_self hl] at hj
    simp only [Option.some.injEq] at hj
    subst hj
    exact ⟨v, List.getElem?_set_self (h.len ▸ hl), q⟩
  · rw [List.getElem?_set_ne c] at hj
    obtain ⟨w, hw, qw⟩ := h.slot j e hj
    exact ⟨w, by rw [List.getElem?_set_ne c]; exact hw, qw⟩
/-- a new thing becomes a cell -/
theorem box_ok {S : Sto} {r : R} {v : V} (s : Step m H m1 H1) (hS : RepSt K G m1 S H1) (q : RepR K G m1 H1 r v) (o : Own K H G m1 H1 S r v) :
    ∃ m2, Step m H m2 H1 ∧ RepSt K G m2 (r.box S).2 H1 ∧ RepD K G m2 H1 (r.box S).1 v := by
  cases r with
  | p d => exact ⟨m1, s, hS, q⟩
  | ref l => exact ⟨m1, s, hS, q⟩
  | frl ds =>
    obtain ⟨a, rfl, h0, q2⟩ := o
    have hl := hS.len
    exact ⟨m1 ++ [a], s.pushed h0, q2, a, rfl, by simp [← hl]⟩
  | frd t kvs =>
    obtain ⟨a, rfl, h0, q2⟩ := o
    have hl := hS.len
    exact ⟨m1 ++ [a], s.pushed h0, q2, a, rfl, by simp [← hl]⟩
theorem arg_ok {S : Sto} {r : R} {v : V} (s : Step m H m1 H1) (hS : RepSt K G m1 S H1) (q : RepR K G m1 H1 r v) (o : Own K H G m1 H1 S r v) :
    ∃ m2, Step m H m2 H1 ∧ RepSt K G m2 (r.arg S).2 H1 ∧ RepD K G m2 H1 (r.arg S).1 v := by
  cases r with
  | p d => exact ⟨m1, s, hS, q⟩
  | ref l => exact ⟨m1, s, hS, q⟩
  | frl ds => exact ⟨m1, s, hS, RepR.fz (r := .frl ds) q rfl⟩
  | frd t kvs =>
    obtain ⟨a, rfl, h0, q2⟩ := o
    have hl := hS.len
    exact ⟨m1 ++ [a], s.pushed h0, q2, a, rfl, by simp [← hl]⟩
/-- some of the cells, in another order -/
theorem RepSt.pick {S : Sto} (hS : RepSt K G m S H) (js : List Nat) (hn : js.Nodup) (hb : ∀ k ∈ js, k < m.length) :
    RepSt K G (js.map fun k => m.getD k 0) (js.map fun k => S.getD k (.lst [])) H := by
  have hm : ∀ k ∈ js, m[k]? = some (m.getD k 0) := fun k hk => by
    rw [List.getD_eq_getElem?_getD, List.getElem?_eq_getElem (hb k hk)]; rfl
  have sub : ∀ a, a ∈ js.map (fun k => m.getD k 0) → a ∈ m := fun a ha => by
    obtain ⟨k, hk, rfl⟩ := List.mem_map.mp ha
    exact List.mem_of_getElem? (hm k hk)
  have sub2 : ∀ a, a ∈ js.map (fun k => m.getD k 0) ++ G → a ∈ m ++ G := fun a ha => by
    simp only [List.mem_append] at ha ⊢
    exact ha.elim (fun z => .inl (sub a z)) .inr
  refine ⟨by simp, ?_, fun l a c h1 h2 => ?_, fun a ha => ⟨(hS.gd a ha).1, fun z => (hS.gd a ha).2 (sub a z)⟩⟩
  · unfold List.Nodup
    rw [List.pairwise_map]
    refine List.Pairwise.imp_of_mem (fun {x y} hx hy hne e => hne ?_) hn
    have e1 := hm x hx
    have e2 := hm y hy
    rw [e] at e1
    exact (List.getElem?_inj (hb x hx) hS.nd).mp (e1.trans e2.symm)
  · rw [List.getElem?_map] at h1 h2
    cases hj : js[l]? with
    | none => rw [hj] at h1; cases h1
    | some k =>
      rw [hj] at h1 h2
      simp only [Option.map_some, Option.some.injEq] at h1 h2
      have hk : k ∈ js := List.mem_of_getElem? hj
      have hk2 : k < S.length := hS.len ▸ hb k hk
      have q := hS.cell k a c (by rw [hm k hk, h1]) (by rw [List.getElem?_eq_getElem hk2, ← h2, List.getD_eq_getElem?_getD, List.getElem?_eq_getElem hk2]; rfl)
      obtain ⟨ws, o, z, kk, w⟩ := q
      exact ⟨ws, o, z, kk, (RepP.sub sub2).2 _ ws w⟩
theorem take_range {α : Type} (d : α) : ∀ (n : Nat) (l : List α), n ≤ l.length → (List.range n).map (fun k => l.getD k d) = l.take n := by
  intro n l h
  apply List.ext_getElem?
  intro i
  rw [List.getElem?_map, List.getElem?_take]
  by_cases hi : i < n
  · rw [List.getElem?_range hi, if_pos hi]
    simp only [Option.map_some, List.getD_eq_getElem?_getD]
    rw [List.getElem?_eq_getElem (by omega)]; rfl
  · rw [if_neg hi, List.getElem?_eq_none (by simp; omega)]; rfl
theorem nodup_range_app {n : Nat} {ks : List Nat} (hn : ks.Nodup) (h : ∀ k ∈ ks, n ≤ k) : (List.range n ++ ks).Nodup := by
  rw [List.nodup_append]
  refine ⟨List.nodup_range, hn, fun a ha b hb e => ?_⟩
  have h1 := List.mem_range.mp ha
  have h2 := h b hb
  omega
/-- the first n cells and some others -/
theorem RepSt.pickT {S : Sto} (hS : RepSt K G m S H) (n : Nat) (ks : List Nat) (hn : n ≤ m.length) (nd : ks.Nodup) (hk : ∀ k ∈ ks, n ≤ k ∧ k < m.length) :
    RepSt K G (m.take n ++ ks.map fun k => m.getD k 0) (S.take n ++ ks.map fun k => S.getD k (.lst [])) H := by
  have q := hS.pick (List.range n ++ ks) (nodup_range_app nd fun k h => (hk k h).1) (fun k h => by
    rcases List.mem_append.mp h with z | z
    · have := List.mem_range.mp z; omega
    · exact (hk k z).2)
  rw [List.map_append, List.map_append, take_range 0 n m hn, take_range (.lst []) n S (by rw [← hS.len]; exact hn)] at q
  exact q
theorem RepSt.takeT {S : Sto} (hS : RepSt K G m S H) (n : Nat) (hn : n ≤ m.length) : RepSt K G (m.take n) (S.take n) H := by
  have q := hS.pickT n [] hn List.nodup_nil (fun k h => by cases h)
  simpa using q
/-- behind a def -/
theorem finish_ok {S' S2 : Sto} {r r2 : R} {v : V} {n : Nat} (hn : m.length = n) (s : Step m H m' H') (hS : RepSt K G m' S' H') (q : RepR K G m' H' r v) (o : Own K H G m' H' S' r v) (e : finish n r S' = some (r2, S2)) :
    RepSt K G m S2 H' ∧ RepR K G m H' r2 v ∧ Own K H G m H' S2 r2 v := by
  obtain ⟨t, em, ht⟩ := s.pre
  have hl : n ≤ m'.length := by rw [em]; simp; omega
  have tk : m'.take n = m := by rw [em, ← hn]; simp
  have sub : ∀ a, a ∈ m ++ G → a ∈ m' ++ G := fun a ha => by
    rw [em]
    simp only [List.mem_append] at ha ⊢
    exact ha.elim (fun z => .inl (.inl z)) .inr
  have st : RepSt K G m (S'.take n) H' := by rw [← tk]; exact hS.takeT n hl
  cases r with
  | p d =>
    cases e
    exact ⟨st, (RepP.sub sub).1 d v q, trivial⟩
  | ref l =>
    obtain ⟨a, rfl, hm⟩ := q
    simp only [finish] at e
    split at e
    · rename_i hln
      cases e
      refine ⟨st, ⟨a, rfl, ?_⟩, trivial⟩
      rw [em, List.getElem?_append_left (by omega)] at hm
      exact hm
    · rename_i hln
      have hlm : l < m'.length := (List.getElem?_eq_some_iff.mp hm).1
      have e0 : m'.getD l 0 = a := by rw [List.getD_eq_getElem?_getD, hm]; rfl
      have pk := hS.pickT n [l] hl (by simp) (fun k h => by simp at h; subst h; exact ⟨by omega, hlm⟩)
      rw [tk] at pk
      simp only [List.map_cons, List.map_nil, e0] at pk
      have ha : H a = none := by
        refine ht a ?_
        rw [em, List.getElem?_append_right (by omega)] at hm
        exact List.mem_of_getElem? hm
      split at e
      · rename_i ds hd
        cases e
        have e1 : S'.getD l (.lst []) = .lst ds := by rw [List.getD_eq_getElem?_getD, hd]; rfl
        rw [e1] at pk
        have ow : Own K H G m H' (S'.take n) (.frl ds) (.ref a) := ⟨a, rfl, ha, pk⟩
        exact ⟨st, (own_rep ow).2, ow⟩
      · rename_i t kvs hd
        cases e
        have e1 : S'.getD l (.lst []) = .dct false t kvs := by rw [List.getD_eq_getElem?_getD, hd]; rfl
        rw [e1] at pk
        have ow : Own K H G m H' (S'.take n) (.frd t kvs) (.ref a) := ⟨a, rfl, ha, pk⟩
        exact ⟨st, (own_repD ow).2, ow⟩
      · cases e
  | frl ds =>
    cases e
    obtain ⟨a, rfl, h0, q2⟩ := o
    have hlen := q2.len
    simp only [List.length_append, List.length_singleton] at hlen
    have pk := q2.pickT n [m'.length] (by simp; omega) (by simp) (fun k h => by simp at h; subst h; exact ⟨hl, by simp⟩)
    rw [List.take_append_of_le_length hl, tk, List.take_append_of_le_length (by omega)] at pk
    have e1 : (m' ++ [a]).getD m'.length 0 = a := by simp [List.getD_eq_getElem?_getD]
    have e2 : (S' ++ [Cell.lst ds]).getD m'.length (.lst []) = .lst ds := by
      have : m'.length = S'.length := by omega
      rw [this]; simp [List.getD_eq_getElem?_getD]
    simp only [List.map_cons, List.map_nil, e1, e2] at pk
    have ow : Own K H G m H' (S'.take n) (.frl ds) (.ref a) := ⟨a, rfl, h0, pk⟩
    exact ⟨st, (own_rep ow).2, ow⟩
  | frd t kvs =>
    cases e
    obtain ⟨a, rfl, h0, q2⟩ := o
    have hlen := q2.len
    simp only [List.length_append, List.length_singleton] at hlen
    have pk := q2.pickT n [m'.length] (by simp; omega) (by simp) (fun k h => by simp at h; subst h; exact ⟨hl, by simp⟩)
    rw [List.take_append_of_le_length hl, tk, List.take_append_of_le_length (by omega)] at pk
    have e1 : (m' ++ [a]).getD m'.length 0 = a := by simp [List.getD_eq_getElem?_getD]
    have e2 : (S' ++ [Cell.dct false t kvs]).getD m'.length (.lst []) = .dct false t kvs := by
      have : m'.length = S'.length := by omega
      rw [this]; simp [List.getD_eq_getElem?_getD]
    simp only [List.map_cons, List.map_nil, e1, e2] at pk
    have ow : Own K H G m H' (S'.take n) (.frd t kvs) (.ref a) := ⟨a, rfl, h0, pk⟩
    exact ⟨st, (own_repD ow).2, ow⟩
/-! ### cells dropped behind a turn -/
theorem slotRefs_spec (n0 : Nat) : ∀ (ρ : Env), (slotRefs n0 ρ).Nodup ∧ ∀ l, l ∈ slotRefs n0 ρ ↔ (n0 ≤ l ∧ some (D.ref l) ∈ ρ)
  | [] => ⟨by simp [slotRefs], fun l => by simp [slotRefs]⟩
  | none :: ρ => by
    obtain ⟨h1, h2⟩ := slotRefs_spec n0 ρ
    exact ⟨by simpa [slotRefs] using h1, fun l => by simp [slotRefs, h2 l]⟩
  | some (.p d) :: ρ => by
    obtain ⟨h1, h2⟩ := slotRefs_spec n0 ρ
    exact ⟨by simpa [slotRefs] using h1, fun l => by simp [slotRefs, h2 l]⟩
  | some (.ref k) :: ρ => by
    obtain ⟨h1, h2⟩ := slotRefs_spec n0 ρ
    by_cases c : n0 ≤ k ∧ k ∉ slotRefs n0 ρ
    · refine ⟨by simp [slotRefs, c, h1], fun l => ?_⟩
      simp only [slotRefs, if_pos c, List.mem_cons, h2 l]
      constructor
      · rintro (rfl | h)
        · exact ⟨c.1, .inl rfl⟩
        · exact ⟨h.1, .inr h.2⟩
      · rintro ⟨h, e | e⟩
        · simp only [Option.some.injEq, D.ref.injEq] at e
          exact .inl e
        · exact .inr ⟨h, e⟩
    · refine ⟨by simp only [slotRefs, if_neg c]; exact h1, fun l => ?_⟩
      simp only [slotRefs, if_neg c, List.mem_cons, h2 l]
      constructor
      · exact fun h => ⟨h.1, .inr h.2⟩
      · rintro ⟨h, e | e⟩
        · simp only [Option.some.injEq, D.ref.injEq] at e
          subst e
          by_cases z : l ∈ slotRefs n0 ρ
          · exact (h2 l).mp z
          · exact absurd ⟨h, z⟩ c
        · exact ⟨h, e⟩
theorem gc_ok {ρ : Env} {S : Sto} {σ : L2.St} (s : Step m H m' H') (hS : RepSt K G m' S H') (hE : RepE K G m' H' ρ σ) :
    ∃ m2, Step m H m2 H' ∧ RepSt K G m2 (gc m.length ρ S).2 H' ∧ RepE K G m2 H' (gc m.length ρ S).1 σ := by
  unfold gc
  split
  · exact ⟨m', s, hS, hE⟩
  · obtain ⟨t, em, ht⟩ := s.pre
    have hl : m.length ≤ m'.length := by rw [em]; simp
    have tk : m'.take m.length = m := by rw [em]; simp
    obtain ⟨nd, mem⟩ := slotRefs_spec m.length ρ
    have hk : ∀ k ∈ slotRefs m.length ρ, m.length ≤ k ∧ k < m'.length := fun k h => by
      obtain ⟨h1, h2⟩ := (mem k).mp h
      obtain ⟨i, hi⟩ := List.getElem?_of_mem h2
      obtain ⟨v, _, a, _, hm⟩ := hE.slot i _ hi
      exact ⟨h1, (List.getElem?_eq_some_iff.mp hm).1⟩
    have pk := hS.pickT m.length (slotRefs m.length ρ) hl nd hk
    rw [tk] at pk
    have inm : ∀ a, a ∈ m ++ (slotRefs m.length ρ).map (fun k => m'.getD k 0) → a ∈ m' := fun a ha => by
      rcases List.mem_append.mp ha with z | z
      · rw [em]; exact List.mem_append_left _ z
      · obtain ⟨k, hk2, rfl⟩ := List.mem_map.mp z
        rw [List.getD_eq_getElem?_getD, List.getElem?_eq_getElem (hk k hk2).2]
        exact List.getElem_mem _
    refine ⟨m ++ (slotRefs m.length ρ).map (fun k => m'.getD k 0), ⟨⟨_, rfl, fun a ha => ?_⟩, s.keep, s.dom, s.fz⟩, pk, by simp [hE.len], fun i d hd => ?_⟩
    · obtain ⟨k, hk2, rfl⟩ := List.mem_map.mp ha
      refine ht _ ?_
      obtain ⟨k1, k2⟩ := hk k hk2
      rw [List.getD_eq_getElem?_getD, List.getElem?_eq_getElem k2]
      simp only [em, Option.getD_some]
      rw [List.getElem_append_right k1]
      exact List.getElem_mem _
    · rw [List.getElem?_map] at hd
      cases hr : ρ[i]? with
      | none => rw [hr] at hd; cases hd
      | some x =>
        rw [hr] at hd
        simp only [Option.map_some, Option.some.injEq] at hd
        cases x with
        | none => simp [renSlot] at hd
        | some x =>
          obtain ⟨v, hv, q⟩ := hE.slot i x hr
          refine ⟨v, hv, ?_⟩
          cases x with
          | p d' =>
            simp only [renSlot, Option.some.injEq] at hd
            subst hd
            exact (RepP.sub (fun a ha => by
              simp only [List.mem_append] at ha ⊢
              exact ha.elim (fun z => .inl (inm a (by simpa using z))) .inr)).1 d' v q
          | ref l =>
            simp only [renSlot, Option.some.injEq] at hd
            subst hd
            obtain ⟨a, rfl, hm⟩ := q
            refine ⟨a, rfl, ?_⟩
            unfold renRef
            by_cases c : l < m.length
            · rw [if_pos c, List.getElem?_append_left c]
              rw [em, List.getElem?_append_left c] at hm
              exact hm
            · rw [if_neg c]
              have hl2 : l ∈ slotRefs m.length ρ := (mem l).mpr ⟨by omega, List.mem_of_getElem? hr⟩
              rw [List.getElem?_append_right (by omega)]
              have hx : (slotRefs m.length ρ).idxOf l < (slotRefs m.length ρ).length := List.idxOf_lt_length_iff.mpr hl2
              rw [show m.length + (slotRefs m.length ρ).idxOf l - m.length = (slotRefs m.length ρ).idxOf l by omega, List.getElem?_map, List.getElem?_eq_getElem hx]
              simp only [Option.map_some, List.getElem_idxOf, List.getD_eq_getElem?_getD, hm, Option.getD_some]
end
end XL
end
section
set_option Elab.async false
set_option linter.all false
set_option maxRecDepth 100000
set_option maxHeartbeats 1000000
namespace XL
open PySem L2
theorem FlOk.mono {K : PySem.W.Frag} {G m m1 : List Addr} {H H1 : Hp} {D : Ends} {S' : Sto} {fl : Fl} (s : Step m H m1 H1) (h : FlOk K G m H D S' fl) : FlOk K G m1 H1 D S' fl := by
  cases fl with
  | nx ρ => exact fun σ' m' H' st hS hE => h σ' m' H' (s.trans st) hS hE
  | bk ρ => exact fun σ' m' H' st hS hE => h σ' m' H' (s.trans st) hS hE
  | ct ρ => exact fun σ' m' H' st hS hE => h σ' m' H' (s.trans st) hS hE
  | rt r => exact fun v m' H' st hS q o => h v m' H' (s.trans st) hS q (o.back s.dom)
section
variable {K : PySem.W.Frag} {D : Ends} {σ : L2.St} {H : Hp}
theorem set_rd {xa : XE} {i : Nat} (h : tOfS K (xSet i xa) D σ H) : tAsg (tOf K xa) (gName i) D σ H := by
  obtain ⟨m, G, ρ, S, fl, S', hE, hS, hx, k⟩ := h
  simp only [xSet, Option.map_eq_some_iff] at hx
  obtain ⟨⟨r1, S1⟩, h1, e⟩ := hx
  cases e
  refine ⟨m, G, ρ, S, r1, S1, hE, hS, h1, fun v m1 H1 s1 hS1 q1 o1 => ?_⟩
  obtain ⟨m2, s2, hS2, q2⟩ := box_ok s1 hS1 q1 o1
  exact k _ m2 H1 s2 hS2 ((hE.step s2).set q2)
theorem drop_rd {xa : XE} (h : tOfS K (xDrop xa) D σ H) : tDrop (tOf K xa) D σ H := by
  obtain ⟨m, G, ρ, S, fl, S', hE, hS, hx, k⟩ := h
  simp only [xDrop, Option.map_eq_some_iff] at hx
  obtain ⟨⟨r1, S1⟩, h1, e⟩ := hx
  cases e
  exact ⟨m, G, ρ, S, r1, S1, hE, hS, h1, fun v m1 H1 s1 hS1 q1 o1 => k _ m1 H1 s1 hS1 (hE.step s1)⟩
theorem ret_rd {xa : XE} (h : tOfS K (xRet xa) D σ H) : tRet (tOf K xa) D σ H := by
  obtain ⟨m, G, ρ, S, fl, S', hE, hS, hx, k⟩ := h
  simp only [xRet, Option.map_eq_some_iff] at hx
  obtain ⟨⟨r1, S1⟩, h1, e⟩ := hx
  cases e
  exact ⟨m, G, ρ, S, r1, S1, hE, hS, h1, fun v m1 H1 s1 hS1 q1 o1 => k v m1 H1 s1 hS1 q1 o1⟩
theorem seq_rd {a b : XS} (h : tOfS K (xSeq a b) D σ H) : tSeq (tOfS K a) (tOfS K b) D σ H := by
  obtain ⟨m, G, ρ, S, fl, S', hE, hS, hx, k⟩ := h
  simp only [xSeq, Option.bind_eq_some_iff] at hx
  obtain ⟨⟨f1, S1⟩, h1, hx⟩ := hx
  dsimp only at hx
  cases f1 with
  | nx ρ1 => exact ⟨m, G, ρ, S, .nx ρ1, S1, hE, hS, h1, fun σ' m' H' st hS' hE' => ⟨m', G, ρ1, S1, fl, S', hE', hS', hx, k.mono st⟩⟩
  | rt r => cases hx; exact ⟨m, G, ρ, S, .rt r, _, hE, hS, h1, k⟩
  | bk r => cases hx; exact ⟨m, G, ρ, S, .bk r, _, hE, hS, h1, k⟩
  | ct r => cases hx; exact ⟨m, G, ρ, S, .ct r, _, hE, hS, h1, k⟩
theorem if_rd {t : XT} {a b : XS} (h : tOfS K (xIfS t a b) D σ H) : tIfS (tOfT K t) (tOfS K a) (tOfS K b) D σ H := by
  obtain ⟨m, G, ρ, S, fl, S', hE, hS, hx, k⟩ := h
  simp only [xIfS, Option.bind_eq_some_iff] at hx
  obtain ⟨⟨b1, S1⟩, h1, hx⟩ := hx
  refine ⟨m, G, ρ, S, b1, S1, hE, hS, h1, fun m1 H1 s1 hS1 => ?_⟩
  dsimp only at hx
  cases b1 with
  | true =>
    rw [if_pos rfl] at hx ⊢
    exact ⟨m1, G, ρ, S1, fl, S', hE.step s1, hS1, hx, k.mono s1⟩
  | false =>
    rw [if_neg (by simp)] at hx ⊢
    exact ⟨m1, G, ρ, S1, fl, S', hE.step s1, hS1, hx, k.mono s1⟩
end
section
variable {X : Cx} {e c : Expr} {xa : XE} {pos pos' : Pos} {st : Stmt} {rest body els : List Stmt} {sa sb : XS}
theorem xs_set {i : Nat} {x : Str} (hN : X.N.Nodup) (hi : X.N[i]? = some x) (hx : Loc X.env.scope x) (he : PE X e (tOf X.K xa)) (hs : swapsWith e (some (.Name x pos')) pos.line X.env = pure false := by rfl) (hf : X.fn x = true ∨ X.env.scope.names.lookup x = some .local := by first | exact .inl rfl | exact .inr rfl | assumption) :
    PS X (.Assign [.Name x pos'] e pos) (tOfS X.K (xSet i xa)) := PS.imp (ps_set hN hi hx he hs hf) fun D σ H h => set_rd h
theorem xs_drop (he : PE X e (tOf X.K xa)) (hs : swapsWith e none pos.line X.env = pure false := by rfl) : PS X (.Expr e pos) (tOfS X.K (xDrop xa)) := PS.imp (ps_expr he hs) fun D σ H h => drop_rd h
theorem xs_ret (he : PE X e (tOf X.K xa)) : PS X (.Return (some e) pos) (tOfS X.K (xRet xa)) := PS.imp (ps_ret he) fun D σ H h => ret_rd h
theorem xss_never : PSs X rest (tOfS X.K xNever) := PSs.imp pss_never fun D σ H h => by
  obtain ⟨m, G, ρ, S, fl, S', hE, hS, hx, k⟩ := h
  cases hx
theorem xss_nil : PSs X [] (tOfS X.K xPass) := PSs.imp pss_nil fun D σ H h => by
  obtain ⟨m, G, ρ, S, fl, S', hE, hS, hx, k⟩ := h
  cases hx
  exact k σ m H Step.refl hS hE
theorem xss_cons (h1 : PS X st (tOfS X.K sa)) (h2 : PSs X rest (tOfS X.K sb)) : PSs X (st :: rest) (tOfS X.K (xSeq sa sb)) := PSs.imp (pss_cons h1 h2) fun D σ H h => seq_rd h
theorem xss_one (h1 : PS X st (tOfS X.K sa)) : PSs X [st] (tOfS X.K sa) := pss_one h1
theorem xs_if {t : XT} (hc : PT X c (tOfT X.K t)) (ha : PSs X body (tOfS X.K sa)) (hb : PSs X els (tOfS X.K sb)) : PS X (.If c body els pos) (tOfS X.K (xIfS t sa sb)) := PS.imp (ps_if hc ha hb) fun D σ H h => if_rd h
end

/-! ### targets -/
def Tg.slots : Tg → List Nat
  | .nm i => [i]
  | .tp is => is
def SameBut (vs : List Nat) (σ σ' : L2.St) : Prop := σ'.length = σ.length ∧ ∀ i, i ∉ vs → σ'[i]? = σ[i]?
def gOf (K : PySem.W.Frag) (t : Tg) : TG := fun v σ H Q => ∃ m G ρ d ρ', RepE K G m H ρ σ ∧ RepP K (m ++ G) H d v ∧ t.put d ρ = some ρ' ∧ ∀ σ', RepE K G m H ρ' σ' → SameBut t.slots σ σ' → Q σ' H
def gsOf (K : PySem.W.Frag) (is : List Nat) : TGs := fun vs σ H Q => ∃ m G ρ ds ρ', RepE K G m H ρ σ ∧ RepPs K (m ++ G) H ds vs ∧ setAll is ds ρ = some ρ' ∧ ∀ σ', RepE K G m H ρ' σ' → SameBut is σ σ' → Q σ' H
theorem PG.imp {X : Cx} {tg : Expr} {t t' : TG} (h : PG X tg t) (w : ∀ v σ H Q, t' v σ H Q → t v σ H Q) : PG X tg t' := ⟨fun pins s σ H v u Q I r q => h.run pins s σ H v u Q I r (w v σ H Q q)⟩
theorem PGs.imp {X : Cx} {tg : List Expr} {t t' : TGs} (h : PGs X tg t) (w : ∀ v σ H Q, t' v σ H Q → t v σ H Q) : PGs X tg t' := ⟨fun pins s σ H v u Q I r q => h.run pins s σ H v u Q I r (w v σ H Q q)⟩
theorem sameBut_set {σ : L2.St} {i : Nat} {x : Option V} {vs : List Nat} (h : i ∈ vs) : SameBut vs σ (σ.set i x) := ⟨by simp, fun j hj => List.getElem?_set_ne (fun (e : i = j) => hj (e ▸ h))⟩
theorem SameBut.trans {vs ws : List Nat} {σ σ1 σ2 : L2.St} (h : SameBut vs σ σ1) (q : SameBut ws σ1 σ2) (hv : ∀ i ∈ vs, i ∈ us) (hw : ∀ i ∈ ws, i ∈ us) : SameBut us σ σ2 :=
  ⟨q.1.trans h.1, fun i hi => (q.2 i fun z => hi (hw i z)).trans (h.2 i fun z => hi (hv i z))⟩
section
variable {X : Cx} {es : List Expr} {pos : Pos}
theorem xg_name {i : Nat} {x : Str} (hN : X.N.Nodup) (hi : X.N[i]? = some x) (hx : Loc X.env.scope x) (hf : X.fn x = true ∨ X.env.scope.names.lookup x = some .local := by first | exact .inl rfl | exact .inr rfl | assumption) : PG X (.Name x pos) (gOf X.K (.nm i)) :=
  PG.imp (pg_name hN hi hx hf) fun v σ H Q h => by
    obtain ⟨m, G, ρ, d, ρ', hE, hd, hp, k⟩ := h
    cases hp
    exact k _ (hE.set hd) (sameBut_set (by simp [Tg.slots]))
theorem xgs_nil : PGs X [] (gsOf X.K []) := PGs.imp pgs_nil fun v σ H Q h => by
  obtain ⟨m, G, ρ, d, ρ', hE, hd, hp, k⟩ := h
  cases d with
  | nil => cases hp; simp only [RepPs] at hd; exact ⟨hd, k σ hE ⟨rfl, fun _ _ => rfl⟩⟩
  | cons x xs => simp [setAll] at hp
theorem xgs_cons {e : Expr} {i : Nat} {is : List Nat} (h1 : PG X e (gName i)) (h2 : PGs X es (gsOf X.K is)) (hs : (assignEach (e :: es) X.env).map (·.2) = assign e X.env :: (assignEach es X.env).map (·.2) := by rfl) : PGs X (e :: es) (gsOf X.K (i :: is)) :=
  PGs.imp (pgs_cons h1 h2 hs) fun v σ H Q h => by
    obtain ⟨m, G, ρ, d, ρ', hE, hd, hp, k⟩ := h
    cases d with
    | nil => simp [setAll] at hp
    | cons x xs =>
      simp only [RepPs] at hd
      obtain ⟨w, r, rfl, q1, q2⟩ := hd
      simp only [setAll] at hp
      refine ⟨w, r, rfl, m, G, _, xs, ρ', hE.set (d := .p x) q1, q2, hp, fun σ' hE' sb => k σ' hE' ?_⟩
      exact (sameBut_set (vs := [i]) (by simp)).trans sb (by simp) (fun j hj => List.mem_cons_of_mem _ hj)
theorem setAll_length : ∀ {is : List Nat} {ds : List P} {ρ ρ' : Env}, setAll is ds ρ = some ρ' → ds.length = is.length
  | [], [], _, _, _ => rfl
  | [], _ :: _, _, _, h => by simp [setAll] at h
  | _ :: _, [], _, _, h => by simp [setAll] at h
  | i :: is, d :: ds, ρ, ρ', h => by simp only [setAll] at h; simp [setAll_length h]
theorem xg_tup {k : Nat} {is : List Nat} (hc : X.calm = true) (h : PGs X es (gsOf X.K is)) (hn : (assignEach es X.env).length = is.length := by rfl) (hst : (assignEach es X.env).findIdx? (·.1) = none := by rfl) : PG X (.Tuple es k pos) (gOf X.K (.tp is)) :=
  PG.imp (pg_tup hc h hn hst) fun v σ H Q h => by
    obtain ⟨m, G, ρ, d, ρ', hE, hd, hp, k⟩ := h
    cases d with
    | tup ds =>
      simp only [RepP] at hd
      obtain ⟨a, vs, rfl, f, r⟩ := hd
      simp only [Tg.put] at hp
      exact ⟨a, vs, rfl, f.sq, by rw [← r.length]; exact setAll_length hp, m, G, ρ, ds, ρ', hE, r, hp, k⟩
    | _ => simp [Tg.put] at hp
end

/-! ### several values at once -/
def tOfD (K : PySem.W.Frag) (x : XD) : TA := fun σ H Q => ∃ m G ρ S ds S', RepE K G m H ρ σ ∧ RepSt K G m S H ∧ x ρ S = some (ds, S') ∧
  ∀ vs m' H', Step m H m' H' → RepSt K G m' S' H' → RepDs K G m' H' ds vs → Q vs H'
section
variable {X : Cx} {e : Expr} {es : List Expr} {pos : Pos} {xa : XE} {xs : XD}
theorem xd_nil : PA X [] (tOfD X.K xNilD) := PA.imp pa_nil fun σ H Q h => by
  obtain ⟨m, G, ρ, S, r, S', hE, hS, hx, k⟩ := h
  cases hx
  exact k [] m H Step.refl hS rfl
theorem xd_consB (ha : PE X e (tOf X.K xa)) (hr : PA X es (tOfD X.K xs)) (hs : starEach (e :: es) X.env = (false, eval e X.env) :: starEach es X.env := by rfl) : PA X (e :: es) (tOfD X.K (xConsB xa xs)) :=
  PA.imp (pa_cons ha hr hs) fun σ H Q h => by
    obtain ⟨m, G, ρ, S, r, S', hE, hS, hx, k⟩ := h
    simp only [xConsB, Option.bind_eq_some_iff, Option.map_eq_some_iff] at hx
    obtain ⟨⟨r1, S1⟩, h1, ⟨r2, S2⟩, h2, e⟩ := hx
    cases e
    refine ⟨m, G, ρ, S, r1, S1, hE, hS, h1, fun v1 m1 H1 s1 hS1 q1 o1 => ?_⟩
    obtain ⟨mb, sb, hSb, qb⟩ := box_ok s1 hS1 q1 o1
    exact ⟨mb, G, ρ, _, r2, S2, hE.step sb, hSb, h2, fun vs m2 H2 s2 hS2 q2 => k (v1 :: vs) m2 H2 (sb.trans s2) hS2 ⟨v1, vs, rfl, qb.step s2, q2⟩⟩
theorem xd_cons (ha : PE X e (tOf X.K xa)) (hr : PA X es (tOfD X.K xs)) (hs : starEach (e :: es) X.env = (false, eval e X.env) :: starEach es X.env := by rfl) : PA X (e :: es) (tOfD X.K (xConsD xa xs)) :=
  PA.imp (pa_cons ha hr hs) fun σ H Q h => by
    obtain ⟨m, G, ρ, S, r, S', hE, hS, hx, k⟩ := h
    simp only [xConsD, Option.bind_eq_some_iff, Option.map_eq_some_iff] at hx
    obtain ⟨⟨r1, S1⟩, h1, ⟨r2, S2⟩, h2, e⟩ := hx
    cases e
    refine ⟨m, G, ρ, S, r1, S1, hE, hS, h1, fun v1 m1 H1 s1 hS1 q1 o1 => ?_⟩
    obtain ⟨mb, sb, hSb, qb⟩ := arg_ok s1 hS1 q1 o1
    exact ⟨mb, G, ρ, _, r2, S2, hE.step sb, hSb, h2, fun vs m2 H2 s2 hS2 q2 => k (v1 :: vs) m2 H2 (sb.trans s2) hS2 ⟨v1, vs, rfl, qb.step s2, q2⟩⟩
theorem setAllD_two {i j : Nat} {ds : List D} {ρ ρ' : Env} (h : setAllD [i, j] ds ρ = some ρ') : ∃ a b, ds = [a, b] ∧ ρ' = (ρ.set i (some a)).set j (some b) := by
  match ds, h with
  | [a, b], h => simp only [setAllD, Option.some.injEq] at h; exact ⟨a, b, rfl, h.symm⟩
  | [], h => simp [setAllD] at h
  | [_], h => simp [setAllD] at h
  | _ :: _ :: _ :: _, h => simp [setAllD] at h
theorem par_rd2 {K : PySem.W.Frag} {D : Ends} {σ : L2.St} {H : Hp} {i j : Nat} (h : tOfS K (xPar [i, j] xs) D σ H) : tPar i j (tOfD K xs) D σ H := by
  obtain ⟨m, G, ρ, S, fl, S', hE, hS, hx, k⟩ := h
  simp only [xPar, Option.bind_eq_some_iff, Option.map_eq_some_iff] at hx
  obtain ⟨⟨ds, S1⟩, h1, ρ', hp, e⟩ := hx
  cases e
  obtain ⟨a, b, rfl, rfl⟩ := setAllD_two hp
  refine ⟨m, G, ρ, S, [a, b], _, hE, hS, h1, fun vs m1 H1 s1 hS1 q1 => ?_⟩
  obtain ⟨v, r, rfl, qa, w, r2, rfl, qb, e⟩ := q1
  simp only [RepDs] at e
  subst e
  exact ⟨v, w, rfl, k _ m1 H1 s1 hS1 (((hE.step s1).set qa).set qb)⟩
theorem xs_par {i j : Nat} {x y : Str} {a b : Expr} {px py pt : Pos} {kt k2 pt2} (hc : X.calm = true) (hN : X.N.Nodup) (hi : X.N[i]? = some x) (hj : X.N[j]? = some y) (hij : i ≠ j)
    (hx : X.env.scope.names.lookup x = some .local) (hy : X.env.scope.names.lookup y = some .local) (ha : PA X [a, b] (tOfD X.K xs))
    (hw : swappedStores [.Tuple [.Name x px, .Name y py] kt pt] (.Tuple [a, b] k2 pt2) X.env = pure (some [x, y]))
    (hs : swapsWithSole [.Tuple [.Name x px, .Name y py] kt pt] (.Tuple [a, b] k2 pt2) pos.line X.env = pure false := by rfl) :
    PS X (.Assign [.Tuple [.Name x px, .Name y py] kt pt] (.Tuple [a, b] k2 pt2) pos) (tOfS X.K (xPar [i, j] xs)) := PS.imp (ps_par hc hN hi hj hij hx hy ha hw hs) fun D σ H h => par_rd2 h
end
/-! ### stores: the general targets of a tuple that was just made -/
def gNames : List Nat → TGs
  | [] => gNil
  | i :: is => gCons (gName i) (gNames is)
theorem setAllD_ok {K : PySem.W.Frag} {G m : List Addr} {H : Hp} : ∀ {is : List Nat} {ds : List D} {vs : List V} {ρ ρ' : Env} {σ : L2.St} {Q : L2.St → Hp → Prop}, setAllD is ds ρ = some ρ' → RepDs K G m H ds vs → RepE K G m H ρ σ → (∀ σ', RepE K G m H ρ' σ' → Q σ' H) → gNames is vs σ H Q
  | [], [], vs, ρ, ρ', σ, Q, h, q, hE, k => by
    cases h
    simp only [RepDs] at q
    exact ⟨q, k σ hE⟩
  | [], _ :: _, _, _, _, _, _, h, _, _, _ => by simp [setAllD] at h
  | _ :: _, [], _, _, _, _, _, h, _, _, _ => by simp [setAllD] at h
  | i :: is, d :: ds, vs, ρ, ρ', σ, Q, h, q, hE, k => by
    obtain ⟨v, r, rfl, q1, q2⟩ := q
    exact ⟨v, r, rfl, setAllD_ok (is := is) h q2 (hE.set q1) k⟩
theorem setAllD_length : ∀ {is : List Nat} {ds : List D} {ρ ρ' : Env}, setAllD is ds ρ = some ρ' → ds.length = is.length
  | [], [], _, _, _ => rfl
  | [], _ :: _, _, _, h => by simp [setAllD] at h
  | _ :: _, [], _, _, h => by simp [setAllD] at h
  | i :: is, d :: ds, ρ, ρ', h => by simp only [setAllD] at h; simp [setAllD_length h]
section
variable {X : Cx} {es as : List Expr} {pos tpos vpos : Pos} {xs : XD} {is : List Nat} {k k2 : Nat}
/-- a, b, .. = x, y, .. where a tuple is made and taken apart -/
theorem xs_parT (ha : PA X as (tOfD X.K xs)) (hc : X.calm = true) (hg : PGs X es (gNames is)) (hz : is.length ≤ big) (hs : swapsWithSole [.Tuple es k tpos] (.Tuple as k2 vpos) pos.line X.env = pure false := by rfl) (hw : swappedStores [.Tuple es k tpos] (.Tuple as k2 vpos) X.env = pure none := by rfl)
    (h1 : (assignEach [.Tuple es k tpos] X.env).map (·.2) = [assign (.Tuple es k tpos) X.env] := by rfl) (hn : (assignEach es X.env).length = is.length := by rfl) (hst : (assignEach es X.env).findIdx? (·.1) = none := by rfl) :
    PS X (.Assign [.Tuple es k tpos] (.Tuple as k2 vpos) pos) (tOfS X.K (xPar is xs)) :=
  PS.imp (ps_asg (pe_tup ha) (pg_tup hc hg hn hst) hs hw h1) fun D σ H h => by
    obtain ⟨m, G, ρ, S, fl, S', hE, hS, hx, k⟩ := h
    simp only [xPar, Option.bind_eq_some_iff, Option.map_eq_some_iff] at hx
    obtain ⟨⟨ds, S1⟩, h1, ρ', hp, e⟩ := hx
    cases e
    refine ⟨m, G, ρ, S, ds, _, hE, hS, h1, fun vs m1 H1 s1 hS1 q1 => ?_⟩
    have el : vs.length = is.length := by rw [← q1.length]; exact setAllD_length hp
    refine ⟨by rw [el]; exact big_size hz, fun p hp2 => ?_⟩
    have e := Ext.new (o := .tup vs) hp2
    have s2 : Step m1 H1 m1 (upd H1 p (.tup vs)) := Step.of_ext e
    exact ⟨p, vs, rfl, SqT.of upd_same, el, setAllD_ok hp (q1.step s2) ((hE.step s1).step s2) fun σ' hE' => k σ' m1 _ (s1.trans s2) (hS1.ext e) hE'⟩
end
end XL
end
section
set_option Elab.async false
set_option linter.all false
set_option maxRecDepth 100000
set_option maxHeartbeats 1000000
namespace XL
open PySem L2

/-- as Step; what is guarded may change too -/
structure StepG (G m : List Addr) (H : Hp) (m' : List Addr) (H' : Hp) : Prop where
  pre : ∃ t, m' = m ++ t ∧ ∀ a ∈ t, H a = none
  keep : ∀ a o, H a = some o → a ∉ m ++ G → H' a = some o
  dom : ∀ a, H' a = none → H a = none
  fz : ∀ a o u, H a = some (.frz o u) → H' a = some (.frz o u)
theorem Step.g {G m m' : List Addr} {H H' : Hp} (s : Step m H m' H') : StepG G m H m' H' := ⟨s.pre, fun a o h hm => s.keep a o h (not_l hm), s.dom, s.fz⟩
theorem StepG.get {G m m' : List Addr} {H H' : Hp} (s : StepG G m H m' H') {l : Nat} {a : Addr} (h : m[l]? = some a) : m'[l]? = some a := by
  obtain ⟨t, rfl, ht⟩ := s.pre
  have hl : l < m.length := (List.getElem?_eq_some_iff.mp h).1
  rw [List.getElem?_append_left hl]
  exact h
theorem StepG.trans {G m m1 m2 : List Addr} {H H1 H2 : Hp} (s : StepG G m H m1 H1) (u : Step m1 H1 m2 H2) : StepG G m H m2 H2 := by
  obtain ⟨t, rfl, ht⟩ := s.pre
  obtain ⟨t', rfl, ht'⟩ := u.pre
  refine ⟨⟨t ++ t', by simp, fun a ha => ?_⟩, fun a o h hm => ?_, fun a h => s.dom a (u.dom a h), fun a o w h => u.fz a o w (s.fz a o w h)⟩
  · rcases List.mem_append.mp ha with z | z
    · exact ht a z
    · exact s.dom a (ht' a z)
  · refine u.keep a o (s.keep a o h hm) fun z => ?_
    rcases List.mem_append.mp z with z | z
    · exact not_l hm z
    · rw [ht a z] at h; cases h
theorem StepG.updG {G m m1 : List Addr} {H H1 : Hp} {p : Addr} {o : HO} (s : StepG G m H m1 H1) (hp : p ∈ G) (h1 : H1 p ≠ none) (hz : ∀ o u, H p ≠ some (.frz o u)) : StepG G m H m1 (upd H1 p o) :=
  ⟨s.pre, fun a o' e hm => by
    rw [upd_ne (fun z : a = p => hm (List.mem_append_right _ (by rw [z]; exact hp)))]; exact s.keep a o' e hm, fun a e => by
    by_cases c : a = p
    · subst c; rw [upd_same] at e; cases e
    · rw [upd_ne c] at e; exact s.dom a e, fun a o' w e => by
    rw [upd_ne (fun z : a = p => hz _ _ (z ▸ e))]; exact s.fz a o' w e⟩
theorem rdG_step {G m m' : List Addr} {H H' : Hp} (s : StepG G m H m' H') {a : Addr} {u : HO} (h : Rd H a u) (hm : a ∉ m ++ G) : Rd H' a u := by
  rcases h with h | ⟨o, h⟩
  · exact .inl (s.keep _ _ h hm)
  · exact .inr ⟨o, s.keep _ _ h hm⟩
/-! ### what is walked -/
structure ItOk (K : PySem.W.Frag) (G m : List Addr) (H : Hp) (ds : List P) (lc : Option Nat) (S : Sto) (J : It) : Prop where
  go : ∀ (i : Nat) (d : P) (G1 m1 : List Addr) (H1 : Hp) (S1 : Sto), ds[i]? = some d → StepG G m H m1 H1 → (∀ a ∈ G1, a ∈ G ∨ H a = none) → RepSt K G1 m1 S1 H1 → cellOk lc S S1 = true → J.go i H1
  yld : ∀ (i : Nat) (d : P) (G1 m1 : List Addr) (H1 : Hp) (S1 : Sto) (x : V) (H2 : Hp), ds[i]? = some d → StepG G m H m1 H1 → (∀ a ∈ G1, a ∈ G ∨ H a = none) → RepSt K G1 m1 S1 H1 → cellOk lc S S1 = true → J.yld i H1 x H2 → Ext H1 H2 ∧ RepP K (m1 ++ G1) H2 d x
  stop : ∀ (G1 m1 : List Addr) (H1 : Hp) (S1 : Sto), StepG G m H m1 H1 → (∀ a ∈ G1, a ∈ G ∨ H a = none) → RepSt K G1 m1 S1 H1 → cellOk lc S S1 = true → J.stop ds.length H1
def iOf (K : PySem.W.Frag) (x : XI) : TI := fun σ H R => ∃ m G ρ S ds lc S', RepE K G m H ρ σ ∧ RepSt K G m S H ∧ x ρ S = some (ds, lc, S') ∧
  ∀ m' H' J, Step m H m' H' → RepSt K G m' S' H' → ItOk K G m' H' ds lc S' J → R J H'
theorem PI.imp {X : Cx} {tg it : Expr} {t t' : TI} (h : PI X tg it t) (w : ∀ σ H R, t' σ H R → t σ H R) : PI X tg it t' := ⟨fun pins s σ H R I q => h.run pins s σ H R I (w σ H R q)⟩
/-- what was forbidden stays, what is new was not there -/
theorem fb_step {G G1 m m1 : List Addr} {H H1 : Hp} (s : StepG G m H m1 H1) (hg : ∀ a ∈ G1, a ∈ G ∨ H a = none) : ∀ a, a ∈ m1 ++ G1 → a ∈ m ++ G ∨ H a = none := fun a ha => by
  obtain ⟨t, rfl, ht⟩ := s.pre
  simp only [List.mem_append] at ha ⊢
  rcases ha with (ha | ha) | ha
  · exact .inl (.inl ha)
  · exact .inr (ht a ha)
  · exact (hg a ha).elim (fun z => .inl (.inr z)) .inr
section
variable {K : PySem.W.Frag} {G m : List Addr} {H : Hp} {ds : List P} {S : Sto}
/-- a list or tuple that stands -/
theorem itok_lst {a : Addr} {vs : List V} (f : FzL K (m ++ G) H a vs) (r : RepPs K (m ++ G) H ds vs) : ItOk K G m H ds none S (Itl K a) := by
  have sq : ∀ {m1 : List Addr} {H1 : Hp}, StepG G m H m1 H1 → SqL K H1 a vs := fun {m1 H1} s => by
    rcases f with ⟨f, hm⟩ | f
    · exact .inl (rdG_step s f hm)
    · exact f.elim
  refine ⟨fun i d G1 m1 H1 S1 hd s hg hS _ => ?_, fun i d G1 m1 H1 S1 x H2 hd s hg hS _ hy => ?_, fun G1 m1 H1 S1 s hg hS _ => ?_⟩
  · obtain ⟨v, hv, _⟩ := r.get hd
    exact ⟨vs, v, sq s, hv⟩
  · obtain ⟨e, hy⟩ := hy
    subst e
    have hx := hy vs (sq s)
    obtain ⟨v, hv, q⟩ := r.get hd
    rw [hv] at hx
    cases hx
    exact ⟨Ext.refl _, (RepP.move s.keep (fb_step s hg)).1 d _ q⟩
  · exact ⟨vs, sq s, by rw [r.length]; exact Nat.le_refl _⟩
theorem itok_tup' {a : Addr} {vs : List V} (f : FzT K (m ++ G) H a vs) (r : RepPs K (m ++ G) H ds vs) : ItOk K G m H ds none S (Itt K a) := by
  have sq : ∀ {m1 : List Addr} {H1 : Hp}, StepG G m H m1 H1 → SqT K H1 a vs := fun {m1 H1} s => by
    exact .inl (rdG_step s (.inl f.1) f.2)
  refine ⟨fun i d G1 m1 H1 S1 hd s hg hS _ => ?_, fun i d G1 m1 H1 S1 x H2 hd s hg hS _ hy => ?_, fun G1 m1 H1 S1 s hg hS _ => ?_⟩
  · obtain ⟨v, hv, _⟩ := r.get hd
    exact ⟨vs, v, sq s, hv⟩
  · obtain ⟨e, hy⟩ := hy
    subst e
    have hx := hy vs (sq s)
    obtain ⟨v, hv, q⟩ := r.get hd
    rw [hv] at hx
    cases hx
    exact ⟨Ext.refl _, (RepP.move s.keep (fb_step s hg)).1 d _ q⟩
  · exact ⟨vs, sq s, by rw [r.length]; exact Nat.le_refl _⟩
/-- a cell -/
theorem itok_cell {a : Addr} {l : Nat} (hm : m[l]? = some a) (hc : S[l]? = some (.lst ds)) : ItOk K G m H ds (some l) S (Itl K a) := by
  have sq : ∀ {G1 m1 : List Addr} {H1 : Hp} {S1 : Sto}, StepG G m H m1 H1 → RepSt K G1 m1 S1 H1 → cellOk (some l) S S1 = true → ∃ vs, SqL K H1 a vs ∧ RepPs K (m1 ++ G1) H1 ds vs := fun {G1 m1 H1 S1} s hS hk => by
    simp only [cellOk, decide_eq_true_eq] at hk
    obtain ⟨vs, e, r⟩ := RepC.lst.mp (hS.cell l a (.lst ds) (s.get hm) (hk.trans hc))
    exact ⟨vs, SqL.of e, r⟩
  refine ⟨fun i d G1 m1 H1 S1 hd s hg hS hk => ?_, fun i d G1 m1 H1 S1 x H2 hd s hg hS hk hy => ?_, fun G1 m1 H1 S1 s hg hS hk => ?_⟩
  · obtain ⟨vs, q, r⟩ := sq s hS hk
    obtain ⟨v, hv, _⟩ := r.get hd
    exact ⟨vs, v, q, hv⟩
  · obtain ⟨vs, q, r⟩ := sq s hS hk
    obtain ⟨e, hy⟩ := hy
    subst e
    have hx := hy vs q
    obtain ⟨v, hv, w⟩ := r.get hd
    rw [hv] at hx
    cases hx
    exact ⟨Ext.refl _, w⟩
  · obtain ⟨vs, q, r⟩ := sq s hS hk
    exact ⟨vs, q, by rw [r.length]; exact Nat.le_refl _⟩
theorem intsFrom_get : ∀ (n : Nat) (lo : Int) (i : Nat) (d : P), (intsFrom lo n)[i]? = some d → i < n ∧ d = .int (lo + i)
  | 0, lo, i, d, h => by simp [intsFrom] at h
  | n + 1, lo, 0, d, h => by simp [intsFrom] at h; exact ⟨by omega, by rw [← h]; simp⟩
  | n + 1, lo, i + 1, d, h => by
    simp only [intsFrom, List.getElem?_cons_succ] at h
    obtain ⟨h1, h2⟩ := intsFrom_get n (lo + 1) i d h
    refine ⟨by omega, by rw [h2]; congr 1; push_cast; omega⟩
theorem intsFrom_length : ∀ (n : Nat) (lo : Int), (intsFrom lo n).length = n
  | 0, lo => rfl
  | n + 1, lo => by simp [intsFrom, intsFrom_length n]
theorem itok_rng {lo : Int} {n : Nat} : ItOk K G m H (intsFrom lo n) none S (Itr lo n) :=
  ⟨fun i d G1 m1 H1 S1 hd s hg hS _ => (intsFrom_get n lo i d hd).1, fun i d G1 m1 H1 S1 x H2 hd s hg hS _ hy => by
    obtain ⟨e, hy⟩ := hy
    subst e
    rw [(intsFrom_get n lo i d hd).2]
    exact ⟨Ext.refl _, by simp only [RepP]; exact hy⟩, fun G1 m1 H1 S1 s hg hS _ => by rw [intsFrom_length]; exact Nat.le_refl n⟩
theorem itok_str {s : List Nat} : ItOk K G m H (s.map fun c => P.str [c]) none S (Its ⟨s.toArray⟩) := by
  refine ⟨fun i d G1 m1 H1 S1 hd st hg hS _ => ?_, fun i d G1 m1 H1 S1 x H2 hd st hg hS _ hy => ?_, fun G1 m1 H1 S1 st hg hS _ => ?_⟩
  · have := (List.getElem?_eq_some_iff.mp hd).1
    show i < s.toArray.size
    simpa using this
  · obtain ⟨e, c, hc, hx⟩ := hy
    subst e
    rw [List.getElem?_map] at hd
    simp only [List.getElem?_toArray] at hc
    rw [hc] at hd
    simp only [Option.map_some, Option.some.injEq] at hd
    subst hd
    exact ⟨Ext.refl _, by simp only [RepP]; exact hx⟩
  · show s.toArray.size ≤ _
    simp
end
section
variable {X : Cx} {tg e a b : Expr} {xa xb : XE}
def iLT (K : PySem.W.Frag) (tl : TE) : TI := fun σ H R => tl σ H fun x H1 => (∃ a, x = .ref a ∧ (∃ xs, SqL K H1 a xs) ∧ R (Itl K a) H1) ∨ ∃ a, x = .ref a ∧ (∃ xs, SqT K H1 a xs) ∧ R (Itt K a) H1
theorem pi_lt {l : Expr} {tl : TE} (hl : PE X l tl) : PI X tg l (iLT X.K tl) := by
  refine ⟨fun pins s σ H R I h => ?_⟩
  refine thn (hl.run pins s σ H _ I h) fun v s1 ⟨x, H1, I1, r1, q1⟩ => ?_
  rcases q1 with ⟨a, e, ⟨xs, hq⟩, q⟩ | ⟨a, e, ⟨xs, hq⟩, q⟩
  · subst e
    cases r1
    obtain ⟨its, rv, p, hz⟩ := I1.list hq
    refine wpAny_pyIter_list p.isList ?_
    refine ⟨s1.heap.objs.size, [s1.heap.objs.size], _, _, H1, rfl, I1.kept (t' := s1.toks) fun b o e => Heap.get?_push_of_some _ e, turn_list a _, ⟨_, Heap.get?_push_size _ rfl, rfl, rfl⟩, fun b hb => ?_, q⟩
    have e : b = s1.heap.objs.size := by simpa using hb
    subst e
    exact I1.fpOk (Nat.le_refl _) (I1.hok.fresh (Nat.le_refl _))
  · subst e
    cases r1
    obtain ⟨its, rv, p, hz⟩ := I1.tuple hq
    refine wpAny_pyIter_tuple (show s1.heap.IsTuple a its.toArray from p) ?_
    refine ⟨s1.heap.objs.size, [s1.heap.objs.size], _, _, H1, rfl, I1.kept (t' := s1.toks) fun b o e => Heap.get?_push_of_some _ e, turn_tuple a _, ⟨_, Heap.get?_push_size _ rfl, rfl, rfl⟩, fun b hb => ?_, q⟩
    have e : b = s1.heap.objs.size := by simpa using hb
    subst e
    exact I1.fpOk (Nat.le_refl _) (I1.hok.fresh (Nat.le_refl _))
/-- a list, a tuple -/
theorem xi_seq (he : PE X e (tOf X.K xa)) : PI X tg e (iOf X.K (xIt xa)) := PI.imp (pi_lt he) fun σ H R h => by
  obtain ⟨m, G, ρ, S, ds, lc, S', hE, hS, hx, k⟩ := h
  simp only [xIt, Option.bind_eq_some_iff] at hx
  obtain ⟨⟨r1, S1⟩, h1, hx⟩ := hx
  refine ⟨m, G, ρ, S, r1, S1, hE, hS, h1, fun v m1 H1 s1 hS1 q1 o1 => ?_⟩
  dsimp only at hx
  split at hx
  · cases hx
    simp only [RepR, RepP] at q1
    obtain ⟨a, vs, rfl, f, r⟩ := q1
    exact .inl ⟨a, rfl, ⟨vs, f.sq⟩, k m1 H1 _ s1 hS1 (itok_lst f r)⟩
  · cases hx
    simp only [RepR, RepP] at q1
    obtain ⟨a, vs, rfl, f, r⟩ := q1
    exact .inr ⟨a, rfl, ⟨vs, f.sq⟩, k m1 H1 _ s1 hS1 (itok_tup' f r)⟩
  · cases hx
    obtain ⟨a, vs, rfl, nm, z, r⟩ := q1
    exact .inl ⟨a, rfl, ⟨vs, SqL.of z⟩, k m1 H1 _ s1 hS1 (itok_lst (.inl ⟨.inl z, nm⟩) r)⟩
  · rename_i l
    split at hx
    · rename_i es hl
      cases hx
      obtain ⟨a, rfl, hm⟩ := q1
      obtain ⟨vs, z, r⟩ := RepC.lst.mp (hS1.cell l a _ hm hl)
      exact .inl ⟨a, rfl, ⟨vs, SqL.of z⟩, k m1 H1 _ s1 hS1 (itok_cell hm hl)⟩
    · cases hx
  · cases hx
/-- a text -/
theorem xi_str (he : PE X e (tOf X.K xa)) : PI X tg e (iOf X.K (xItS xa)) := PI.imp (pi_str he) fun σ H R h => by
  obtain ⟨m, G, ρ, S, ds, lc, S', hE, hS, hx, k⟩ := h
  simp only [xItS, Option.bind_eq_some_iff] at hx
  obtain ⟨⟨r1, S1⟩, h1, hx⟩ := hx
  refine ⟨m, G, ρ, S, r1, S1, hE, hS, h1, fun v m1 H1 s1 hS1 q1 o1 => ?_⟩
  dsimp only at hx
  split at hx
  · cases hx
    simp only [RepR, RepP] at q1
    exact ⟨_, q1, k m1 H1 _ s1 hS1 itok_str⟩
  · cases hx
theorem xi_rng1 {p pos : Pos} (hg : Gl X "range") (hm : X.mg "range" = none) (ha : PE X a (tOf X.K xa)) (hs : starEach [a] X.env = [(false, eval a X.env)] := by rfl) : PI X tg (.Call (.Name "range" p) [a] [] pos) (iOf X.K (xRng1 xa)) :=
  PI.imp (pi_range1 hg hm (pa_cons ha pa_nil hs) hs) fun σ H R h => by
    obtain ⟨m, G, ρ, S, ds, lc, S', hE, hS, hx, k⟩ := h
    simp only [xRng1, Option.bind_eq_some_iff] at hx
    obtain ⟨⟨r1, S1⟩, h1, hx⟩ := hx
    refine ⟨m, G, ρ, S, r1, S1, hE, hS, h1, fun v m1 H1 s1 hS1 q1 o1 => ?_⟩
    dsimp only at hx
    split at hx
    · rename_i j
      split at hx
      · rename_i hj
        cases hx
        simp only [RepR, RepP] at q1
        subst q1
        exact ⟨j, rfl, by omega, by omega, k m1 H1 _ s1 hS1 itok_rng⟩
      · cases hx
    · cases hx
theorem xi_rng2 {p pos : Pos} (hg : Gl X "range") (hm : X.mg "range" = none) (ha : PE X a (tOf X.K xa)) (hb : PE X b (tOf X.K xb)) (hs : starEach [a, b] X.env = [(false, eval a X.env), (false, eval b X.env)] := by rfl) (hs2 : starEach [b] X.env = [(false, eval b X.env)] := by rfl) :
    PI X tg (.Call (.Name "range" p) [a, b] [] pos) (iOf X.K (xRng2 xa xb)) :=
  PI.imp (pi_range2 hg hm (pa_cons ha (pa_cons hb pa_nil hs2) (by rw [hs, hs2])) hs hs2) fun σ H R h => by
    obtain ⟨m, G, ρ, S, ds, lc, S', hE, hS, hx, k⟩ := h
    simp only [xRng2, Option.bind_eq_some_iff] at hx
    obtain ⟨⟨r1, S1⟩, h1, ⟨r2, S2⟩, h2, hx⟩ := hx
    refine ⟨m, G, ρ, S, r1, S1, hE, hS, h1, fun v m1 H1 s1 hS1 q1 o1 => ⟨m1, G, ρ, S1, r2, S2, hE.step s1, hS1, h2, fun w m2 H2 s2 hS2 q2 o2 => ?_⟩⟩
    dsimp only at hx
    split at hx
    · rename_i i j
      split at hx
      · rename_i hj
        cases hx
        simp only [RepR, RepP] at q1 q2
        subst q1 q2
        exact ⟨i, j, rfl, ⟨by omega, by omega, by omega, by omega⟩, k m2 H2 _ (s1.trans s2) hS2 itok_rng⟩
      · cases hx
    · cases hx
end

/-! ### for -/
theorem for_rd {K : PySem.W.Frag} {it : XI} {t : Tg} {b : XS} {D : Ends} {σ : L2.St} {H : Hp} (h : tOfS K (xFor it t b) D σ H) : tFor (iOf K it) (gOf K t) (tOfS K b) D σ H := by
  obtain ⟨m, G, ρ, S, fl, S', hE, hS, hx, k⟩ := h
  simp only [xFor, Option.bind_eq_some_iff] at hx
  obtain ⟨⟨ds, lc, S0⟩, h1, hx⟩ := hx
  refine ⟨m, G, ρ, S, ds, lc, S0, hE, hS, h1, fun m0 H0 J s0 hS0 ok => ?_⟩
  dsimp only at hx
  have el : S0.length = m0.length := hS0.len.symm
  rw [el] at hx
  have gg : ∀ a ∈ G, a ∈ G ∨ H0 a = none := fun a z => .inl z
  refine ⟨fun i n σ1 H1 => n = ds.length - i ∧ i ≤ ds.length ∧ ∃ m1 ρ1 S1, Step m0 H0 m1 H1 ∧ RepSt K G m1 S1 H1 ∧ RepE K G m1 H1 ρ1 σ1 ∧ cellOk lc S0 S1 = true ∧ forGo m0.length lc S0 t b (ds.drop i) ρ1 S1 = some (fl, S'), ⟨ds.length, by simp, Nat.zero_le _, m0, ρ, S0, Step.refl, hS0, hE.step s0, ?_, by simpa using hx⟩, ?_⟩
  · unfold cellOk
    split
    · rfl
    · simp
  · rintro i n σ1 H1 ⟨rfl, hi, m1, ρ1, S1, s1, hS1, hE1, c1, go⟩
    by_cases hlt : i < ds.length
    · have hd : ds[i]? = some ds[i] := List.getElem?_eq_getElem hlt
      rw [List.drop_eq_getElem_cons hlt] at go
      simp only [forGo, Option.bind_eq_some_iff] at go
      obtain ⟨ρ2, hp, ⟨f2, S2⟩, hb, go⟩ := go
      dsimp only at go
      refine .inr ⟨ok.go i _ G m1 H1 S1 hd s1.g gg hS1 c1, ?_⟩
      have more : ∀ (ρ3 : Env), (if cellOk lc S0 (gc m0.length ρ3 S2).2 = true then forGo m0.length lc S0 t b (List.drop (i + 1) ds) (gc m0.length ρ3 S2).1 (gc m0.length ρ3 S2).2 else none) = some (fl, S') →
          ∀ σ' H', (∃ m', Step m0 H0 m' H' ∧ RepSt K G m' S2 H' ∧ RepE K G m' H' ρ3 σ') → ∃ n', n' < ds.length - i ∧ n' = ds.length - (i + 1) ∧ i + 1 ≤ ds.length ∧ ∃ m1 ρ1 S1, Step m0 H0 m1 H' ∧ RepSt K G m1 S1 H' ∧ RepE K G m1 H' ρ1 σ' ∧ cellOk lc S0 S1 = true ∧ forGo m0.length lc S0 t b (ds.drop (i + 1)) ρ1 S1 = some (fl, S') := by
        intro ρ3 go σ' H' ⟨m', s', hS', hE'⟩
        split at go
        · rename_i hc
          obtain ⟨m3, s3, hS3, hE3⟩ := gc_ok s' hS' hE'
          exact ⟨ds.length - (i + 1), by omega, rfl, hlt, m3, _, _, s3, hS3, hE3, hc, go⟩
        · cases go
      have start : ∀ x H2, J.yld i H1 x H2 → ∀ (Q : L2.St → Hp → Prop), (∀ σ2, RepE K G m1 H2 ρ2 σ2 → Q σ2 H2) → gOf K t x σ1 H2 Q := fun x H2 hy Q kq => by
        obtain ⟨e, q⟩ := ok.yld i _ G m1 H1 S1 x H2 hd s1.g gg hS1 c1 hy
        exact ⟨m1, G, ρ1, _, ρ2, hE1.step (Step.of_ext e), q, hp, fun σ' hE' _ => kq σ' hE'⟩
      have ext : ∀ x H2, J.yld i H1 x H2 → Ext H1 H2 := fun x H2 hy => (ok.yld i _ G m1 H1 S1 x H2 hd s1.g gg hS1 c1 hy).1
      cases f2 with
      | nx ρ3 =>
        refine ⟨fun σ' H' => ∃ m', Step m0 H0 m' H' ∧ RepSt K G m' S2 H' ∧ RepE K G m' H' ρ3 σ', more ρ3 go, fun x H2 hy => start x H2 hy _ fun σ2 hE2 => ?_⟩
        have e2 := ext x H2 hy
        exact ⟨m1, G, ρ2, S1, .nx ρ3, S2, hE2, hS1.ext e2, hb, fun σ' m' H' s' hS' hE' => ⟨m', (s1.trans (Step.of_ext e2)).trans s', hS', hE'⟩⟩
      | ct ρ3 =>
        refine ⟨fun σ' H' => ∃ m', Step m0 H0 m' H' ∧ RepSt K G m' S2 H' ∧ RepE K G m' H' ρ3 σ', more ρ3 go, fun x H2 hy => start x H2 hy _ fun σ2 hE2 => ?_⟩
        have e2 := ext x H2 hy
        exact ⟨m1, G, ρ2, S1, .ct ρ3, S2, hE2, hS1.ext e2, hb, fun σ' m' H' s' hS' hE' => ⟨m', (s1.trans (Step.of_ext e2)).trans s', hS', hE'⟩⟩
      | bk ρ3 =>
        cases go
        refine ⟨fun _ _ => False, fun _ _ z => z.elim, fun x H2 hy => start x H2 hy _ fun σ2 hE2 => ?_⟩
        have e2 := ext x H2 hy
        exact ⟨m1, G, ρ2, S1, .bk ρ3, _, hE2, hS1.ext e2, hb, fun σ' m' H' s' hS' hE' => k σ' m' H' (((s0.trans s1).trans (Step.of_ext e2)).trans s') hS' hE'⟩
      | rt r =>
        cases go
        refine ⟨fun _ _ => False, fun _ _ z => z.elim, fun x H2 hy => start x H2 hy _ fun σ2 hE2 => ?_⟩
        have e2 := ext x H2 hy
        have s02 := (s0.trans s1).trans (Step.of_ext e2)
        exact ⟨m1, G, ρ2, S1, .rt r, _, hE2, hS1.ext e2, hb, fun v m' H' s' hS' q o => k v m' H' (s02.trans s') hS' q (o.back s02.dom)⟩
    · have e : i = ds.length := by omega
      subst e
      rw [List.drop_length] at go
      cases go
      exact .inl ⟨ok.stop G m1 H1 _ s1.g gg hS1 c1, k σ1 m1 H1 (s0.trans s1) hS1 hE1⟩
theorem xs_for {X : Cx} {tg iter : Expr} {body : List Stmt} {pos : Pos} {it : XI} {t : Tg} {b : XS} (hp : PassesOwn (model X.prog X.w) X.A X.env X.xe) (hc : X.calm = true) (hi : PI X tg iter (iOf X.K it)) (hg : PG X tg (gOf X.K t)) (hb : PSs X body (tOfS X.K b))
    (hs : ∀ x, foldedSetIterable iter X.env x = pure x := by intro _; rfl) : PS X (.For tg iter body [] pos) (tOfS X.K (xFor it t b)) := PS.imp (ps_for hp hc hi hg hb hs) fun D σ H h => for_rd h
/-! ### while -/
end XL
end
section
set_option Elab.async false
set_option linter.all false
set_option maxRecDepth 100000
set_option maxHeartbeats 1000000
namespace XL
open PySem L2
/-! ### the comprehension's own slots -/
theorem wipe_get {σ : L2.St} : ∀ (vs : List Nat) (i : Nat), (wipe σ vs)[i]? = if i ∈ vs then σ[i]?.map (fun _ => none) else σ[i]?
  | [], i => by simp [wipe]
  | v :: vs, i => by
    simp only [wipe]
    by_cases c : v = i
    · subst c
      rw [if_pos (by simp)]
      by_cases hl : v < σ.length
      · rw [List.getElem?_set_self (by rw [wipe_length]; exact hl), List.getElem?_eq_getElem hl]; rfl
      · rw [List.getElem?_eq_none (by simp [wipe_length]; omega), List.getElem?_eq_none (by omega)]; rfl
    · rw [List.getElem?_set_ne c, wipe_get vs i]
      have e : (i ∈ v :: vs) = (i ∈ vs) := by simp [Ne.symm c]
      simp only [e]
theorem wipe_same {σ σ2 : L2.St} {vs ws : List Nat} (h : SameBut ws (wipe σ vs) σ2) (hw : ∀ i ∈ ws, i ∈ vs) : wipe σ2 vs = wipe σ vs := by
  apply List.ext_getElem?
  intro i
  rw [wipe_get, wipe_get]
  have hl : σ2.length = σ.length := by rw [h.1, wipe_length]
  by_cases c : i ∈ vs
  · rw [if_pos c, if_pos c]
    by_cases hi : i < σ.length
    · rw [List.getElem?_eq_getElem hi, List.getElem?_eq_getElem (by omega)]; rfl
    · rw [List.getElem?_eq_none (by omega), List.getElem?_eq_none (by omega)]
  · rw [if_neg c, if_neg c, h.2 i (fun z => c (hw i z)), wipe_get, if_neg c]
theorem wipeE_length (ρ : Env) : ∀ vs : List Nat, (wipeE ρ vs).length = ρ.length
  | [] => rfl
  | v :: vs => by simp [wipeE, wipeE_length ρ vs]
theorem wipeE_get {ρ : Env} : ∀ (vs : List Nat) (i : Nat) (d : D), (wipeE ρ vs)[i]? = some (some d) → ρ[i]? = some (some d) ∧ i ∉ vs
  | [], i, d, h => ⟨h, by simp⟩
  | v :: vs, i, d, h => by
    simp only [wipeE] at h
    by_cases c : v = i
    · subst c
      by_cases hl : v < (wipeE ρ vs).length
      · rw [List.getElem?_set_self hl] at h; simp at h
      · rw [List.getElem?_eq_none (by simp; omega)] at h; cases h
    · rw [List.getElem?_set_ne c] at h
      obtain ⟨h1, h2⟩ := wipeE_get vs i d h
      exact ⟨h1, by simp [Ne.symm c, h2]⟩
section
variable {K : PySem.W.Frag} {G G' m m' m1 m2 : List Addr} {H H' H0 H1 H2 : Hp}
theorem RepE.wipe {ρ : Env} {σ : L2.St} (h : RepE K G m H ρ σ) (vs : List Nat) : RepE K G m H (wipeE ρ vs) (wipe σ vs) :=
  ⟨by rw [wipeE_length, wipe_length]; exact h.len, fun i d e => by
    obtain ⟨e1, e2⟩ := wipeE_get vs i d e
    obtain ⟨v, hv, q⟩ := h.slot i d e1
    exact ⟨v, by rw [wipe_get, if_neg e2]; exact hv, q⟩⟩
/-- another guarded address, that was not there -/
theorem RepE.guard {ρ : Env} {σ : L2.St} {p : Addr} (h : RepE K G m H ρ σ) (hp : H p = none) (o : HO) : RepE K (p :: G) m (upd H p o) ρ σ :=
  ⟨h.len, fun i d e => by
    obtain ⟨v, hv, q⟩ := h.slot i d e
    refine ⟨v, hv, ?_⟩
    cases d with
    | p d => exact (RepP.move (G := G) (G' := p :: G) (m := m) (m' := m) (fun a o' e _ => Ext.new hp a o' e) (fun a ha => by
        simp only [List.mem_append, List.mem_cons] at ha ⊢
        rcases ha with ha | ha | ha
        · exact .inl (.inl ha)
        · subst ha; exact .inr hp
        · exact .inl (.inr ha))).1 d v q
    | ref l => exact q⟩
theorem RepSt.guard {S : Sto} {p : Addr} (h : RepSt K G m S H) (hp : H p = none) (o : HO) (ho : ∀ vs, o ≠ .tup vs := by intro _ q; cases q) : RepSt K (p :: G) m S (upd H p o) :=
  ⟨h.len, h.nd, fun l a c h1 h2 => by
    obtain ⟨vs, ob, z, kk, r⟩ := h.cell l a c h1 h2
    exact ⟨vs, ob, Ext.new hp _ _ z, kk, (RepP.move (G := G) (G' := p :: G) (m := m) (m' := m) (fun a o' e _ => Ext.new hp a o' e) (fun a ha => by
        simp only [List.mem_append, List.mem_cons] at ha ⊢
        rcases ha with ha | ha | ha
        · exact .inl (.inl ha)
        · subst ha; exact .inr hp
        · exact .inl (.inr ha))).2 _ vs r⟩, fun a ha => by
    rcases List.mem_cons.mp ha with rfl | ha
    · exact ⟨⟨by rw [upd_same]; simp, fun vs => by rw [upd_same]; exact fun q => ho vs (Option.some.inj q)⟩, fun z => h.has z hp⟩
    · exact ⟨(h.gd a ha).1.ext (Ext.new hp), (h.gd a ha).2⟩⟩
/-- what is guarded may change -/
theorem RepPs.updG {p : Addr} {o : HO} {ds : List P} {vs : List V} (hp : p ∈ G) (h : RepPs K (m ++ G) H ds vs) : RepPs K (m ++ G) (upd H p o) ds vs :=
  (RepP.move (G := G) (G' := G) (m := m) (m' := m) (fun a o' e hm => by
    rw [upd_ne (fun z : a = p => hm (List.mem_append_right _ (by rw [z]; exact hp)))]; exact e) (fun a ha => .inl ha)).2 ds vs h
theorem RepP.updG {p : Addr} {o : HO} {d : P} {v : V} (hp : p ∈ G) (h : RepP K (m ++ G) H d v) : RepP K (m ++ G) (upd H p o) d v :=
  (RepP.move (G := G) (G' := G) (m := m) (m' := m) (fun a o' e hm => by
    rw [upd_ne (fun z : a = p => hm (List.mem_append_right _ (by rw [z]; exact hp)))]; exact e) (fun a ha => .inl ha)).1 d v h
theorem RepSt.updG {S : Sto} {p : Addr} {o : HO} (h : RepSt K G m S H) (hp : p ∈ G) (ho : ∀ vs, o ≠ .tup vs := by intro _ q; cases q) : RepSt K G m S (upd H p o) :=
  ⟨h.len, h.nd, fun l a c h1 h2 => by
    have ne : a ≠ p := fun z => (h.gd p hp).2 (z ▸ List.mem_of_getElem? h1)
    obtain ⟨vs, ob, z, kk, r⟩ := h.cell l a c h1 h2
    exact ⟨vs, ob, by rw [upd_ne ne]; exact z, kk, RepPs.updG hp r⟩, fun a ha => ⟨by
      by_cases c : a = p
      · subst c; exact ⟨by rw [upd_same]; simp, fun vs => by rw [upd_same]; exact fun q => ho vs (Option.some.inj q)⟩
      · exact (h.gd a ha).1.upd c, (h.gd a ha).2⟩⟩
theorem RepE.updG {ρ : Env} {σ : L2.St} {p : Addr} {o : HO} (h : RepE K G m H ρ σ) (hp : p ∈ G) : RepE K G m (upd H p o) ρ σ :=
  ⟨h.len, fun i d e => by
    obtain ⟨v, hv, q⟩ := h.slot i d e
    refine ⟨v, hv, ?_⟩
    cases d with
    | p d => exact RepP.updG hp q
    | ref l => exact q⟩
theorem Step.updG {p : Addr} {o : HO} (s : Step m H m1 H1) (hp : H p = none) (h1 : H1 p ≠ none) : Step m H m1 (upd H1 p o) :=
  ⟨s.pre, fun a o' e hm => by rw [upd_ne (ne_of_none e hp)]; exact s.keep a o' e hm, fun a e => by
    by_cases c : a = p
    · subst c; exact hp
    · rw [upd_ne c] at e; exact s.dom a e, fun a o' w e => by rw [upd_ne (ne_of_none e hp)]; exact s.fz a o' w e⟩
/-- a guarded list that is done -/
theorem own_guard {S : Sto} {p : Addr} {vs : List V} {ds : List P} (h : RepSt K (p :: G) m S H) (hp : H p = some (.lst vs)) (r : RepPs K (m ++ p :: G) H ds vs) (hG : p ∉ G) (h0 : H0 p = none) : Own K H0 G m H S (.frl ds) (.ref p) := by
  refine ⟨p, rfl, h0, by simp [h.len], ?_, fun l a c h1 h2 => ?_, fun a ha => ⟨(h.gd a (List.mem_cons_of_mem _ ha)).1, fun z => ?_⟩⟩
  · rw [List.nodup_append]
    refine ⟨h.nd, by simp, fun a ha b hb => ?_⟩
    simp at hb; subst hb
    exact fun e => (h.gd b (by simp)).2 (e ▸ ha)
  · have ea : (m ++ [p]) ++ G = m ++ p :: G := by simp
    rw [ea]
    by_cases hl : l < m.length
    · rw [List.getElem?_append_left hl] at h1
      rw [List.getElem?_append_left (h.len ▸ hl)] at h2
      exact h.cell l a c h1 h2
    · have hl2 : l < (m ++ [p]).length := (List.getElem?_eq_some_iff.mp h1).1
      have e : l = m.length := by simp at hl2; omega
      subst e
      simp at h1
      rw [h.len] at h2
      simp at h2
      subst h1; subst h2
      exact RepC.lst.mpr ⟨vs, hp, r⟩
  · rcases List.mem_append.mp z with z | z
    · exact (h.gd a (List.mem_cons_of_mem _ ha)).2 z
    · simp at z; subst z; exact hG ha
end
theorem cellOk_self (lc : Option Nat) (S : Sto) : cellOk lc S S = true := by
  unfold cellOk
  split
  · rfl
  · simp
theorem lt_size {n : Nat} (h : n < big) : n < sizeLine := Nat.lt_of_lt_of_le h (by decide)

/-! ### comprehensions -/
theorem lc_rd {K : PySem.W.Frag} {it : XI} {t : Tg} {c : XT} {e : XE} {vs : List Nat} {σ : L2.St} {H : Hp} {Q : VK} (ht : ∀ i ∈ t.slots, i ∈ vs) (h : tOf K (xLc it t c e vs) σ H Q) : tLc (iOf K it) (gOf K t) (tOfT K c) (tOf K e) vs σ H Q := by
  obtain ⟨m, G, ρ, S, r, S', hE, hS, hx, k⟩ := h
  simp only [xLc, Option.bind_eq_some_iff, Option.map_eq_some_iff] at hx
  obtain ⟨⟨ds, lc, S0⟩, h1, ⟨fin, Sf⟩, hx, er⟩ := hx
  cases er
  refine ⟨m, G, ρ, S, ds, lc, S0, hE, hS, h1, fun m0 H0 J s0 hS0 ok A hA => ?_⟩
  dsimp only at hx
  have gg : ∀ a ∈ A :: G, a ∈ G ∨ H0 a = none := fun a z => by
    rcases List.mem_cons.mp z with rfl | z
    · exact .inr hA
    · exact .inl z
  have hAG : A ∉ G := fun z => (hS0.gd A z).1.1 hA
  refine ⟨fun i n H1 => n = ds.length - i ∧ i ≤ ds.length ∧ ∃ m1 S1 acc avs, Step m0 H0 m1 H1 ∧ RepSt K (A :: G) m1 S1 H1 ∧ RepE K (A :: G) m1 H1 (wipeE ρ vs) (wipe σ vs) ∧ H1 A = some (.lst avs) ∧ RepPs K (m1 ++ A :: G) H1 acc avs ∧ cellOk lc S0 S1 = true ∧
      lcGo lc S0 t c e (wipeE ρ vs) (ds.drop i) acc S1 = some (fin, Sf), ⟨ds.length, by simp, Nat.zero_le _, m0, S0, [], [], ?_, hS0.guard hA _, ((hE.step s0).wipe vs).guard hA _, upd_same, RepPs.nil, cellOk_self _ _, by simpa using hx⟩, ?_⟩
  · exact Step.of_ext (Ext.new hA)
  rintro i n H1 ⟨rfl, hi, m1, S1, acc, avs, s1, hS1, hE1, hD1, rD1, c1, go⟩
  by_cases hlt : i < ds.length
  · have hd : ds[i]? = some ds[i] := List.getElem?_eq_getElem hlt
    rw [List.drop_eq_getElem_cons hlt] at go
    simp only [lcGo, Option.bind_eq_some_iff] at go
    obtain ⟨ρ2, hp, ⟨b, S2⟩, hb, go⟩ := go
    dsimp only at go
    refine .inr ⟨ok.go i _ (A :: G) m1 H1 S1 hd s1.g gg hS1 c1, fun H' => i + 1 ≤ ds.length ∧ ∃ m1 S1 acc avs, Step m0 H0 m1 H' ∧ RepSt K (A :: G) m1 S1 H' ∧ RepE K (A :: G) m1 H' (wipeE ρ vs) (wipe σ vs) ∧ H' A = some (.lst avs) ∧ RepPs K (m1 ++ A :: G) H' acc avs ∧ cellOk lc S0 S1 = true ∧
      lcGo lc S0 t c e (wipeE ρ vs) (ds.drop (i + 1)) acc S1 = some (fin, Sf), fun H' w => ⟨ds.length - (i + 1), by omega, rfl, w⟩, fun x H2 hy => ?_⟩
    obtain ⟨e2, q2⟩ := ok.yld i _ (A :: G) m1 H1 S1 x H2 hd s1.g gg hS1 c1 hy
    have s2 : Step m1 H1 m1 H2 := Step.of_ext e2
    refine ⟨m1, A :: G, wipeE ρ vs, _, ρ2, hE1.step s2, q2, hp, fun σ2 hE2 sb => ⟨wipe_same sb ht, ?_⟩⟩
    refine ⟨m1, A :: G, ρ2, S1, b, S2, hE2, hS1.ext e2, hb, fun m3 H3 s3 hS3 => ?_⟩
    have AnM : ∀ {G1 m1 : List Addr} {H1 : Hp} {S1 : Sto}, RepSt K (A :: G) m1 S1 H1 → A ∉ m1 := fun h => (h.gd A (by simp)).2
    cases b with
    | false =>
      rw [if_neg (by simp)] at go
      refine iteF ?_
      split at go
      · rename_i hc
        refine ⟨hlt, m3, S2, acc, avs, (s1.trans s2).trans s3, hS3, (hE1.step s2).step s3, s3.keep _ _ (e2 _ _ hD1) (AnM (G1 := G) hS1), RepPs.step (s2.trans s3) acc avs rD1, hc, go⟩
      · cases go
    | true =>
      rw [if_pos rfl] at go
      refine iteT ?_
      simp only [Option.bind_eq_some_iff] at go
      obtain ⟨⟨r4, S4⟩, h4, d4, hf4, go⟩ := go
      dsimp only at go
      split at go
      · rename_i hc
        refine ⟨m3, A :: G, ρ2, S2, r4, S4, hE2.step s3, hS3, h4, fun y m4 H4 s4 hS4 q4 o4 => ?_⟩
        have s24 := (s2.trans s3).trans s4
        have hD4 : H4 A = some (.lst avs) := s4.keep _ _ (s3.keep _ _ (e2 _ _ hD1) (AnM (G1 := G) hS1)) (AnM (G1 := G) hS3)
        have rD4 := RepPs.step s24 acc avs rD1
        refine ⟨avs, hD4, by rw [← rD1.length]; exact lt_size hc.1, hlt, m4, S4, acc ++ [d4], avs ++ [y], (s1.trans s24).updG hA (by rw [hD4]; simp), hS4.updG (by simp), (hE1.step s24).updG (by simp), upd_same, RepPs.updG (by simp) (rD4.append (RepPs.one (q4.fz hf4))), hc.2, go⟩
      · cases go
  · have e : i = ds.length := by omega
    subst e
    rw [List.drop_length] at go
    cases go
    have hS1' : RepSt K G m1 _ H1 := (own_rep (own_guard hS1 hD1 rD1 hAG hA)).1
    refine .inl ⟨ok.stop (A :: G) m1 H1 _ s1.g gg hS1 c1, k (.ref A) m1 H1 (s0.trans s1) hS1' (own_rep (own_guard hS1 hD1 rD1 hAG hA)).2 (own_guard hS1 hD1 rD1 hAG (s0.dom A hA))⟩
theorem lc2_rd {K : PySem.W.Frag} {it it1 : XI} {t t1 : Tg} {c c1 : XT} {e : XE} {vs vs1 : List Nat} {σ : L2.St} {H : Hp} {Q : VK} (ht : ∀ i ∈ t.slots, i ∈ vs) (ht1 : ∀ i ∈ t1.slots, i ∈ vs1) (h : tOf K (xLc2 it t c it1 t1 c1 e vs vs1) σ H Q) :
    tLc2 (iOf K it) (gOf K t) (tOfT K c) (iOf K it1) (gOf K t1) (tOfT K c1) (tOf K e) vs vs1 σ H Q := by
  obtain ⟨m, G, ρ, S, r, S', hE, hS, hx, k⟩ := h
  simp only [xLc2, Option.bind_eq_some_iff, Option.map_eq_some_iff] at hx
  obtain ⟨⟨ds, lc, S0⟩, h1, ⟨fin, Sf⟩, hx, er⟩ := hx
  cases er
  refine ⟨m, G, ρ, S, ds, lc, S0, hE, hS, h1, fun m0 H0 J s0 hS0 ok A hA => ?_⟩
  dsimp only at hx
  have gg : ∀ a ∈ A :: G, a ∈ G ∨ H0 a = none := fun a z => by
    rcases List.mem_cons.mp z with rfl | z
    · exact .inr hA
    · exact .inl z
  have hAG : A ∉ G := fun z => (hS0.gd A z).1.1 hA
  have AnM : ∀ {m1 : List Addr} {H1 : Hp} {S1 : Sto}, RepSt K (A :: G) m1 S1 H1 → A ∉ m1 := fun h => (h.gd A (by simp)).2
  refine ⟨fun i n H1 => n = ds.length - i ∧ i ≤ ds.length ∧ ∃ m1 S1 acc avs, Step m0 H0 m1 H1 ∧ RepSt K (A :: G) m1 S1 H1 ∧ RepE K (A :: G) m1 H1 (wipeE ρ vs) (wipe σ vs) ∧ H1 A = some (.lst avs) ∧ RepPs K (m1 ++ A :: G) H1 acc avs ∧ cellOk lc S0 S1 = true ∧
      lc2Go lc S0 t c it1 t1 c1 e (wipeE ρ vs) vs1 (ds.drop i) acc S1 = some (fin, Sf), ⟨ds.length, by simp, Nat.zero_le _, m0, S0, [], [], ?_, hS0.guard hA _, ((hE.step s0).wipe vs).guard hA _, upd_same, RepPs.nil, cellOk_self _ _, by simpa using hx⟩, ?_⟩
  · exact Step.of_ext (Ext.new hA)
  rintro i n H1 ⟨rfl, hi, m1, S1, acc, avs, s1, hS1, hE1, hD1, rD1, ck1, go⟩
  by_cases hlt : i < ds.length
  · have hd : ds[i]? = some ds[i] := List.getElem?_eq_getElem hlt
    rw [List.drop_eq_getElem_cons hlt] at go
    simp only [lc2Go, Option.bind_eq_some_iff] at go
    obtain ⟨ρ2, hp, ⟨b, S2⟩, hb, go⟩ := go
    dsimp only at go
    refine .inr ⟨ok.go i _ (A :: G) m1 H1 S1 hd s1.g gg hS1 ck1, fun H' => i + 1 ≤ ds.length ∧ ∃ m1 S1 acc avs, Step m0 H0 m1 H' ∧ RepSt K (A :: G) m1 S1 H' ∧ RepE K (A :: G) m1 H' (wipeE ρ vs) (wipe σ vs) ∧ H' A = some (.lst avs) ∧ RepPs K (m1 ++ A :: G) H' acc avs ∧ cellOk lc S0 S1 = true ∧
      lc2Go lc S0 t c it1 t1 c1 e (wipeE ρ vs) vs1 (ds.drop (i + 1)) acc S1 = some (fin, Sf), fun H' w => ⟨ds.length - (i + 1), by omega, rfl, w⟩, fun x H2 hy => ?_⟩
    obtain ⟨e2, q2⟩ := ok.yld i _ (A :: G) m1 H1 S1 x H2 hd s1.g gg hS1 ck1 hy
    have s2 : Step m1 H1 m1 H2 := Step.of_ext e2
    refine ⟨m1, A :: G, wipeE ρ vs, _, ρ2, hE1.step s2, q2, hp, fun σ2 hE2 sb => ⟨wipe_same sb ht, ?_⟩⟩
    refine ⟨m1, A :: G, ρ2, S1, b, S2, hE2, hS1.ext e2, hb, fun m3 H3 s3 hS3 => ?_⟩
    have hD3 : H3 A = some (.lst avs) := s3.keep _ _ (e2 _ _ hD1) (AnM hS1)
    have rD3 := RepPs.step (s2.trans s3) acc avs rD1
    cases b with
    | false =>
      rw [if_neg (by simp)] at go
      refine iteF ?_
      split at go
      · rename_i hc
        exact ⟨hlt, m3, S2, acc, avs, (s1.trans s2).trans s3, hS3, (hE1.step s2).step s3, hD3, rD3, hc, go⟩
      · cases go
    | true =>
      rw [if_pos rfl] at go
      refine iteT ?_
      simp only [Option.bind_eq_some_iff] at go
      obtain ⟨⟨es, lc1, S4⟩, h4, ⟨facc, S5⟩, h5, go⟩ := go
      dsimp only at h5 go
      split at go
      · rename_i hc5
        refine ⟨m3, A :: G, ρ2, S2, es, lc1, S4, hE2.step s3, hS3, h4, fun m4 H4 J1 s4 hS4 ok1 => ?_⟩
        have gg1 : ∀ a ∈ A :: G, a ∈ A :: G ∨ H4 a = none := fun a z => .inl z
        have s24 := (s2.trans s3).trans s4
        have hE4 := hE2.step (s3.trans s4)
        refine ⟨fun j n H5 => n = es.length - j ∧ j ≤ es.length ∧ ∃ m5 S6 acc5 avs5, StepG (A :: G) m4 H4 m5 H5 ∧ RepSt K (A :: G) m5 S6 H5 ∧ RepE K (A :: G) m5 H5 (wipeE ρ2 vs1) (wipe σ2 vs1) ∧ RepE K (A :: G) m5 H5 (wipeE ρ vs) (wipe σ vs) ∧ H5 A = some (.lst avs5) ∧ RepPs K (m5 ++ A :: G) H5 acc5 avs5 ∧ Step m0 H0 m5 H5 ∧ cellOk lc1 S4 S6 = true ∧
            lcGo lc1 S4 t1 c1 e (wipeE ρ2 vs1) (es.drop j) acc5 S6 = some (facc, S5), ⟨es.length, by simp, Nat.zero_le _, m4, S4, acc, avs, Step.refl.g, hS4, hE4.wipe vs1, hE1.step s24, s4.keep _ _ hD3 (AnM hS3), RepPs.step s4 acc avs rD3, s1.trans s24, cellOk_self _ _, by simpa using h5⟩, ?_⟩
        rintro j n H5 ⟨rfl, hj, m5, S6, acc5, avs5, s5, hS6, hE5, hEo, hD5, rD5, s05, ck5, go1⟩
        by_cases hlt1 : j < es.length
        · have hd1 : es[j]? = some es[j] := List.getElem?_eq_getElem hlt1
          rw [List.drop_eq_getElem_cons hlt1] at go1
          simp only [lcGo, Option.bind_eq_some_iff] at go1
          obtain ⟨ρ7, hp7, ⟨b7, S7⟩, hb7, go1⟩ := go1
          dsimp only at go1
          refine .inr ⟨ok1.go j _ (A :: G) m5 H5 S6 hd1 s5 gg1 hS6 ck5, fun H' => j + 1 ≤ es.length ∧ ∃ m5 S6 acc5 avs5, StepG (A :: G) m4 H4 m5 H' ∧ RepSt K (A :: G) m5 S6 H' ∧ RepE K (A :: G) m5 H' (wipeE ρ2 vs1) (wipe σ2 vs1) ∧ RepE K (A :: G) m5 H' (wipeE ρ vs) (wipe σ vs) ∧ H' A = some (.lst avs5) ∧ RepPs K (m5 ++ A :: G) H' acc5 avs5 ∧ Step m0 H0 m5 H' ∧ cellOk lc1 S4 S6 = true ∧
            lcGo lc1 S4 t1 c1 e (wipeE ρ2 vs1) (es.drop (j + 1)) acc5 S6 = some (facc, S5), fun H' w => ⟨es.length - (j + 1), by omega, rfl, w⟩, fun x7 H7 hy7 => ?_⟩
          obtain ⟨e7, q7⟩ := ok1.yld j _ (A :: G) m5 H5 S6 x7 H7 hd1 s5 gg1 hS6 ck5 hy7
          have s7 : Step m5 H5 m5 H7 := Step.of_ext e7
          refine ⟨m5, A :: G, wipeE ρ2 vs1, _, ρ7, hE5.step s7, q7, hp7, fun σ7 hE7 sb7 => ⟨wipe_same sb7 ht1, ?_⟩⟩
          refine ⟨m5, A :: G, ρ7, S6, b7, S7, hE7, hS6.ext e7, hb7, fun m8 H8 s8 hS8 => ?_⟩
          cases b7 with
          | false =>
            rw [if_neg (by simp)] at go1
            refine iteF ?_
            split at go1
            · rename_i hc
              have s78 := s7.trans s8
              exact ⟨hlt1, m8, S7, acc5, avs5, s5.trans s78, hS8, hE5.step s78, hEo.step s78, s8.keep _ _ (e7 _ _ hD5) (AnM hS6), RepPs.step s78 acc5 avs5 rD5, s05.trans s78, hc, go1⟩
            · cases go1
          | true =>
            rw [if_pos rfl] at go1
            refine iteT ?_
            simp only [Option.bind_eq_some_iff] at go1
            obtain ⟨⟨r9, S9⟩, h9, d9, hf9, go1⟩ := go1
            dsimp only at go1
            split at go1
            · rename_i hc
              refine ⟨m8, A :: G, ρ7, S7, r9, S9, hE7.step s8, hS8, h9, fun y m9 H9 s9 hS9 q9 o9 => ?_⟩
              have s79 := (s7.trans s8).trans s9
              have hD9 : H9 A = some (.lst avs5) := s9.keep _ _ (s8.keep _ _ (e7 _ _ hD5) (AnM hS6)) (AnM hS8)
              have rD9 := RepPs.step s79 acc5 avs5 rD5
              have h9n : H9 A ≠ none := by rw [hD9]; simp
              have s49 : StepG (A :: G) m4 H4 m9 (upd H9 A (.lst (avs5 ++ [y]))) := (s5.trans s79).updG (by simp) h9n (fun o u z => by rw [s4.keep _ _ hD3 (AnM hS3)] at z; cases z)
              exact ⟨avs5, hD9, by rw [← rD5.length]; exact lt_size hc.1, hlt1, m9, S9, acc5 ++ [d9], avs5 ++ [y], s49, hS9.updG (by simp), (hE5.step s79).updG (by simp), (hEo.step s79).updG (by simp), upd_same, RepPs.updG (by simp) (rD9.append (RepPs.one (q9.fz hf9))), (s05.trans s79).updG hA h9n, hc.2, go1⟩
            · cases go1
        · have e : j = es.length := by omega
          subst e
          rw [List.drop_length] at go1
          cases go1
          exact .inl ⟨ok1.stop (A :: G) m5 H5 _ s5 gg1 hS6 ck5, hlt, m5, _, _, avs5, s05, hS6, hEo, hD5, rD5, hc5, go⟩
      · cases go
  · have e : i = ds.length := by omega
    subst e
    rw [List.drop_length] at go
    cases go
    have hS1' : RepSt K G m1 _ H1 := (own_rep (own_guard hS1 hD1 rD1 hAG hA)).1
    refine .inl ⟨ok.stop (A :: G) m1 H1 _ s1.g gg hS1 ck1, k (.ref A) m1 H1 (s0.trans s1) hS1' (own_rep (own_guard hS1 hD1 rD1 hAG hA)).2 (own_guard hS1 hD1 rD1 hAG (s0.dom A hA))⟩
end XL
end
section
set_option Elab.async false
set_option linter.all false
set_option maxRecDepth 100000
set_option maxHeartbeats 1000000
namespace XL
open PySem L2 PyProof.Rows
section
variable {X : Cx} {elt tg iter tg1 iter1 : Expr} {ifs ifs1 : List Expr} {scope : Scope} {own : List (Str × Nat)} {pos spos py : Pos} {it it1 : XI} {t t1 : Tg} {c c1 : XT} {e : XE} {vs1 : List Nat}
abbrev Blk (X : Cx) (scope : Scope) (P : Cx → Prop) : Prop := ∀ (s : Shared) (H : Hp) (C : Addr) (cl : List (Str × Addr)) (fp : List Addr), P (X.blk s H scope (compEnvC scope cl C X.env) fp)
theorem xe_lc (hc : X.calm = true) (hN : X.N.Nodup) (hi : PI X tg iter (iOf X.K it)) (ok : BlkOk X.N X.env.scope scope own) (hg : Blk X scope fun Y => PG Y tg (gOf Y.K t)) (ht : Blk X scope fun Y => PTs Y ifs (tOfT Y.K c)) (he : Blk X scope fun Y => PE Y elt (tOf Y.K e))
    (hv : ∀ i ∈ t.slots, i ∈ own.map (·.2) := by decide) (hs : ∀ x, foldedSetIterable iter X.env x = pure x := by intro _; rfl) :
    PE X (.ListComp elt [⟨tg, iter, ifs, 0⟩] scope pos) (tOf X.K (xLc it t c e (own.map (·.2)))) := PE.imp (pe_lc hc hN hi ok hg ht he hs) fun σ H Q h => lc_rd hv h
theorem xs_setLc {i : Nat} {y : Str} (hc : X.calm = true) (hN : X.N.Nodup) (hy : X.N[i]? = some y) (hyl : X.env.scope.names.lookup y = some .local)
    (hsw : swapsWith (.ListComp elt [⟨tg, iter, ifs, 0⟩] scope pos) (some (.Name y py)) spos.line X.env = pure true) (hi : PI X tg iter (iOf X.K it)) (ok : BlkOk X.N X.env.scope scope own) (hg : Blk X scope fun Y => PG Y tg (gOf Y.K t)) (ht : Blk X scope fun Y => PTs Y ifs (tOfT Y.K c)) (he : Blk X scope fun Y => PE Y elt (tOf Y.K e))
    (hv : ∀ i ∈ t.slots, i ∈ own.map (·.2) := by decide) (hs : ∀ x, foldedSetIterable iter X.env x = pure x := by intro _; rfl) :
    PS X (.Assign [.Name y py] (.ListComp elt [⟨tg, iter, ifs, 0⟩] scope pos) spos) (tOfS X.K (xSet i (xLc it t c e (own.map (·.2))))) := PS.imp (ps_setLc hc hN hy hyl hsw hi ok hg ht he hs) fun D σ H h => by
  have q := set_rd h
  exact lc_rd hv q
theorem xe_lc2 (hc : X.calm = true) (hN : X.N.Nodup) (hi : PI X tg iter (iOf X.K it)) (ok : BlkOk X.N X.env.scope scope own) (hv1 : ∀ i ∈ vs1, i ∈ own.map (·.2)) (hg : Blk X scope fun Y => PG Y tg (gOf Y.K t)) (ht : Blk X scope fun Y => PTs Y ifs (tOfT Y.K c))
    (hi1 : Blk X scope fun Y => PI Y tg1 iter1 (iOf Y.K it1)) (hg1 : Blk X scope fun Y => PG Y tg1 (gOf Y.K t1)) (ht1 : Blk X scope fun Y => PTs Y ifs1 (tOfT Y.K c1)) (he : Blk X scope fun Y => PE Y elt (tOf Y.K e))
    (hv : ∀ i ∈ t.slots, i ∈ own.map (·.2) := by decide) (hw : ∀ i ∈ t1.slots, i ∈ vs1 := by decide) (hs : ∀ x, foldedSetIterable iter X.env x = pure x := by intro _; rfl) (hs1 : ∀ env x, foldedSetIterable iter1 env x = pure x := by intro _ _; rfl) :
    PE X (.ListComp elt [⟨tg, iter, ifs, 0⟩, ⟨tg1, iter1, ifs1, 0⟩] scope pos) (tOf X.K (xLc2 it t c it1 t1 c1 e (own.map (·.2)) vs1)) := PE.imp (pe_lc2 hc hN hi ok hv1 hg ht hi1 hg1 ht1 he hs hs1) fun σ H Q h => lc2_rd hv hw h
end

/-! ### defs -/
def spOf (K : PySem.W.Frag) (k : Nat) (f : XF) : Sp := fun vs H Q _ => ∃ m G S ds r S', vs.length = k ∧ RepSt K G m S H ∧ RepDs K G m H ds vs ∧ f ds S = some (r, S') ∧
  ∀ v H', Step m H m H' → RepSt K G m S' H' → RepR K G m H' r v → Own K H G m H' S' r v → Q v H'
theorem def_rd {K : PySem.W.Frag} {k : Nat} {f : XF} {xs : XD} {σ : L2.St} {H : Hp} {Q : VK} {E : XK} (hk : ∀ ds S r S', f ds S = some (r, S') → ds.length = k) (h : tOf K (xDef f xs) σ H Q) : tCall (spOf K k f) [] E (tOfD K xs) σ H Q := by
  obtain ⟨m, G, ρ, S, r, S', hE, hS, hx, kk⟩ := h
  simp only [xDef, Option.bind_eq_some_iff] at hx
  obtain ⟨⟨ds, S1⟩, h1, hx⟩ := hx
  refine ⟨m, G, ρ, S, ds, S1, hE, hS, h1, fun vs m1 H1 s1 hS1 q1 => ?_⟩
  show spOf K k f (vs ++ []) H1 Q E
  rw [List.append_nil]
  refine ⟨m1, G, S1, ds, r, S', by rw [← q1.length]; exact hk _ _ _ _ hx, hS1, q1, hx, fun v H' s2 hS2 q2 o2 => ?_⟩
  exact kk v m1 H' (s1.trans s2) hS2 q2 (o2.back s1.dom)
theorem mkF_len {k n : Nat} {b : XS} : ∀ ds S r S', mkF k n b ds S = some (r, S') → ds.length = k := fun ds S r S' h => by
  unfold mkF at h
  split at h
  · assumption
  · cases h
section
variable {X : Cx} {e : Expr} {es : List Expr} {x : Str} {p pos : Pos} {f : Addr} {fd : FuncData} {ps : List Str} {k j n : Nat} {b : XS} {xs : XD}
theorem xe_def (F : FnOk X.prog X.w X.K X.mg X.base CX0 j f fd ps (spOf X.K k (mkF k n b))) (hr : Room j X.A) (hg : Gl X x) (hm : X.mg x = some (.ref f)) (hk : PySem.W.keepIn X.K (.ref f) = true) (hb : Binds X.K fd ps []) (ha : PA X (e :: es) (tOfD X.K xs)) (hdb : (x == ("__debug__" : Str)) = false := by decide)
    (he : starEach (e :: es) X.env = (false, eval e X.env) :: starEach es X.env := by rfl) (hpl : (backTo pos (starEach es X.env)).any (·.1) = false := by rfl) : PE X (.Call (.Name x p) (e :: es) [] pos) (tOf X.K (xDef (mkF k n b) xs)) :=
  PE.imp (pe_call F hr hg hm hk hb .nil pass0 ha hdb he hpl) fun σ H Q h => def_rd mkF_len h
end
theorem startE_ok {K : PySem.W.Frag} {G m : List Addr} {H : Hp} {N : List Str} {ds : List D} {vs : List V} (h : RepDs K G m H ds vs) : RepE K G m H (startE N.length ds) (L2.start N vs) := by
  have hl := h.length
  refine ⟨by simp [startE, L2.start, hl], fun i d e => ?_⟩
  unfold startE at e
  by_cases c : i < ds.length
  · rw [List.getElem?_append_left (by simpa using c), List.getElem?_map] at e
    cases hd : ds[i]? with
    | none => rw [hd] at e; cases e
    | some d' =>
      rw [hd] at e
      simp only [Option.map_some, Option.some.injEq] at e
      subst e
      obtain ⟨v, hv, q⟩ := h.get hd
      refine ⟨v, ?_, q⟩
      unfold L2.start
      rw [List.getElem?_append_left (by simp; omega), List.getElem?_map, hv]; rfl
  · rw [List.getElem?_append_right (by simp; omega)] at e
    have := List.mem_of_getElem? e
    simp [List.mem_replicate] at this
/-- THE RULE for a def -/
theorem ok_def {Pg : Program} {w : World} {K : PySem.W.Frag} {mg : Str → Option Value} {base : Heap} {x qual : Str} {st : Stmt} {f : Addr} {fd : FuncData} {N ps : List Str} {j : Nat} {b : XS} (F : Fun K x qual st f fd) (Sc : FnScope N ps (defScope st))
    (hb : ∀ (cdv : Value) (A : Around) (outer : List PySem.Env) (s : Shared) (H : Hp) (E : XK), Room j (A.deeper (envOfC qual (defScope st) s.heap.objs.size f cdv)) → PSs (cxOf CX0 Pg w K mg base N qual (defScope st) f cdv A outer s H E).nox (defBody st) (tOfS K b)) :
    FnOk Pg w K mg base CX0 (j + 1) f fd ps (spOf K ps.length (mkF ps.length N.length b)) := by
  refine F.ok Sc (fun vs H Q E h => ?_) (fun cdv A outer s H vs Q E hr h => ⟨tOfS K b, hb cdv A outer s H E hr, ?_⟩)
  · obtain ⟨m, G, S, ds, r, S', hl, _⟩ := h
    exact hl
  · obtain ⟨m, G, S, ds, r, S', hl, hS, q, hf, k⟩ := h
    unfold mkF at hf
    split at hf
    · rename_i hk
      simp only [Option.bind_eq_some_iff] at hf
      obtain ⟨⟨fl, S1⟩, h1, hf⟩ := hf
      refine ⟨m, G, startE N.length ds, S, fl, S1, startE_ok q, hS, h1, ?_⟩
      cases fl with
      | nx ρ' =>
        intro σ' m' H' s' hS' hE'
        obtain ⟨a1, a2, a3⟩ := finish_ok (r := .p .non) (v := .non) hS.len s' hS' (by simp [RepR, RepP]) trivial hf
        exact k .non H' ⟨⟨[], by simp, fun _ z => by cases z⟩, s'.keep, s'.dom, s'.fz⟩ a1 a2 a3
      | rt r1 =>
        intro v m' H' s' hS' q' o'
        obtain ⟨a1, a2, a3⟩ := finish_ok hS.len s' hS' q' o' hf
        exact k v H' ⟨⟨[], by simp, fun _ z => by cases z⟩, s'.keep, s'.dom, s'.fz⟩ a1 a2 a3
      | bk ρ' => cases hf
      | ct ρ' => cases hf
    · cases hf
end XL
end
section
set_option autoImplicit false
set_option linter.all false
namespace XL
/-! ### what the operators do on data -/
def pAdd : P → P → Option R
  | .int i, .int j => some (.p (.int (i + j)))
  | .str s, .str t => if s.length + t.length ≤ big then some (.p (.str (s ++ t))) else none
  | .lst xs, .lst ys => if xs.length + ys.length ≤ big then some (.frl (xs ++ ys)) else none
  | .tup xs, .tup ys => if xs.length + ys.length ≤ big then some (.p (.tup (xs ++ ys))) else none
  | _, _ => none
def pSub : P → P → Option R
  | .int i, .int j => some (.p (.int (i - j)))
  | _, _ => none
def lim64 : Int := 18446744073709551616
def pMul : P → P → Option R
  | .int i, .int j => if (-lim64 < i ∧ i < lim64) ∨ (-lim64 < j ∧ j < lim64) then some (.p (.int (i * j))) else none
  | .tup xs, .int k => if xs ≠ [] ∧ 2 ≤ k ∧ k ≤ 1000 ∧ xs.length ≤ 1000 then some (.p (.tup (List.replicate k.toNat xs).flatten)) else none
  | _, _ => none
def pDiv : P → P → Option R
  | .int i, .int j => if 0 < j ∧ j < 1073741824 then some (.p (.int (i / j))) else none
  | _, _ => none
def pMod : P → P → Option R
  | .int i, .int j => if 0 < j then some (.p (.int (i % j))) else none
  | _, _ => none
def pPow : P → P → Option R
  | .int i, .int j => if 0 ≤ j ∧ j ≤ 1000000 ∧ (i.natAbs : Int) < lim64 then some (.p (.int (i ^ j.toNat))) else none
  | _, _ => none
def pNeg : P → Option R
  | .int i => some (.p (.int (-i)))
  | _ => none
/-! data of one kind at every place, as far as both go -/
mutual
def P.alike : P → P → Bool
  | .non, .non => true
  | .bl _, .bl _ => true
  | .int _, .int _ => true
  | .str _, .str _ => true
  | .lst xs, .lst ys => P.alikes xs ys
  | .tup xs, .tup ys => P.alikes xs ys
  | _, _ => false
def P.alikes : List P → List P → Bool
  | x :: xs, y :: ys => P.alike x y && P.alikes xs ys
  | _, _ => true
end
def natLt : List Nat → List Nat → Bool
  | [], [] => false
  | [], _ :: _ => true
  | _ :: _, [] => false
  | x :: xs, y :: ys => if x = y then natLt xs ys else decide (x < y)
/-! x < y for data that are alike -/
mutual
def P.lt : P → P → Bool
  | .bl a, .bl b => !a && b
  | .int i, .int j => decide (i < j)
  | .str s, .str t => natLt s t
  | .lst xs, .lst ys => P.lts xs ys
  | .tup xs, .tup ys => P.lts xs ys
  | _, _ => false
def P.lts : List P → List P → Bool
  | [], [] => false
  | [], _ :: _ => true
  | _ :: _, [] => false
  | x :: xs, y :: ys => if P.pyeq x y then P.lts xs ys else P.lt x y
end
def cmpOk (p q : P) : Bool := P.alike p q && P.fit 60 p && P.fit 60 q && (match p with | .non => false | _ => true)
def pLt : P → P → Option R
  | .int i, .int j => some (.p (.bl (decide (i < j))))
  | p, q => if cmpOk p q then some (.p (.bl (P.lt p q))) else none
def pLe : P → P → Option R
  | .int i, .int j => some (.p (.bl (decide (i ≤ j))))
  | p, q => if cmpOk p q then some (.p (.bl (!P.lt q p))) else none
def pGt : P → P → Option R
  | .int i, .int j => some (.p (.bl (decide (j < i))))
  | p, q => if cmpOk p q then some (.p (.bl (P.lt q p))) else none
def pGe : P → P → Option R
  | .int i, .int j => some (.p (.bl (decide (j ≤ i))))
  | p, q => if cmpOk p q then some (.p (.bl (!P.lt p q))) else none
def pEq (p q : P) : Option R := if P.fit 60 p && P.fit 60 q then some (.p (.bl (P.pyeq p q))) else none
def pNe (p q : P) : Option R := if P.fit 60 p && P.fit 60 q then some (.p (.bl (!P.pyeq p q))) else none
/-- is, is not: None and truths alone -/
def pIs : P → P → Option R
  | .non, .non => some (.p (.bl true))
  | .bl a, .bl b => some (.p (.bl (decide (a = b))))
  | .lst _, .non => some (.p (.bl false))
  | .tup _, .non => some (.p (.bl false))
  | .int _, .non => some (.p (.bl false))
  | .str _, .non => some (.p (.bl false))
  | .bl _, .non => some (.p (.bl false))
  | _, _ => none
def pIsNot : P → P → Option R
  | .non, .non => some (.p (.bl false))
  | .bl a, .bl b => some (.p (.bl (!decide (a = b))))
  | .lst _, .non => some (.p (.bl true))
  | .tup _, .non => some (.p (.bl true))
  | .int _, .non => some (.p (.bl true))
  | .str _, .non => some (.p (.bl true))
  | .bl _, .non => some (.p (.bl true))
  | _, _ => none
def inData (x : P) (ys : List P) : Bool := ys.any fun y => P.pyeq y x
/-- one sign in a text; data in a list or tuple -/
def pIn : P → P → Option R
  | .str [c], .str t => some (.p (.bl (decide (c ∈ t))))
  | x, .lst ys => if P.fit 60 x && P.fit 60 (.lst ys) then some (.p (.bl (inData x ys))) else none
  | x, .tup ys => if P.fit 60 x && P.fit 60 (.tup ys) then some (.p (.bl (inData x ys))) else none
  | _, _ => none
def pNotIn : P → P → Option R
  | .str [c], .str t => some (.p (.bl (!decide (c ∈ t))))
  | x, .lst ys => if P.fit 60 x && P.fit 60 (.lst ys) then some (.p (.bl (!inData x ys))) else none
  | x, .tup ys => if P.fit 60 x && P.fit 60 (.tup ys) then some (.p (.bl (!inData x ys))) else none
  | _, _ => none
/-- o[i] -/
def pIx : P → P → Option R
  | .lst ds, .int i => (ixP ds.length i).bind fun k => ds[k]?.map fun d => .p d
  | .tup ds, .int i => (ixP ds.length i).bind fun k => ds[k]?.map fun d => .p d
  | .str s, .int i => if s.length ≤ big then (ixP s.length i).bind fun k => s[k]?.map fun c => .p (.str [c]) else none
  | _, _ => none
def isiInt : P → Bool
  | .int _ => true
  | .bl _ => true
  | _ => false
def isiBool : P → Bool
  | .bl _ => true
  | _ => false
def isiTuple : P → Bool
  | .tup _ => true
  | _ => false
def isiStr : P → Bool
  | .str _ => true
  | _ => false
def pIsi (f : P → Bool) (p : P) : Option R := some (.p (.bl (f p)))
/-! ### built-ins -/
def cLen : List P → Option R
  | [.lst ds] => some (.p (.int ds.length))
  | [.tup ds] => some (.p (.int ds.length))
  | [.str s] => if s.length ≤ big then some (.p (.int s.length)) else none
  | _ => none
def cInt : List P → Option R
  | [.int i] => some (.p (.int i))
  | [.bl b] => some (.p (.int (if b then 1 else 0)))
  | _ => none
def cTuple : List P → Option R
  | [.lst ds] => some (.p (.tup ds))
  | [.tup ds] => some (.p (.tup ds))
  | _ => none
def cList : List P → Option R
  | [.lst ds] => some (.frl ds)
  | [.tup ds] => some (.frl ds)
  | _ => none
def boolsOf : List P → Option (List Bool)
  | [] => some []
  | .bl b :: ds => (boolsOf ds).map fun bs => b :: bs
  | _ :: _ => none
def intsOf : List P → Option (List Int)
  | [] => some []
  | .int b :: ds => (intsOf ds).map fun bs => b :: bs
  | _ :: _ => none
def strsOf : List P → Option (List (List Nat))
  | [] => some []
  | .str b :: ds => (strsOf ds).map fun bs => b :: bs
  | _ :: _ => none
def cAll : List P → Option R
  | [.lst ds] => (boolsOf ds).map fun bs => .p (.bl (bs.all id))
  | _ => none
def cAny : List P → Option R
  | [.lst ds] => (boolsOf ds).map fun bs => .p (.bl (bs.any id))
  | _ => none
def cSum : List P → Option R
  | [.lst ds] => (intsOf ds).map fun bs => .p (.int bs.sum)
  | _ => none
def maxI : List Int → Int
  | [] => 0
  | [x] => x
  | x :: xs => let m := maxI xs; if x < m then m else x
def minI : List Int → Int
  | [] => 0
  | [x] => x
  | x :: xs => let m := minI xs; if m < x then m else x
def cMax : List P → Option R
  | [.lst ds] => (intsOf ds).bind fun bs => if bs = [] then none else some (.p (.int (maxI bs)))
  | [.int i, .int j] => some (.p (.int (if j > i then j else i)))
  | _ => none
def cMin : List P → Option R
  | [.lst ds] => (intsOf ds).bind fun bs => if bs = [] then none else some (.p (.int (minI bs)))
  | [.int i, .int j] => some (.p (.int (if j < i then j else i)))
  | _ => none
/-- put in by the order -/
def insP (x : P) : List P → List P
  | [] => [x]
  | y :: ys => if P.lt y x then y :: insP x ys else x :: y :: ys
def sortP : List P → List P
  | [] => []
  | x :: xs => insP x (sortP xs)
def allAlike : List P → Bool
  | [] => true
  | x :: xs => P.alike x x && xs.all (fun y => P.alike x y && P.alike y x) && allAlike xs
def fullTup : P → Bool
  | .tup (_ :: _) => true
  | _ => false
def noTup : P → Bool
  | .tup _ => false
  | .non => false
  | _ => true
def sortOk (ds : List P) : Bool := allAlike ds && ds.all (P.fit 60) && (ds.all fullTup || ds.all noTup) && decide (ds.length ≤ big)
def cSorted : List P → Option R
  | [.lst ds] => if sortOk ds then some (.frl (sortP ds)) else none
  | _ => none
/-- each datum of a list once, the last place kept -/
def dedupP : List P → List P
  | [] => []
  | x :: xs => if x ∈ xs then dedupP xs else x :: dedupP xs
def isIntP : P → Bool | .int _ => true | _ => false
def isStrP : P → Bool | .str _ => true | _ => false
def setOk (ds : List P) : Bool := (ds.all isIntP || ds.all isStrP) && decide (ds.length ≤ 4000)
def uSortedSet : P → Option R
  | .lst ds => if setOk ds then some (.frl (sortP (dedupP ds))) else none
  | _ => none
def uLenSet : P → Option R
  | .lst ds => if setOk ds then some (.p (.int (dedupP ds).length)) else none
  | _ => none
/-! ### methods -/
def idxIn (x : P) : List P → Option Nat
  | [] => none
  | y :: ys => if P.pyeq y x then some 0 else (idxIn x ys).map (· + 1)
def mIndex : P → List P → Option R
  | .lst ds, [x] => if P.fit 60 x && P.fit 60 (.lst ds) then (idxIn x ds).map (fun (j : Nat) => R.p (P.int (j : Int))) else none
  | _, _ => none
/-- the letters of A to Z as small ones; texts of ASCII alone -/
def lowC (c : Nat) : Nat := if 65 ≤ c ∧ c ≤ 90 then c + 32 else c
def mLower : P → List P → Option R
  | .str s, [] => if s.length ≤ 1000 ∧ s.all (fun c => decide (c < 128)) then some (.p (.str (s.map lowC))) else none
  | _, _ => none
def joinT (sep : List Nat) : List (List Nat) → List Nat
  | [] => []
  | [x] => x
  | x :: xs => x ++ sep ++ joinT sep xs
def mJoin : P → List P → Option R
  | .str s, [.lst ds] => (strsOf ds).bind fun ts => if (ts.map (·.length)).sum + ts.length * s.length ≤ big then some (.p (.str (joinT s ts))) else none
  | .str s, [.tup ds] => (strsOf ds).bind fun ts => if (ts.map (·.length)).sum + ts.length * s.length ≤ big then some (.p (.str (joinT s ts))) else none
  | _, _ => none
/-- a table of the module with texts as keys -/
abbrev Tab := List (List Nat × P)
def tabIn (t : Tab) : P → Option R
  | .str s => some (.p (.bl (t.lookup s).isSome))
  | _ => none
def tabGet (t : Tab) : P → Option R
  | .str s => (t.lookup s).map fun d => .p d
  | _ => none
def uListRng : P → Option R
  | .int n => if -1000 ≤ n ∧ n ≤ big then some (.frl ((List.range n.toNat).map fun i => P.int (i : Nat))) else none
  | _ => none
/-- what is walked: a text's signs, or the items of a list or a tuple -/
def xItA (a : XE) : XI := fun ρ S => match a ρ S with
  | some (.p (.str _), _) => xItS a ρ S
  | _ => xIt a ρ S
/-! ### dicts -/
def lookD (kvs : List (P × P)) (k : P) : Option P := (kvs.find? fun kv => decide (kv.1 = k)).map (·.2)
def putD (kvs : List (P × P)) (k v : P) : List (P × P) :=
  if (kvs.any fun kv => decide (kv.1 = k)) = true then kvs.map (fun kv => if kv.1 = k then (kv.1, v) else kv) else kvs ++ [(k, v)]
def keyOkP : P → Bool
  | .int _ => true
  | .str _ => true
  | _ => false
def keyOkT : P → Bool
  | .tup ds => ds.all keyOkP
  | _ => false
/-- a key of a dict: ints and texts, or (t) tuples of them -/
def keyOk (t : Bool) (k : P) : Bool := if t then keyOkT k else keyOkP k
/-- what a thing is, if it is a dict -/
def R.dict (S : Sto) : R → Option (Bool × List (P × P))
  | .ref l => match S[l]? with
    | some (.dct _ t kvs) => some (t, kvs)
    | _ => none
  | _ => none
/-- {} -/
def xNewD (t : Bool) : XE := fun _ S => some (.frd t [], S)
/-- o[i], o a dict with plain keys -/
def xGetD (o i : XE) : XE := fun ρ S => (o ρ S).bind fun x => (i ρ x.2).bind fun y => (x.1.dict y.2).bind fun d => (y.1.rd y.2).bind fun k =>
  if keyOk d.1 k then (lookD d.2 k).map fun v => (.p v, y.2) else none
/-- i in o, i not in o -/
def xInD (neg : Bool) (i o : XE) : XE := fun ρ S => (i ρ S).bind fun y => (o ρ y.2).bind fun x => (x.1.dict x.2).bind fun d => (y.1.rd x.2).bind fun k =>
  if keyOk d.1 k then some (.p (.bl (neg != (lookD d.2 k).isSome)), x.2) else none
/-- o[i] = e -/
def xPutD (e o i : XE) : XS := fun ρ S => (e ρ S).bind fun v => (o ρ v.2).bind fun x => (i ρ x.2).bind fun y => match x.1 with
  | .ref l => match y.2[l]? with
    | some (.dct false t kvs) => (v.1.fz).bind fun d => (y.1.rd y.2).bind fun k => if keyOk t k && decide (kvs.length < big) then some (.nx ρ, y.2.set l (.dct false t (putD kvs k d))) else none
    | _ => none
  | _ => none
def xLenD (o : XE) : XE := fun ρ S => (o ρ S).bind fun x => match x.1 with
  | .ref l => match x.2[l]? with
    | some (.dct false false kvs) => some (.p (.int kvs.length), x.2)
    | _ => none
  | _ => none
/-- sorted(o): the keys, texts alone -/
def xSortedD (o : XE) : XE := fun ρ S => (o ρ S).bind fun x => match x.1 with
  | .ref l => match x.2[l]? with
    | some (.dct false false kvs) => if (kvs.map (·.1)).all isStrP && decide (kvs.length < 64) then some (.frl (sortP (kvs.map (·.1))), x.2) else none
    | _ => none
  | _ => none
/-- a statement or an expression, run while the dict in slot i is locked -/
def xLockS (i : Nat) (x : XS) : XS := fun ρ S => match ρ[i]? with
  | some (some (.ref l)) => match S[l]? with
    | some (.dct false t kvs) => (x ρ (S.set l (.dct true t kvs))).bind fun y => if y.2[l]? = some (.dct true t kvs) then some (y.1, y.2.set l (.dct false t kvs)) else none
    | _ => none
  | _ => none
def xLockE (i : Nat) (x : XE) : XE := fun ρ S => match ρ[i]? with
  | some (some (.ref l)) => match S[l]? with
    | some (.dct false t kvs) => (x ρ (S.set l (.dct true t kvs))).bind fun y => if y.2[l]? = some (.dct true t kvs) then some (y.1, y.2.set l (.dct false t kvs)) else none
    | _ => none
  | _ => none
/-- the keys of the locked dict in slot i -/
def xItL (i : Nat) : XI := fun ρ S => match ρ[i]? with
  | some (some (.ref l)) => match S[l]? with
    | some (.dct true _ kvs) => some (kvs.map (·.1), some l, S)
    | _ => none
  | _ => none
/-- list(x): of a list, a tuple, a text -/
def cListA : List P → Option R
  | [.lst ds] => some (.frl ds)
  | [.tup ds] => some (.frl ds)
  | [.str s] => if s.length ≤ big then some (.frl (s.map fun c => .str [c])) else none
  | _ => none
/-- s.split(c), c one sign -/
def splitC (c : Nat) : List Nat → List Nat → List (List Nat)
  | acc, [] => [acc]
  | acc, x :: xs => if x = c then acc :: splitC c [] xs else splitC c (acc ++ [x]) xs
def mSplit : P → List P → Option R
  | .str s, [.str [c]] => if s.length ≤ big ∧ c < 128 then some (.frl ((splitC c [] s).map P.str)) else none
  | _, _ => none
/-- LETTERS.index(sign) -/
def lettersC : List Nat := [66, 68, 70, 77, 79, 83, 98, 100, 101, 102, 109, 111, 115]
def mIndexL : P → List P → Option R
  | .str s, [.str [c]] => if s = lettersC ∧ c ∈ lettersC then some (.p (.int (lettersC.idxOf c : Nat))) else none
  | _, _ => none
/-- a, b, .. = e, e a list -/
def xUnpL (is : List Nat) (a : XE) : XS := fun ρ S => (a ρ S).bind fun x => (x.1.rd x.2).bind fun d => match d with
  | .lst ds => (setAll is ds ρ).map fun ρ' => (.nx ρ', x.2)
  | _ => none
end XL
end
section
set_option Elab.async false
set_option linter.all false
set_option maxRecDepth 100000
set_option maxHeartbeats 1000000
namespace XL
open PySem L2 PyProof.Rows
/-! ### data as the library's data -/
mutual
def toPD : P → PyData
  | .non => .none
  | .bl b => .bool b
  | .int i => .int i
  | .str s => .str ⟨s.toArray⟩
  | .tup ds => .tuple (toPDs ds)
  | .lst ds => .list (toPDs ds)
def toPDs : List P → List PyData
  | [] => []
  | d :: ds => toPD d :: toPDs ds
end
theorem toPDs_map : ∀ ds : List P, toPDs ds = ds.map toPD
  | [] => by simp [toPDs]
  | d :: ds => by simp [toPDs, toPDs_map ds]
section
variable {K : PySem.W.Frag} {m : List Addr} {H : Hp}
mutual
theorem RepP.dp : ∀ (d : P) (v : V), RepP K m H d v → Dp K H v (toPD d)
  | .non, v, h => by simp only [RepP] at h; subst h; simp only [toPD]; exact .non
  | .bl b, v, h => by simp only [RepP] at h; subst h; simp only [toPD]; exact .bl b
  | .int b, v, h => by simp only [RepP] at h; subst h; simp only [toPD]; exact .int b
  | .str b, v, h => by simp only [RepP] at h; subst h; simp only [toPD]; exact .str _
  | .tup ds, v, h => by
    simp only [RepP] at h
    obtain ⟨a, vs, rfl, f, r⟩ := h
    simp only [toPD]
    exact .tup f.sq (RepPs.dp ds vs r)
  | .lst ds, v, h => by
    simp only [RepP] at h
    obtain ⟨a, vs, rfl, f, r⟩ := h
    simp only [toPD]
    exact .lst f.sq (RepPs.dp ds vs r)
theorem RepPs.dp : ∀ (ds : List P) (vs : List V), RepPs K m H ds vs → DpAll K H vs (toPDs ds)
  | [], vs, h => by simp only [RepPs] at h; subst h; simp only [toPDs]; exact .nil
  | d :: ds, vs, h => by
    simp only [RepPs] at h
    obtain ⟨v, r, rfl, h1, h2⟩ := h
    simp only [toPDs]
    exact .cons (RepP.dp d v h1) (RepPs.dp ds r h2)
end
theorem RdT.dp : ∀ {d : P} {v : V}, RdT K m H d v → Dp K H v (toPD d)
  | .non, v, h => RepP.dp (m := m) _ v h
  | .bl _, v, h => RepP.dp (m := m) _ v h
  | .int _, v, h => RepP.dp (m := m) _ v h
  | .str _, v, h => RepP.dp (m := m) _ v h
  | .tup _, v, h => RepP.dp (m := m) _ v h
  | .lst ds, v, h => by
    obtain ⟨a, vs, rfl, f, r⟩ := h
    simp only [toPD]
    exact .lst (.inl f) (RepPs.dp ds vs r)
end
theorem beqd {α : Type} [BEq α] [LawfulBEq α] [DecidableEq α] (a b : α) : (a == b) = decide (a = b) := by
  by_cases h : a = b
  · subst h; simp
  · rw [decide_eq_false h]; exact beq_eq_false_iff_ne.mpr h
mutual
theorem eqv_pyeq : ∀ (a b : P), PyData.eqv (toPD a) (toPD b) = P.pyeq a b
  | .non, b => by cases b <;> simp [toPD, PyData.eqv, P.pyeq]
  | .bl x, b => by cases b <;> simp [toPD, PyData.eqv, P.pyeq, beqd]
  | .int x, b => by cases b <;> simp [toPD, PyData.eqv, P.pyeq, beqd]
  | .str x, b => by
    cases b <;> simp [toPD, PyData.eqv, P.pyeq, beqd]
  | .tup xs, b => by
    cases b <;> simp [toPD, PyData.eqv, P.pyeq]
    exact eqvs_pyeq xs _
  | .lst xs, b => by
    cases b <;> simp [toPD, PyData.eqv, P.pyeq]
    exact eqvs_pyeq xs _
theorem eqvs_pyeq : ∀ (a b : List P), PyData.eqvAll (toPDs a) (toPDs b) = P.pyeqs a b
  | [], b => by cases b <;> simp [toPDs, PyData.eqvAll, P.pyeqs]
  | x :: xs, b => by
    cases b with
    | nil => simp [toPDs, PyData.eqvAll, P.pyeqs]
    | cons y ys => simp [toPDs, PyData.eqvAll, P.pyeqs, eqv_pyeq x y, eqvs_pyeq xs ys]
end
theorem fit_all : ∀ (n : Nat), (∀ (d : P), P.fit n d = true → PyData.canLay0 (toPD d) = true ∧ PyData.depth (toPD d) ≤ n) ∧ ∀ (ds : List P), ds.all (P.fit n) = true → PyData.canLayAll0 (toPDs ds) = true ∧ PyData.depthAll (toPDs ds) ≤ n := by
  intro n
  induction n with
  | zero =>
    have h1 : ∀ (d : P), P.fit 0 d = true → PyData.canLay0 (toPD d) = true ∧ PyData.depth (toPD d) ≤ 0 := fun d h => by
      cases d <;> simp [P.fit, toPD, PyData.canLay0, PyData.depth, PyData.strOk] at h ⊢
      exact h
    refine ⟨h1, fun ds => ?_⟩
    induction ds with
    | nil => intro _; simp [toPDs, PyData.canLayAll0, PyData.depthAll]
    | cons d ds ih =>
      intro h
      simp only [List.all_cons, Bool.and_eq_true] at h
      obtain ⟨a1, a2⟩ := h1 d h.1
      obtain ⟨b1, b2⟩ := ih h.2
      simp only [toPDs, PyData.canLayAll0, PyData.depthAll, a1, b1, Bool.and_self, true_and]
      omega
  | succ n ih =>
    have h1 : ∀ (d : P), P.fit (n + 1) d = true → PyData.canLay0 (toPD d) = true ∧ PyData.depth (toPD d) ≤ n + 1 := fun d h => by
      cases d with
      | tup ds =>
        simp only [P.fit] at h
        obtain ⟨a1, a2⟩ := ih.2 ds h
        simp only [toPD, PyData.canLay0, PyData.depth]
        exact ⟨a1, by omega⟩
      | lst ds =>
        simp only [P.fit] at h
        obtain ⟨a1, a2⟩ := ih.2 ds h
        simp only [toPD, PyData.canLay0, PyData.depth]
        exact ⟨a1, by omega⟩
      | str s =>
        simp [P.fit, toPD, PyData.canLay0, PyData.depth, PyData.strOk] at h ⊢
        exact h
      | _ => simp [toPD, PyData.canLay0, PyData.depth]
    refine ⟨h1, fun ds => ?_⟩
    induction ds with
    | nil => intro _; simp [toPDs, PyData.canLayAll0, PyData.depthAll]
    | cons d ds ih2 =>
      intro h
      simp only [List.all_cons, Bool.and_eq_true] at h
      obtain ⟨a1, a2⟩ := h1 d h.1
      obtain ⟨b1, b2⟩ := ih2 h.2
      simp only [toPDs, PyData.canLayAll0, PyData.depthAll, a1, b1, Bool.and_self, true_and]
      omega
theorem fit_shaped {d : P} (h : P.fit 60 d = true) : SeqAt.shaped (toPD d) = true := by
  obtain ⟨a, b⟩ := (fit_all 60).1 d h
  unfold SeqAt.shaped
  rw [a, decide_eq_true (by omega : PyData.depth (toPD d) ≤ 64)]
  rfl
/-! ### the order -/
mutual
theorem alike_pd : ∀ (a b : P), PySem.W.alike (toPD a) (toPD b) = P.alike a b
  | .non, b => by cases b <;> simp [toPD, PySem.W.alike, P.alike]
  | .bl x, b => by cases b <;> simp [toPD, PySem.W.alike, P.alike]
  | .int x, b => by cases b <;> simp [toPD, PySem.W.alike, P.alike]
  | .str x, b => by cases b <;> simp [toPD, PySem.W.alike, P.alike]
  | .tup xs, b => by
    cases b <;> simp [toPD, PySem.W.alike, P.alike]
    exact alikes_pd xs _
  | .lst xs, b => by
    cases b <;> simp [toPD, PySem.W.alike, P.alike]
    exact alikes_pd xs _
theorem alikes_pd : ∀ (a b : List P), PySem.W.alikeAll (toPDs a) (toPDs b) = P.alikes a b
  | [], b => by cases b <;> simp [toPDs, PySem.W.alikeAll, P.alikes]
  | x :: xs, b => by
    cases b with
    | nil => simp [toPDs, PySem.W.alikeAll, P.alikes]
    | cons y ys => simp [toPDs, PySem.W.alikeAll, P.alikes, alike_pd x y, alikes_pd xs ys]
end
theorem natLt_iff : ∀ (s t : List Nat), natLt s t = decide (s < t)
  | [], [] => by simp [natLt]
  | [], _ :: _ => by simp [natLt]
  | _ :: _, [] => by simp [natLt]
  | x :: xs, y :: ys => by
    simp only [natLt]
    by_cases c : x = y
    · subst c
      rw [if_pos rfl, natLt_iff xs ys]
      simp
    · rw [if_neg c]
      simp [List.cons_lt_cons_iff, c]
mutual
theorem lt_pd : ∀ (a b : P), P.alike a b = true → PySem.W.dataLt (toPD a) (toPD b) = P.lt a b
  | .non, b, h => by
    cases b <;> simp [P.alike] at h
    simp only [toPD, P.lt]
    exact PyProof.Rows.lex_irrefl _
  | .bl x, b, h => by
    cases b <;> simp [P.alike] at h
    rename_i y
    simp only [toPD, P.lt]
    rw [PySem.W.dataLt_bool]
    cases x <;> cases y <;> rfl
  | .int x, b, h => by
    cases b <;> simp [P.alike] at h
    simp only [toPD, P.lt]
    rw [PySem.W.dataLt_int]
  | .str x, b, h => by
    cases b <;> simp [P.alike] at h
    simp only [toPD, P.lt]
    rw [PySem.W.dataLt_str, natLt_iff]
  | .tup xs, b, h => by
    cases b <;> simp [P.alike] at h
    rename_i ys
    simp only [toPD, P.lt]
    rw [PySem.W.dataLt_tuple]
    exact lts_pd xs ys h
  | .lst xs, b, h => by
    cases b <;> simp [P.alike] at h
    rename_i ys
    simp only [toPD, P.lt]
    rw [PySem.W.dataLt_list]
    exact lts_pd xs ys h
theorem lts_pd : ∀ (a b : List P), P.alikes a b = true → PyProof.Rows.lexLt PyProof.Rows.itemOrd (PySem.W.keyToksAll (toPDs a)) (PySem.W.keyToksAll (toPDs b)) = P.lts a b
  | [], [], _ => by
    simp only [toPDs, P.lts]
    exact PyProof.Rows.lex_irrefl _
  | [], y :: ys, _ => by
    simp only [toPDs, P.lts]
    simp only [PySem.W.keyToksAll]
    exact (PyProof.Rows.lex_diff (O := PyProof.Rows.itemOrd) (by decide)).trans rfl
  | x :: xs, [], _ => by
    simp only [toPDs, P.lts]
    simp only [PySem.W.keyToksAll]
    exact (PyProof.Rows.lex_diff (O := PyProof.Rows.itemOrd) (by decide)).trans rfl
  | x :: xs, y :: ys, h => by
    simp only [P.alikes, Bool.and_eq_true] at h
    simp only [toPDs, P.lts]
    have ha : PySem.W.alike (toPD x) (toPD y) = true := by rw [alike_pd]; exact h.1
    cases e : P.pyeq x y with
    | true =>
      rw [if_pos rfl, PySem.W.dataLt_all_yes ha (by rw [eqv_pyeq]; exact e)]
      exact lts_pd xs ys h.2
    | false =>
      rw [if_neg (by simp), PySem.W.dataLt_all_no ha (by rw [eqv_pyeq]; exact e)]
      exact lt_pd x y h.1
end
end XL
end
section
set_option Elab.async false
set_option linter.all false
set_option maxRecDepth 100000
set_option maxHeartbeats 1000000
namespace XL
open PySem L2 PyProof.Rows
section
variable {X : Cx}
theorem opr_imp {f : Value → Value → Sem Value} {r : R2} {g : P → P → Option R} (h : OpR X f r) (w : ∀ x y H Q, rOf X.K g x y H Q → r x y H Q) : OpR X f (rOf X.K g) := fun pins s σ H x y v u Q I rx ry q => h pins s σ H x y v u Q I rx ry (w x y H Q q)
theorem op_catL : OpR X (binaryOp .Add) (fun x y H Q => ∃ l b xs zs, x = .ref l ∧ y = .ref b ∧ Rd H l (.lst xs) ∧ Rd H b (.lst zs) ∧ xs.length + zs.length ≤ sizeLine ∧ ∀ p, H p = none → Q (.ref p) (upd H p (.lst (xs ++ zs)))) := by
  intro pins s σ H x y v u Q I rx ry h
  obtain ⟨l, b, xs, zs, rfl, rfl, hH, hB, hz, q⟩ := h
  cases rx
  cases ry
  obtain ⟨z, its, n, r, e⟩ := hH.ok I.hok
  obtain ⟨z2, its2, n2, r2, e2⟩ := hB.ok I.hok
  have hl := r.length
  have hl2 := r2.length
  refine PySem.P.add_list e e2 ?_ (by rw [List.size_toArray, List.size_toArray]; omega)
  have ea : its.toArray ++ its2.toArray = (its ++ its2).toArray := by simp
  rw [ea]
  exact ⟨.ref _, _, I.lnew (t' := s.toks) (r.append r2) (by rw [List.length_append]; omega), rfl, q _ I.fresh⟩
theorem op_addX : OpR X (binaryOp .Add) (rOf X.K pAdd) := opr_imp (OpR.or op_add (OpR.or op_add_str (OpR.or op_catL op_catA))) fun x y H Q h => by
  obtain ⟨m, G, S, p, q, r, hS, hp, hq, hf, k⟩ := h
  unfold pAdd at hf
  split at hf
  · cases hf
    simp only [RdT, RepP] at hp hq
    subst hp hq
    exact .inl ⟨_, _, rfl, rfl, k _ H (Ext.refl _) (by simp [RepR, RepP]) trivial⟩
  · split at hf
    · rename_i hl
      cases hf
      simp only [RdT, RepP] at hp hq
      subst hp hq
      refine .inr (.inl ⟨_, _, rfl, rfl, ?_, k _ H (Ext.refl _) ?_ trivial⟩)
      · show _ + _ ≤ _
        simp only [Str.length, List.size_toArray]
        exact big_size hl
      · simp only [RepR, RepP, V.str.injEq]
        show Str.append _ _ = _
        simp [Str.append]
    · cases hf
  · split at hf
    · rename_i hl
      cases hf
      obtain ⟨a, vs, rfl, f1, r1⟩ := hp
      obtain ⟨b, ws, rfl, f2, r2⟩ := hq
      refine .inr (.inr (.inl ⟨a, b, vs, ws, rfl, rfl, f1, f2, ?_, fun p hp => ?_⟩))
      · rw [← r1.length, ← r2.length]; exact big_size hl
      · have e := Ext.new (o := .lst (vs ++ ws)) hp
        exact k _ _ e ⟨p, _, rfl, hS.fresh hp, upd_same, RepPs.step (Step.of_ext e) _ _ (r1.append r2)⟩ (own_new hS hp (r1.append r2))
    · cases hf
  · split at hf
    · rename_i xs ys hl
      cases hf
      simp only [RdT, RepP] at hp hq
      obtain ⟨a, vs, rfl, f1, r1⟩ := hp
      obtain ⟨b, ws, rfl, f2, r2⟩ := hq
      have l1 := r1.length
      have l2 := r2.length
      refine .inr (.inr (.inr ⟨a, b, vs, ws, rfl, rfl, f1.sq, f2.sq, ?_, fun e => ?_, fun e1 e2 => ?_, fun e1 e2 p hp => ?_⟩))
      · rw [← l1, ← l2]; exact big_size hl
      · subst e
        have : xs = [] := List.length_eq_zero_iff.mp (by simpa using l1)
        subst this
        exact k _ H (Ext.refl _) (by simp only [RepR, RepP]; exact ⟨b, ws, rfl, f2, by simpa using r2⟩) trivial
      · subst e2
        have : ys = [] := List.length_eq_zero_iff.mp (by simpa using l2)
        subst this
        exact k _ H (Ext.refl _) (by simp only [RepR, RepP]; exact ⟨a, vs, rfl, f1, by simpa using r1⟩) trivial
      · have e := Ext.new (o := .tup (vs ++ ws)) hp
        refine k _ _ e ?_ trivial
        simp only [RepR, RepP]
        exact ⟨p, _, rfl, ⟨upd_same, hS.fresh hp⟩, RepPs.step (Step.of_ext e) _ _ (r1.append r2)⟩
    · cases hf
  · cases hf
theorem op_subX : OpR X (binaryOp .Sub) (rOf X.K pSub) := opr_imp op_sub fun x y H Q h => by
  obtain ⟨m, G, S, p, q, r, hS, hp, hq, hf, k⟩ := h
  unfold pSub at hf
  split at hf
  · cases hf
    simp only [RdT, RepP] at hp hq
    subst hp hq
    exact ⟨_, _, rfl, rfl, k _ H (Ext.refl _) (by simp [RepR, RepP]) trivial⟩
  · cases hf
theorem op_mulX : OpR X (binaryOp .Mult) (rOf X.K pMul) := opr_imp (OpR.or op_mul op_repT) fun x y H Q h => by
  obtain ⟨m, G, S, p, q, r, hS, hp, hq, hf, k⟩ := h
  unfold pMul at hf
  split at hf
  · split at hf
    · rename_i hc
      cases hf
      simp only [RdT, RepP] at hp hq
      subst hp hq
      exact .inl ⟨_, _, rfl, rfl, hc, k _ H (Ext.refl _) (by simp [RepR, RepP]) trivial⟩
    · cases hf
  · split at hf
    · rename_i xs kk hc
      cases hf
      simp only [RdT, RepP] at hp hq
      subst hq
      obtain ⟨a, vs, rfl, f1, r1⟩ := hp
      have l1 := r1.length
      refine .inr ⟨a, kk, vs, rfl, rfl, f1.sq, fun e => hc.1 ?_, hc.2.1, hc.2.2.1, by omega, fun p hp => ?_⟩
      · subst e
        exact List.length_eq_zero_iff.mp (by simpa using l1)
      · have e := Ext.new (o := .tup (List.replicate kk.toNat vs).flatten) hp
        refine k _ _ e ?_ trivial
        simp only [RepR, RepP]
        refine ⟨p, _, rfl, ⟨upd_same, hS.fresh hp⟩, RepPs.step (Step.of_ext e) _ _ ?_⟩
        generalize kk.toNat = n
        induction n with
        | zero => exact RepPs.nil
        | succ n ih => simpa [List.replicate_succ] using r1.append ih
    · cases hf
  · cases hf
theorem op_divX : OpR X (binaryOp .FloorDiv) (rOf X.K pDiv) := opr_imp op_fdiv fun x y H Q h => by
  obtain ⟨m, G, S, p, q, r, hS, hp, hq, hf, k⟩ := h
  unfold pDiv at hf
  split at hf
  · split at hf
    · rename_i hc
      cases hf
      simp only [RdT, RepP] at hp hq
      subst hp hq
      exact ⟨_, _, rfl, rfl, hc, k _ H (Ext.refl _) (by simp [RepR, RepP]) trivial⟩
    · cases hf
  · cases hf
theorem op_modX : OpR X (binaryOp .Mod) (rOf X.K pMod) := opr_imp op_mod fun x y H Q h => by
  obtain ⟨m, G, S, p, q, r, hS, hp, hq, hf, k⟩ := h
  unfold pMod at hf
  split at hf
  · split at hf
    · rename_i hc
      cases hf
      simp only [RdT, RepP] at hp hq
      subst hp hq
      exact ⟨_, _, rfl, rfl, hc, k _ H (Ext.refl _) (by simp [RepR, RepP]) trivial⟩
    · cases hf
  · cases hf
theorem op_powX : OpR X (binaryOp .Pow) (rOf X.K pPow) := opr_imp op_pow fun x y H Q h => by
  obtain ⟨m, G, S, p, q, r, hS, hp, hq, hf, k⟩ := h
  unfold pPow at hf
  split at hf
  · split at hf
    · rename_i hc
      cases hf
      simp only [RdT, RepP] at hp hq
      subst hp hq
      have h3 := hc.2.2
      unfold lim64 at h3
      exact ⟨_, _, rfl, rfl, ⟨hc.1, hc.2.1, by omega⟩, k _ H (Ext.refl _) (by simp [RepR, RepP]) trivial⟩
    · cases hf
  · cases hf
theorem un_negX : UnR X (unaryOp .USub) (uOf X.K pNeg) := fun pins s σ H x v Q I rx h => by
  obtain ⟨m, G, S, p, r, hS, hp, hf, k⟩ := h
  unfold pNeg at hf
  split at hf
  · cases hf
    simp only [RdT, RepP] at hp
    subst hp
    exact un_neg pins s σ H _ v Q I rx ⟨_, rfl, k _ H (Ext.refl _) (by simp [RepR, RepP]) trivial⟩
  · cases hf
/-! ### comparisons -/
theorem notnone {p : P} (h : (match p with | .non => false | _ => true) = true) : toPD p ≠ .none := by
  cases p <;> simp [toPD] at h ⊢
theorem cmp_room {p q : P} {A : Around} (hu : A.units + 64 < cLine) (h : P.fit 60 p = true) : A.units + min (toPD p).depth (toPD q).depth < cLine := by
  have := ((fit_all 60).1 p h).2
  have := Nat.min_le_left (toPD p).depth (toPD q).depth
  omega
theorem cmp_of {p q : P} (h : cmpOk p q = true) : PySem.W.alike (toPD p) (toPD q) = true ∧ P.alike p q = true ∧ P.fit 60 p = true ∧ P.fit 60 q = true ∧ toPD p ≠ .none := by
  unfold cmpOk at h
  simp only [Bool.and_eq_true] at h
  exact ⟨by rw [alike_pd]; exact h.1.1.1, h.1.1.1, h.1.1.2, h.1.2, notnone h.2⟩
theorem alike_symm {p q : P} (h : P.alike p q = true) : P.alike q p = true := by
  rw [← alike_pd, PySem.W.alike_comm, alike_pd]; exact h
theorem op_ltX (hu : X.A.units + 64 < cLine) : OpR X (compareOp .Lt) (rOf X.K pLt) := fun pins s σ H x y v u Q I rx ry h => by
  obtain ⟨m, G, S, p, q, r, hS, hp, hq, hf, k⟩ := h
  unfold pLt at hf
  split at hf
  · cases hf
    simp only [RdT, RepP] at hp hq
    subst hp hq
    exact op_lt pins s σ H _ _ v u Q I rx ry ⟨_, _, rfl, rfl, k _ H (Ext.refl _) (by simp [RepR, RepP]) trivial⟩
  · split at hf
    · rename_i hc
      cases hf
      obtain ⟨c1, c2, c3, c4, c5⟩ := cmp_of hc
      obtain ⟨as, r1⟩ := Dp.reads I _ x v hp.dp rx
      obtain ⟨bs, r2⟩ := Dp.reads I _ y u hq.dp ry
      refine PySem.W.lt_data r1 r2 c1 c5 (cmp_room hu c3) ?_
      rw [lt_pd _ _ c2]
      exact ⟨.bl _, H, I, rfl, k _ H (Ext.refl _) (by simp [RepR, RepP]) trivial⟩
    · cases hf
theorem op_gtX (hu : X.A.units + 64 < cLine) : OpR X (compareOp .Gt) (rOf X.K pGt) := fun pins s σ H x y v u Q I rx ry h => by
  obtain ⟨m, G, S, p, q, r, hS, hp, hq, hf, k⟩ := h
  unfold pGt at hf
  split at hf
  · cases hf
    simp only [RdT, RepP] at hp hq
    subst hp hq
    exact op_gt pins s σ H _ _ v u Q I rx ry ⟨_, _, rfl, rfl, k _ H (Ext.refl _) (by simp [RepR, RepP]) trivial⟩
  · split at hf
    · rename_i hc
      cases hf
      obtain ⟨c1, c2, c3, c4, c5⟩ := cmp_of hc
      obtain ⟨as, r1⟩ := Dp.reads I _ x v hp.dp rx
      obtain ⟨bs, r2⟩ := Dp.reads I _ y u hq.dp ry
      refine PySem.W.gt_data r1 r2 c1 c5 (cmp_room hu c3) ?_
      rw [lt_pd _ _ (alike_symm c2)]
      exact ⟨.bl _, H, I, rfl, k _ H (Ext.refl _) (by simp [RepR, RepP]) trivial⟩
    · cases hf
theorem op_leX (hu : X.A.units + 64 < cLine) : OpR X (compareOp .LtE) (rOf X.K pLe) := fun pins s σ H x y v u Q I rx ry h => by
  obtain ⟨m, G, S, p, q, r, hS, hp, hq, hf, k⟩ := h
  unfold pLe at hf
  split at hf
  · cases hf
    simp only [RdT, RepP] at hp hq
    subst hp hq
    exact op_le pins s σ H _ _ v u Q I rx ry ⟨_, _, rfl, rfl, k _ H (Ext.refl _) (by simp [RepR, RepP]) trivial⟩
  · split at hf
    · rename_i hc
      cases hf
      obtain ⟨c1, c2, c3, c4, c5⟩ := cmp_of hc
      obtain ⟨as, r1⟩ := Dp.reads I _ x v hp.dp rx
      obtain ⟨bs, r2⟩ := Dp.reads I _ y u hq.dp ry
      refine PySem.W.le_data r1 r2 c1 c5 (cmp_room hu c3) ?_
      rw [lt_pd _ _ (alike_symm c2)]
      exact ⟨.bl _, H, I, rfl, k _ H (Ext.refl _) (by simp [RepR, RepP]) trivial⟩
    · cases hf
theorem op_geX (hu : X.A.units + 64 < cLine) : OpR X (compareOp .GtE) (rOf X.K pGe) := fun pins s σ H x y v u Q I rx ry h => by
  obtain ⟨m, G, S, p, q, r, hS, hp, hq, hf, k⟩ := h
  unfold pGe at hf
  split at hf
  · cases hf
    simp only [RdT, RepP] at hp hq
    subst hp hq
    exact op_ge pins s σ H _ _ v u Q I rx ry ⟨_, _, rfl, rfl, k _ H (Ext.refl _) (by simp [RepR, RepP]) trivial⟩
  · split at hf
    · rename_i hc
      cases hf
      obtain ⟨c1, c2, c3, c4, c5⟩ := cmp_of hc
      obtain ⟨as, r1⟩ := Dp.reads I _ x v hp.dp rx
      obtain ⟨bs, r2⟩ := Dp.reads I _ y u hq.dp ry
      refine PySem.W.ge_data r1 r2 c1 c5 (cmp_room hu c3) ?_
      rw [lt_pd _ _ c2]
      exact ⟨.bl _, H, I, rfl, k _ H (Ext.refl _) (by simp [RepR, RepP]) trivial⟩
    · cases hf
theorem op_eqX (hu : X.A.units + 64 < cLine) : OpR X (compareOp .Eq) (rOf X.K pEq) := opr_imp (op_eqD hu) fun x y H Q h => by
  obtain ⟨m, G, S, p, q, r, hS, hp, hq, hf, k⟩ := h
  unfold pEq at hf
  split at hf
  · rename_i hc
    simp only [Bool.and_eq_true] at hc
    cases hf
    refine ⟨_, _, hp.dp, hq.dp, fit_shaped hc.1, fit_shaped hc.2, ?_⟩
    rw [eqv_pyeq]
    exact k _ H (Ext.refl _) (by simp [RepR, RepP]) trivial
  · cases hf
theorem op_neX (hu : X.A.units + 64 < cLine) : OpR X (compareOp .NotEq) (rOf X.K pNe) := opr_imp (op_neD hu) fun x y H Q h => by
  obtain ⟨m, G, S, p, q, r, hS, hp, hq, hf, k⟩ := h
  unfold pNe at hf
  split at hf
  · rename_i hc
    simp only [Bool.and_eq_true] at hc
    cases hf
    refine ⟨_, _, hp.dp, hq.dp, fit_shaped hc.1, fit_shaped hc.2, ?_⟩
    rw [eqv_pyeq]
    exact k _ H (Ext.refl _) (by simp [RepR, RepP]) trivial
  · cases hf
end
end XL
end
section
set_option Elab.async false
set_option linter.all false
set_option maxRecDepth 100000
set_option maxHeartbeats 1000000
namespace XL
open PySem L2 PyProof.Rows
/-! ### in, not in, o[i] -/
section
variable {X : Cx}
theorem room_in {n : Nat} {e : P} {A : Around} (hu : A.units + 65 < cLine) (h : P.fit 60 e = true) : A.units + 1 + min n (toPD e).depth < cLine := by
  have := ((fit_all 60).1 e h).2
  have := Nat.min_le_right n (toPD e).depth
  omega
theorem any_pd (x : P) : ∀ ys : List P, ((toPDs ys).any fun z => PyData.eqv z (toPD x)) = inData x ys
  | [] => by simp [toPDs, inData]
  | y :: ys => by
    have ih := any_pd x ys
    simp only [toPDs, List.any_cons, inData, eqv_pyeq] at ih ⊢
    rw [ih]
theorem op_inX (hu : X.A.units + 65 < cLine) : OpR X (compareOp .In) (rOf X.K pIn) := fun pins s σ H x y v u Q I rx ry h => by
  obtain ⟨m, G, S, p, q, r, hS, hp, hq, hf, k⟩ := h
  unfold pIn at hf
  split at hf
  · cases hf
    simp only [RdT, RepP] at hp hq
    subst hp hq
    exact op_in_sign pins s σ H _ _ v u Q I rx ry ⟨_, _, rfl, rfl, k _ H (Ext.refl _) (by simp [RepR, RepP]) trivial⟩
  · split at hf
    · rename_i hc
      simp only [Bool.and_eq_true] at hc
      cases hf
      obtain ⟨as, r1⟩ := Dp.reads I _ x v hp.dp rx
      obtain ⟨bs, r2⟩ := Dp.reads I _ y u hq.dp ry
      have c2 := (fit_all 60).1 _ hc.2
      simp only [toPD, PyData.canLay0] at r2 c2
      refine SeqAt.in_list_reads r2 r1 c2.1 ((fit_all 60).1 _ hc.1).1 (room_in hu hc.1) ?_
      rw [any_pd]
      exact ⟨.bl _, H, I, rfl, k _ H (Ext.refl _) (by simp [RepR, RepP]) trivial⟩
    · cases hf
  · split at hf
    · rename_i hc
      simp only [Bool.and_eq_true] at hc
      cases hf
      obtain ⟨as, r1⟩ := Dp.reads I _ x v hp.dp rx
      obtain ⟨bs, r2⟩ := Dp.reads I _ y u hq.dp ry
      have c2 := (fit_all 60).1 _ hc.2
      simp only [toPD, PyData.canLay0] at r2 c2
      refine SeqAt.in_tuple_reads r2 r1 c2.1 ((fit_all 60).1 _ hc.1).1 (room_in hu hc.1) ?_
      rw [any_pd]
      exact ⟨.bl _, H, I, rfl, k _ H (Ext.refl _) (by simp [RepR, RepP]) trivial⟩
    · cases hf
  · cases hf
theorem op_notInX (hu : X.A.units + 65 < cLine) : OpR X (compareOp .NotIn) (rOf X.K pNotIn) := fun pins s σ H x y v u Q I rx ry h => by
  obtain ⟨m, G, S, p, q, r, hS, hp, hq, hf, k⟩ := h
  unfold pNotIn at hf
  split at hf
  · cases hf
    simp only [RdT, RepP] at hp hq
    subst hp hq
    exact op_notIn_sign pins s σ H _ _ v u Q I rx ry ⟨_, _, rfl, rfl, k _ H (Ext.refl _) (by simp [RepR, RepP]) trivial⟩
  · split at hf
    · rename_i hc
      simp only [Bool.and_eq_true] at hc
      cases hf
      obtain ⟨as, r1⟩ := Dp.reads I _ x v hp.dp rx
      obtain ⟨bs, r2⟩ := Dp.reads I _ y u hq.dp ry
      have c2 := (fit_all 60).1 _ hc.2
      simp only [toPD, PyData.canLay0] at r2 c2
      refine SeqAt.notIn_list_reads r2 r1 c2.1 ((fit_all 60).1 _ hc.1).1 (room_in hu hc.1) ?_
      rw [any_pd]
      exact ⟨.bl _, H, I, rfl, k _ H (Ext.refl _) (by simp [RepR, RepP]) trivial⟩
    · cases hf
  · split at hf
    · rename_i hc
      simp only [Bool.and_eq_true] at hc
      cases hf
      obtain ⟨as, r1⟩ := Dp.reads I _ x v hp.dp rx
      obtain ⟨bs, r2⟩ := Dp.reads I _ y u hq.dp ry
      have c2 := (fit_all 60).1 _ hc.2
      simp only [toPD, PyData.canLay0] at r2 c2
      refine SeqAt.notIn_tuple_reads r2 r1 c2.1 ((fit_all 60).1 _ hc.1).1 (room_in hu hc.1) ?_
      rw [any_pd]
      exact ⟨.bl _, H, I, rfl, k _ H (Ext.refl _) (by simp [RepR, RepP]) trivial⟩
    · cases hf
  · cases hf
theorem ixP_ixN (n : Nat) (i : Int) : ixP n i = ixN n i := by
  unfold ixP ixN
  by_cases h : 0 ≤ i
  · rw [if_pos h, if_pos h]
    by_cases c : i.toNat < n
    · first | rfl | (rw [if_pos c]; split <;> first | rfl | omega) | (simp [c]; omega)
    · first | rfl | (rw [if_neg c]; split <;> first | rfl | omega) | (simp [c]; omega)
  · rw [if_neg h, if_neg h]
    by_cases c : (-i).toNat ≤ n
    · first | rfl | (rw [if_pos c]; split <;> first | rfl | (congr 1; omega) | omega) | (simp [c]; omega)
    · first | rfl | (rw [if_neg c]; split <;> first | rfl | omega) | (simp [c]; omega)
theorem ix_X : IxR X (rOf X.K pIx) := fun value slice pins s σ H x y v u Q I rx ry h hs => by
  obtain ⟨m, G, S, p, q, r, hS, hp, hq, hf, k⟩ := h
  refine ix_seq value slice pins s σ H x y v u Q I rx ry ?_ hs
  unfold pIx at hf
  split at hf
  · simp only [Option.bind_eq_some_iff, Option.map_eq_some_iff] at hf
    obtain ⟨j, hj, d, hd, e⟩ := hf
    cases e
    obtain ⟨a, vs, rfl, f, r⟩ := hp
    simp only [RdT, RepP] at hq
    subst hq
    obtain ⟨w, hw, qw⟩ := r.get hd
    refine .inl ⟨a, vs, _, w, rfl, rfl, .inl f, ?_, k w H (Ext.refl _) qw trivial⟩
    unfold atI
    rw [← ixP_ixN, ← r.length, hj]
    exact hw
  · simp only [Option.bind_eq_some_iff, Option.map_eq_some_iff] at hf
    obtain ⟨j, hj, d, hd, e⟩ := hf
    cases e
    simp only [RdT, RepP] at hp hq
    subst hq
    obtain ⟨a, vs, rfl, f, r⟩ := hp
    obtain ⟨w, hw, qw⟩ := r.get hd
    refine .inr (.inl ⟨a, vs, _, w, rfl, rfl, f.sq, ?_, k w H (Ext.refl _) qw trivial⟩)
    unfold atI
    rw [← ixP_ixN, ← r.length, hj]
    exact hw
  · split at hf
    · rename_i hb
      simp only [Option.bind_eq_some_iff, Option.map_eq_some_iff] at hf
      obtain ⟨j, hj, d, hd, e⟩ := hf
      cases e
      simp only [RdT, RepP] at hp hq
      subst hp hq
      refine .inr (.inr ⟨_, _, d, rfl, rfl, ?_, ?_, k _ H (Ext.refl _) (by simp [RepR, RepP]) trivial⟩)
      · simp only [Str.length, List.size_toArray]; exact big_size hb
      · unfold atI
        rw [← ixP_ixN]
        simp only [hj]
        exact hd
    · cases hf
  · cases hf
theorem xe_ix {a b : Expr} {xa xb : XE} {pos : Pos} (ha : PE X a (tOf X.K xa)) (hb : PE X b (tOf X.K xb)) (hs : PlainIx b) : PE X (.Subscript a b pos) (tOf X.K (xBin pIx xa xb)) := PE.imp (pe_ix ix_X ha hb hs) fun σ H Q h => tOf.bin h
end
/-! ### built-ins -/
section
variable {X : Cx} {e : Expr} {es : List Expr} {xs : XA} {x : Str} {p pos : Pos} {id T : String} {f : List P → Option R}
theorem xe_callB (hc : CallR X (.builtin id) (cOf X.K f)) (hg : Gl X x) (hm : X.mg x = none) (hv : bootBuiltins x = some (.builtin id)) (ha : PA X (e :: es) (tOfA X.K xs)) (hn : x ≠ "__name__" := by decide) (hdb : (x == ("__debug__" : Str)) = false := by decide)
    (he : starEach (e :: es) X.env = (false, eval e X.env) :: starEach es X.env := by rfl) (hpl : (backTo pos (starEach es X.env)).any (·.1) = false := by rfl) : PE X (.Call (.Name x p) (e :: es) [] pos) (tOf X.K (xCall f xs)) :=
  PE.imp (pe_callB hc hg hm hv ha hn hdb he hpl) fun σ H Q h => tOf.call h
theorem xe_callTy (hc : CallR X (.type T) (cOf X.K f)) (hg : Gl X x) (hm : X.mg x = none) (hv : bootBuiltins x = some (.type T)) (ha : PA X (e :: es) (tOfA X.K xs)) (hn : x ≠ "__name__" := by decide) (hdb : (x == ("__debug__" : Str)) = false := by decide)
    (he : starEach (e :: es) X.env = (false, eval e X.env) :: starEach es X.env := by rfl) (hpl : (backTo pos (starEach es X.env)).any (·.1) = false := by rfl) : PE X (.Call (.Name x p) (e :: es) [] pos) (tOf X.K (xCall f xs)) :=
  PE.imp (pe_callTy hc hg hm hv ha hn hdb he hpl) fun σ H Q h => tOf.call h
theorem callr_imp {g : Value} {r : List V → Hp → VK → Prop} (h : CallR X g r) (w : ∀ vs H Q, cOf X.K f vs H Q → r vs H Q) : CallR X g (cOf X.K f) := fun pins s σ H vs us Q I rv q => h pins s σ H vs us Q I rv (w vs H Q q)
theorem one_arg {K : PySem.W.Frag} {m : List Addr} {H : Hp} {d : P} {vs : List V} (h : RdTs K m H [d] vs) : ∃ v, vs = [v] ∧ RdT K m H d v := by
  obtain ⟨v, r, rfl, q, e⟩ := h
  simp only [RdTs] at e
  subst e
  exact ⟨v, rfl, q⟩
theorem two_args {K : PySem.W.Frag} {m : List Addr} {H : Hp} {d d2 : P} {vs : List V} (h : RdTs K m H [d, d2] vs) : ∃ v w, vs = [v, w] ∧ RdT K m H d v ∧ RdT K m H d2 w := by
  obtain ⟨v, r, rfl, q, w, r2, rfl, q2, e⟩ := h
  simp only [RdTs] at e
  subst e
  exact ⟨v, w, rfl, q, q2⟩
theorem cr_len : CallR X (.builtin "len") (cOf X.K cLen) := callr_imp call_len fun vs H Q h => by
  obtain ⟨m, G, S, ps, r, hS, hp, hf, k⟩ := h
  unfold cLen at hf
  split at hf
  · cases hf
    obtain ⟨v, rfl, a, ws, rfl, f, r⟩ := one_arg hp
    refine ⟨_, _, rfl, .inl ⟨ws, .inl f, rfl⟩, ?_⟩
    rw [← r.length]
    exact k _ H (Ext.refl _) (by simp [RepR, RepP]) trivial
  · cases hf
    obtain ⟨v, rfl, q⟩ := one_arg hp
    simp only [RdT, RepP] at q
    obtain ⟨a, ws, rfl, f, r⟩ := q
    refine ⟨_, _, rfl, .inr ⟨ws, f.sq, rfl⟩, ?_⟩
    rw [← r.length]
    exact k _ H (Ext.refl _) (by simp [RepR, RepP]) trivial
  · split at hf
    · rename_i hb
      cases hf
      obtain ⟨v, rfl, q⟩ := one_arg hp
      simp only [RdT, RepP] at q
      subst q
      rename_i s
      exact ⟨_, s.length, rfl, ⟨by simp only [Str.length, List.size_toArray]; exact big_size hb, by simp only [Str.length, List.size_toArray]⟩, k _ H (Ext.refl _) (by simp [RepR, RepP]) trivial⟩
    · cases hf
  · cases hf
theorem cr_int : CallR X (.type "int") (cOf X.K cInt) := callr_imp call_int1 fun vs H Q h => by
  obtain ⟨m, G, S, ps, r, hS, hp, hf, k⟩ := h
  unfold cInt at hf
  split at hf
  · cases hf
    obtain ⟨v, rfl, q⟩ := one_arg hp
    simp only [RdT, RepP] at q
    subst q
    exact .inl ⟨_, rfl, k _ H (Ext.refl _) (by simp [RepR, RepP]) trivial⟩
  · cases hf
    obtain ⟨v, rfl, q⟩ := one_arg hp
    simp only [RdT, RepP] at q
    subst q
    exact .inr ⟨_, rfl, k _ H (Ext.refl _) (by simp [RepR, RepP]) trivial⟩
  · cases hf
theorem cr_tuple : CallR X (.type "tuple") (cOf X.K cTuple) := callr_imp call_tuple_of fun vs H Q h => by
  obtain ⟨m, G, S, ps, r, hS, hp, hf, k⟩ := h
  unfold cTuple at hf
  split at hf
  · cases hf
    obtain ⟨v, rfl, a, ws, rfl, f, r⟩ := one_arg hp
    refine ⟨a, ws, rfl, .inl ⟨.inl f, fun p hp => ?_⟩⟩
    have e := Ext.new (o := .tup ws) hp
    refine k _ _ e ?_ trivial
    simp only [RepR, RepP]
    exact ⟨p, ws, rfl, ⟨upd_same, hS.fresh hp⟩, RepPs.step (Step.of_ext e) _ _ r⟩
  · cases hf
    obtain ⟨v, rfl, q⟩ := one_arg hp
    simp only [RdT, RepP] at q
    obtain ⟨a, ws, rfl, f, r⟩ := q
    refine ⟨a, ws, rfl, .inr ⟨f.sq, k _ H (Ext.refl _) ?_ trivial⟩⟩
    simp only [RepR, RepP]
    exact ⟨a, ws, rfl, f, r⟩
  · cases hf
theorem cr_list : CallR X (.type "list") (cOf X.K cList) := callr_imp call_list_of fun vs H Q h => by
  obtain ⟨m, G, S, ps, r, hS, hp, hf, k⟩ := h
  unfold cList at hf
  split at hf
  · cases hf
    obtain ⟨v, rfl, a, ws, rfl, f, r⟩ := one_arg hp
    refine ⟨a, ws, rfl, .inl (.inl f), fun p hp => ?_⟩
    have e := Ext.new (o := .lst ws) hp
    exact k _ _ e ⟨p, ws, rfl, hS.fresh hp, upd_same, RepPs.step (Step.of_ext e) _ _ r⟩ (own_new hS hp r)
  · cases hf
    obtain ⟨v, rfl, q⟩ := one_arg hp
    simp only [RdT, RepP] at q
    obtain ⟨a, ws, rfl, f, r⟩ := q
    refine ⟨a, ws, rfl, .inr f.sq, fun p hp => ?_⟩
    have e := Ext.new (o := .lst ws) hp
    exact k _ _ e ⟨p, ws, rfl, hS.fresh hp, upd_same, RepPs.step (Step.of_ext e) _ _ r⟩ (own_new hS hp r)
  · cases hf
theorem ints_v {K : PySem.W.Frag} {m : List Addr} {H : Hp} : ∀ {ds : List P} {bs : List Int} {vs : List V}, intsOf ds = some bs → RepPs K m H ds vs → vs = bs.map V.int
  | [], bs, vs, h, q => by simp only [intsOf, Option.some.injEq] at h; subst h; simp only [RepPs] at q; subst q; rfl
  | .int b :: ds, bs, vs, h, q => by
    simp only [intsOf, Option.map_eq_some_iff] at h
    obtain ⟨cs, h, rfl⟩ := h
    simp only [RepPs, RepP] at q
    obtain ⟨v, r, rfl, rfl, q⟩ := q
    rw [ints_v h q]; rfl
  | .non :: _, _, _, h, _ => by simp [intsOf] at h
  | .bl _ :: _, _, _, h, _ => by simp [intsOf] at h
  | .str _ :: _, _, _, h, _ => by simp [intsOf] at h
  | .tup _ :: _, _, _, h, _ => by simp [intsOf] at h
  | .lst _ :: _, _, _, h, _ => by simp [intsOf] at h
theorem maxI_spec : ∀ (l : List Int), l ≠ [] → maxI l ∈ l ∧ ∀ y ∈ l, y ≤ maxI l
  | [], h => absurd rfl h
  | [x], _ => by simp [maxI]
  | x :: y :: ys, _ => by
    obtain ⟨h1, h2⟩ := maxI_spec (y :: ys) (by simp)
    simp only [maxI] at h1 h2 ⊢
    split
    · rename_i c
      exact ⟨List.mem_cons_of_mem _ h1, fun z hz => by
        rcases List.mem_cons.mp hz with rfl | hz
        · omega
        · exact h2 z hz⟩
    · rename_i c
      exact ⟨by simp, fun z hz => by
        rcases List.mem_cons.mp hz with rfl | hz
        · omega
        · have := h2 z hz; omega⟩
theorem minI_spec : ∀ (l : List Int), l ≠ [] → minI l ∈ l ∧ ∀ y ∈ l, minI l ≤ y
  | [], h => absurd rfl h
  | [x], _ => by simp [minI]
  | x :: y :: ys, _ => by
    obtain ⟨h1, h2⟩ := minI_spec (y :: ys) (by simp)
    simp only [minI] at h1 h2 ⊢
    split
    · rename_i c
      exact ⟨List.mem_cons_of_mem _ h1, fun z hz => by
        rcases List.mem_cons.mp hz with rfl | hz
        · omega
        · exact h2 z hz⟩
    · rename_i c
      exact ⟨by simp, fun z hz => by
        rcases List.mem_cons.mp hz with rfl | hz
        · omega
        · have := h2 z hz; omega⟩
theorem cr_maxX (hc : X.calm = true) : CallR X (.builtin "max") (cOf X.K cMax) := callr_imp (CallR.or (cr_max hc) (call_max2 hc)) fun vs H Q h => by
  obtain ⟨m, G, S, ps, r, hS, hp, hf, k⟩ := h
  unfold cMax at hf
  split at hf
  · simp only [Option.bind_eq_some_iff] at hf
    obtain ⟨bs, hb, e⟩ := hf
    split at e
    · cases e
    · rename_i hne
      cases e
      obtain ⟨v, rfl, a, ws, rfl, f, r⟩ := one_arg hp
      have e := ints_v hb r
      subst e
      obtain ⟨s1, s2⟩ := maxI_spec bs hne
      refine .inl ⟨a, bs, rfl, .inl f, List.length_pos_iff.mpr hne, fun z hz hy => ?_⟩
      have : z = maxI bs := Int.le_antisymm (s2 z hz) (hy _ s1)
      subst this
      exact k _ H (Ext.refl _) (by simp [RepR, RepP]) trivial
  · cases hf
    obtain ⟨v, w, rfl, q1, q2⟩ := two_args hp
    simp only [RdT, RepP] at q1 q2
    subst q1 q2
    exact .inr ⟨_, _, rfl, k _ H (Ext.refl _) (by simp [RepR, RepP]) trivial⟩
  · cases hf
theorem cr_minX (hc : X.calm = true) : CallR X (.builtin "min") (cOf X.K cMin) := callr_imp (CallR.or (cr_min hc) (call_min2 hc)) fun vs H Q h => by
  obtain ⟨m, G, S, ps, r, hS, hp, hf, k⟩ := h
  unfold cMin at hf
  split at hf
  · simp only [Option.bind_eq_some_iff] at hf
    obtain ⟨bs, hb, e⟩ := hf
    split at e
    · cases e
    · rename_i hne
      cases e
      obtain ⟨v, rfl, a, ws, rfl, f, r⟩ := one_arg hp
      have e := ints_v hb r
      subst e
      obtain ⟨s1, s2⟩ := minI_spec bs hne
      refine .inl ⟨a, bs, rfl, .inl f, List.length_pos_iff.mpr hne, fun z hz hy => ?_⟩
      have : z = minI bs := Int.le_antisymm (hy _ s1) (s2 z hz)
      subst this
      exact k _ H (Ext.refl _) (by simp [RepR, RepP]) trivial
  · cases hf
    obtain ⟨v, w, rfl, q1, q2⟩ := two_args hp
    simp only [RdT, RepP] at q1 q2
    subst q1 q2
    exact .inr ⟨_, _, rfl, k _ H (Ext.refl _) (by simp [RepR, RepP]) trivial⟩
  · cases hf
end
end XL
end
section
set_option Elab.async false
set_option linter.all false
set_option maxRecDepth 100000
set_option maxHeartbeats 3200000
namespace XL
open PySem L2 PyProof.Rows
/-! ### sets of ints and texts, made of a list -/
def keyV : Value → Option Key
  | .int k _ => some (.inl k)
  | .str x _ => some (.inr x)
  | _ => none
theorem keyV_is {k : Key} {v : Value} : keyV v = some k ↔ keyIs k v = true := by
  constructor
  · intro h
    cases v <;> simp [keyV] at h <;> subst h <;> simp [keyIs, Value.isInt, Value.isStrOf]
  · intro h
    rcases keyIs_shape h with ⟨i, t, rfl, rfl⟩ | ⟨x, t, rfl, rfl⟩ <;> rfl
theorem keyV_scan {k : Key} {v : Value} (h : keyV v = some k) : v.scannable = true := by
  cases v <;> simp [keyV] at h <;> rfl
/-- the entry of a key -/
def EntK (w : World) (e : Int × Value) (k : Key) : Prop := keyV e.2 = some k ∧ e.1 = keyH w k
/-- a set at a whose keys are ks, in some order -/
def SetM (w : World) (h : Heap) (a : Addr) (ks : List Key) : Prop :=
  ∃ o es ep t kk, h.get? a = some o ∧ o.ExactSet ∧ o.data = .set es ep t ∧ Paired (EntK w) es.toList kk ∧ kk.Perm ks ∧ ks.Nodup ∧ es.size < scanBound ∧ t.fits es.size = true ∧ Ris t.place.toList ∧ (w.params.followText "set-order" = true ∨ t.led = true)
section
variable {Pg : Program} {w : World}
theorem paired_mem {α β : Type} {F : α → β → Prop} : ∀ {l : List α} {k : List β} {x : α}, Paired F l k → x ∈ l → ∃ y ∈ k, F x y
  | _, _, _, .cons r t, h => by
    rcases List.mem_cons.mp h with rfl | h
    · exact ⟨_, List.mem_cons_self, r⟩
    · obtain ⟨y, hy, q⟩ := paired_mem t h
      exact ⟨y, List.mem_cons_of_mem _ hy, q⟩
theorem paired_mem2 {α β : Type} {F : α → β → Prop} : ∀ {l : List α} {k : List β} {y : β}, Paired F l k → y ∈ k → ∃ x ∈ l, F x y
  | _, _, _, .cons r t, h => by
    rcases List.mem_cons.mp h with rfl | h
    · exact ⟨_, List.mem_cons_self, r⟩
    · obtain ⟨y, hy, q⟩ := paired_mem2 t h
      exact ⟨y, List.mem_cons_of_mem _ hy, q⟩
theorem paired_len {α β : Type} {F : α → β → Prop} : ∀ {l : List α} {k : List β}, Paired F l k → l.length = k.length
  | _, _, .nil => rfl
  | _, _, .cons _ t => by simp [paired_len t]
theorem paired_perm {α β : Type} {F : α → β → Prop} {l l' : List α} (p : l'.Perm l) : ∀ {k : List β}, Paired F l k → ∃ k', Paired F l' k' ∧ k'.Perm k := by
  induction p with
  | nil => intro k h; exact ⟨k, h, List.Perm.refl _⟩
  | cons x _ ih =>
    intro k h
    cases h with
    | cons r t => obtain ⟨k', h1, h2⟩ := ih t; exact ⟨_, .cons r h1, h2.cons _⟩
  | swap x y l =>
    intro k h
    cases h with
    | cons r t => cases t with | cons r2 t => exact ⟨_, .cons r2 (.cons r t), List.Perm.swap _ _ _⟩
  | trans _ _ ih1 ih2 =>
    intro k h
    obtain ⟨k2, h2, p2⟩ := ih2 h
    obtain ⟨k1, h1, p1⟩ := ih1 h2
    exact ⟨k1, h1, p1.trans p2⟩
theorem entK_elems {l : List (Int × Value)} {kk : List Key} (h : Paired (EntK w) l kk) : ElemsOf (mixKind Pg w) l := fun e he => by
  obtain ⟨k, _, h1, h2⟩ := paired_mem h he
  exact ⟨⟨k, keyV_is.mp h1, h2⟩, keyV_scan h1⟩
end
section
variable {Pg : Program} {w : World} {A : Around} {E : Value → Shared → Prop} {s : Shared} {a : Addr}
/-- what is stored, and laid anew if it is too full -/
theorem setM_tail {g : Bool → Sem Unit} (hg : ∀ (b : Bool) (s₁ : Shared) (Q' : Unit → Shared → Prop), Q' () s₁ → wpAny (model Pg w) A (g b) Q' E s₁) {o : Obj} {es es1 : Array (Int × Value)} {ep : Nat} {t t2 : SetTable} {kk ks : List Key}
    (ho : s.heap.get? a = some o) (hex : o.ExactSet) (hd : o.data = .set es ep t) (hp : Paired (EntK w) es1.toList kk) (pm : kk.Perm ks) (nd : ks.Nodup) (hb : es1.size < scanBound) (hf : t2.fits es1.size = true) (hr : Ris t2.place.toList)
    (hl : w.params.followText "set-order" = true ∨ t2.led = true) {dm : Bool} {R : Option Bool → Shared → Prop} (hR : ∀ h', Heap.SameBut a s.heap h' → SetM w h' a ks → R (some true) { s with heap := h' }) :
    wpAny (model Pg w) A (do
        storeSet a es1 t2
        if (!dm && t2.tooFull) = true then do
            g (relayAll t2 es1 (SetTable.grown es1.size)).2.2
            storeSet a (relayAll t2 es1 (SetTable.grown es1.size)).1 (relayAll t2 es1 (SetTable.grown es1.size)).2.1
            pure (some true)
          else pure (some true)) R E s := by
  refine wpAny_bind (wpAny_storeSet_of ho hd ?_ (fits_of_scanBound hb))
  have o1 := store_at (es' := es1) (t' := t2) ho hd
  have b1 := Heap.SameBut.update s.heap a (Obj.putSet es1 t2)
  split
  · have q1 := relayAll_perm t2 es1 (SetTable.grown es1.size)
    have q2 := relayAll_fits t2 es1 (SetTable.grown es1.size)
    have q3 := relayAll_ris t2 es1 (SetTable.grown es1.size)
    have q4 := relayAll_led t2 es1 (SetTable.grown es1.size)
    revert q1 q2 q3 q4
    generalize relayAll t2 es1 (SetTable.grown es1.size) = Z
    obtain ⟨es2, t3, gv⟩ := Z
    intro q1 q2 q3 q4
    dsimp only at q1 q2 q3 q4 ⊢
    have sz : es2.size = es1.size := by simpa using q1.length_eq
    refine wpAny_bind (hg _ _ _ (wpAny_bind (wpAny_storeSet_of o1 rfl ?_ (fits_of_scanBound (by rw [sz]; exact hb)))))
    obtain ⟨k2, hk2, p2⟩ := paired_perm q1 hp
    exact wpAny_pure (hR _ (b1.trans (Heap.SameBut.update _ a _)) ⟨_, es2, _, t3, k2, store_at o1 rfl, hex, rfl, hk2, p2.trans pm, nd, by rw [sz]; exact hb, q2, q3, hl.imp id fun z => q4.trans z⟩)
  · exact wpAny_pure (hR _ b1 ⟨_, es1, _, t2, kk, o1, hex, rfl, hp, pm, nd, hb, hf, hr, hl⟩)
/-- one more key -/
theorem setM_add {k : Key} {v : Value} {ks : List Key} {Q : Bool → Shared → Prop} (hv : keyV v = some k) (R : SetM w s.heap a ks) (room : ks.length + 1 < scanBound)
    (h1 : k ∈ ks → Q false s) (h2 : k ∉ ks → ∀ h', Heap.SameBut a s.heap h' → SetM w h' a (k :: ks) → Q true { s with heap := h' }) : wpAny (model Pg w) A (setAddHashed a v (keyH w k)) Q E s := by
  obtain ⟨o, es, ep, t, kk, ho, hex, hd, hp, pm, nd, hb, hf, hr, hl⟩ := R
  have hkey : (mixKind Pg w).is k v = true := keyV_is.mp hv
  have hsc := keyV_scan hv
  have hel : ElemsOf (mixKind Pg w) es.toList := entK_elems hp
  unfold setAddHashed setAddHashedIn
  refine wpAny_holding (wpAny_bind (wpAny_setState_of ho hd hf ?_))
  dsimp only
  rw [byScan_of hsc hb hel]
  simp only [↓reduceIte]
  unfold setAddByScan
  refine wpAny_bind (wpAny_bind (wpAny_rule (wpAny_bind (wpAny_setScan_of hkey ho hd hf hel ?_))))
  have mem : k ∈ ks ↔ ∃ e ∈ es.toList, (mixKind Pg w).is k e.2 = true := by
    rw [← pm.mem_iff]
    constructor
    · intro z
      obtain ⟨e, he, q⟩ := paired_mem2 hp z
      exact ⟨e, he, keyV_is.mp q.1⟩
    · rintro ⟨e, he, q⟩
      obtain ⟨k', hk', q'⟩ := paired_mem hp he
      have := (keyV_is.mpr q).symm.trans q'.1
      cases this
      exact hk'
  cases hfi : List.findIdx? (fun e => (mixKind Pg w).is k e.2) es.toList with
  | some j =>
    dsimp only
    obtain ⟨hj, pj, _⟩ := List.findIdx?_eq_some_iff_getElem.mp hfi
    exact wpAny_pure (wpAny_pure (h1 (mem.mpr ⟨_, List.getElem_mem hj, pj⟩)))
  | none =>
    dsimp only
    have hn : k ∉ ks := fun z => by
      obtain ⟨e, he, q⟩ := mem.mp z
      have c := List.findIdx?_eq_none_iff.mp hfi e he
      rw [q] at c; cases c
    have hgw : ∀ (b : Bool) {s₁ : Shared} {Q' : Unit → Shared → Prop}, Q' () s₁ → wpAny (model Pg w) A (match b with | true => rule "set.scan.the-table-gave-way" | false => pure ()) Q' E s₁ := fun b s₁ Q' q => by
      cases b
      · exact wpAny_pure q
      · exact wpAny_rule q
    have q1 := layNew_perm t es (keyH w k) v
    have q2 := layNew_fits t es (keyH w k) v
    have q3 := layNew_ris t es (keyH w k) v hr
    have q4 := layNew_led t es (keyH w k) v
    show wpAny _ _ _ _ _ _
    have eh : (mixKind Pg w).hash k = keyH w k := rfl
    revert q1 q2 q3 q4
    generalize layNew t es (keyH w k) v = Z
    obtain ⟨es1, t1, dm, gv⟩ := Z
    intro q1 q2 q3 q4
    dsimp only at q1 q2 q3 q4 ⊢
    rw [Array.toList_push] at q1
    have pc : es1.toList.Perm ((keyH w k, v) :: es.toList) := q1.trans (List.perm_append_singleton _ _)
    obtain ⟨k1, hk1, p1⟩ := paired_perm pc (.cons ⟨hv, rfl⟩ hp)
    have pm1 : k1.Perm (k :: ks) := p1.trans (pm.cons k)
    have nd1 : (k :: ks).Nodup := List.nodup_cons.mpr ⟨hn, nd⟩
    have sz : es1.size = ks.length + 1 := by
      have e1 := pc.length_eq
      have e2 := paired_len hp
      have e3 := pm.length_eq
      simp only [Array.length_toList, List.length_cons] at e1 e2
      omega
    have hb1 : es1.size < scanBound := by rw [sz]; exact room
    have hl1 : w.params.followText "set-order" = true ∨ t1.led = true := hl.imp id fun z => q4.trans z
    have fin := h2 hn
    refine wpAny_bind (hgw _ ?_)
    split
    · refine wpAny_bind ?_
      rw [hashByValue_scannable 8 hsc]
      refine wpAny_pure (setM_tail (fun b s₁ Q' q => ?_) ho hex hd hk1 pm1 nd1 hb1 ?_ ?_ ?_ fun h' sb r => ?_)
      · cases b
        · exact wpAny_pure q
        · exact wpAny_rule q
      · first | exact q2 | (split <;> first | exact q2 | exact SetTable.fits_plain_off q2)
      · first | exact q3 | (split <;> exact q3)
      · first | exact hl1 | (split <;> exact hl1)
      · exact wpAny_pure (fin h' sb r)
    · refine wpAny_bind (wpAny_pure ?_)
      simp only [↓reduceIte]
      refine setM_tail (fun b s₁ Q' q => ?_) ho hex hd hk1 pm1 nd1 hb1 q2 q3 hl1 fun h' sb r => ?_
      · cases b
        · exact wpAny_pure q
        · exact wpAny_rule q
      · exact wpAny_pure (fin h' sb r)
end
end XL
namespace XL
open PySem L2 PyProof.Rows
open Classical in
noncomputable def addK (ks : List Key) (k : Key) : List Key := if k ∈ ks then ks else k :: ks
noncomputable def addAll (l : List Key) : List Key := l.foldl addK []
theorem addK_len (ks : List Key) (k : Key) : (addK ks k).length ≤ ks.length + 1 := by
  unfold addK; split <;> simp
theorem addAll_snoc (l : List Key) (k : Key) : addAll (l ++ [k]) = addK (addAll l) k := by simp [addAll]
theorem foldl_addK_len : ∀ (l ks : List Key), (l.foldl addK ks).length ≤ ks.length + l.length
  | [], ks => by simp
  | k :: l, ks => by
    have h1 := foldl_addK_len l (addK ks k)
    have h2 := addK_len ks k
    simp only [List.foldl_cons, List.length_cons]
    omega
theorem addAll_len (l : List Key) : (addAll l).length ≤ l.length := by simpa [addAll] using foldl_addK_len l []
theorem foldl_addK_mem : ∀ (l ks : List Key) (k : Key), k ∈ l.foldl addK ks ↔ k ∈ ks ∨ k ∈ l
  | [], ks, k => by simp
  | x :: l, ks, k => by
    simp only [List.foldl_cons, foldl_addK_mem l (addK ks x) k, List.mem_cons]
    unfold addK
    split
    · rename_i h
      constructor
      · rintro (z | z)
        · exact .inl z
        · exact .inr (.inr z)
      · rintro (z | z | z)
        · exact .inl z
        · subst z; exact .inl h
        · exact .inr z
    · simp only [List.mem_cons]
      constructor
      · rintro ((z | z) | z)
        · exact .inr (.inl z)
        · exact .inl z
        · exact .inr (.inr z)
      · rintro (z | z | z)
        · exact .inl (.inr z)
        · exact .inl (.inl z)
        · exact .inr z
theorem addAll_mem (l : List Key) (k : Key) : k ∈ addAll l ↔ k ∈ l := by simp [addAll, foldl_addK_mem]
section
variable {Pg : Program} {w : World} {A : Around} {E : Value → Shared → Prop} {s : Shared}
theorem SetM.at {h h' : Heap} {a : Addr} {ks : List Key} (R : SetM w h a ks) (k : ∀ o, h.get? a = some o → h'.get? a = some o) : SetM w h' a ks := by
  obtain ⟨o, es, ep, t, kk, ho, r⟩ := R
  exact ⟨o, es, ep, t, kk, k o ho, r⟩
theorem setM_fresh {h : Heap} {a : Addr} (ho : h.get? a = some { cls := .type "set", dict := none, data := .set #[] 0 (.fresh 0 0 (!w.params.followText "set-order")) }) : SetM w h a [] := by
  refine ⟨_, #[], 0, _, [], ho, ⟨rfl, rfl, rfl⟩, rfl, .nil, List.Perm.refl _, List.nodup_nil, by decide, by rfl, List.Pairwise.nil, ?_⟩
  cases q : w.params.followText "set-order"
  · exact .inr rfl
  · exact .inl rfl
theorem setM_loop {I : Addr} {fp wr : List Addr} {Gr : Array GenState → Array GenState → Prop} {n : Nat} {Pv : Nat → Value → Prop} {St : Nat → Shared → Prop} {R : Result → Shared → Prop}
    (W : WalksS Pg w A.in1 I fp wr Gr n Pv St) (Z : Addr) (hZ : Z ∉ fp) (kz : List Key) (hn : n = kz.length) (hb : kz.length + 1 < scanBound) (hval : ∀ i v, Pv i v → ∃ k, kz[i]? = some k ∧ keyV v = some k) :
    ∀ (j i : Nat) (s : Shared), n - i = j → i ≤ n → St i s → SetM w s.heap Z (addAll (kz.take i)) →
      (∀ s', Moved (Z :: wr) Gr s s' → SetM w s'.heap Z (addAll kz) → R (.ok (.ret .none)) s') → codeAny (model Pg w) A (.builtin "set.update.loop" ⟨[.ref Z, .ref I], []⟩) R s := by
  have nz : Z ∉ wr := fun h => hZ (W.sub _ h)
  have up : ∀ b ∈ wr, b ∈ Z :: wr := fun b hb => List.mem_cons_of_mem _ hb
  intro j
  induction j with
  | zero =>
    intro i s hj hi st hS hR
    obtain rfl : i = n := by omega
    refine codeAny_builtin F.entry_set_update_loop ?_
    rw [Around.under_plainId F.plain_set_update_loop _]
    refine wpAny_bind (W.done s _ _ st fun s' hm => ?_)
    rw [List.take_of_length_le (by omega)] at hS
    exact wpAny_pure (hR s' (hm.mono up) (hS.at fun o e => hm.heap Z o nz e))
  | succ j ih =>
    intro i s hj hi st hS hR
    have lt : i < n := by omega
    refine codeAny_builtin F.entry_set_update_loop ?_
    rw [Around.under_plainId F.plain_set_update_loop _]
    refine wpAny_bind (W.item i s _ _ lt st fun v s' hP st' hm => ?_)
    obtain ⟨k, hk, hv⟩ := hval i v hP
    have hS' : SetM w s'.heap Z (addAll (kz.take i)) := hS.at fun o e => hm.heap Z o nz e
    have tk : kz.take (i + 1) = kz.take i ++ [k] := by rw [List.take_add_one, hk]; rfl
    have len : (addAll (kz.take i)).length + 1 < scanBound := by
      have h1 := addAll_len (kz.take i)
      have h2 : (kz.take i).length ≤ i := by simp; omega
      omega
    refine wpAny_bind (wpAny_holding ?_)
    unfold setAdd
    refine wpAny_holding (wpAny_bind ((mixKind Pg w).pyHash (keyV_is.mp hv) ?_))
    have fin : ∀ h', Heap.SameBut Z s'.heap h' → SetM w h' Z (addAll (kz.take (i + 1))) → codeAny (model Pg w) A (.builtin "set.update.loop" ⟨[.ref Z, .ref I], []⟩) R { s' with heap := h', toks := s'.toks + 1 } := fun h' sb r => by
      refine ih (i + 1) _ (by omega) lt (W.frame _ s' _ _ st' (Nat.le_succ _) fun b hb o e => ?_) r fun s'' hm'' hS'' => ?_
      · rw [sb.2 b (fun h : b = Z => hZ (by rw [← h]; exact hb))]; exact e
      · refine hR s'' (Moved.trans W.gtrans ((hm.mono up).then_heap (Nat.le_succ _) fun b o hb e => ?_) hm'') hS''
        rw [sb.2 b (fun h : b = Z => hb (by rw [h]; exact List.mem_cons_self))]; exact e
    refine setM_add (s := { s' with toks := s'.toks + 1 }) hv hS' len (fun hin => ?_) fun hout h' sb r => ?_
    · refine wpAny_pure ⟨plainId_quiet F.plain_set_update_loop _, fin s'.heap (Heap.SameBut.refl Z _) ?_⟩
      rw [tk, addAll_snoc]
      unfold addK
      rw [if_pos hin]
      exact hS'
    · refine wpAny_pure ⟨plainId_quiet F.plain_set_update_loop _, fin h' sb ?_⟩
      rw [tk, addAll_snoc]
      unfold addK
      rw [if_neg hout]
      exact r
end
end XL
end
section
set_option Elab.async false
set_option linter.all false
set_option maxRecDepth 100000
set_option maxHeartbeats 3200000
namespace XL
open PySem L2 PyProof.Rows
abbrev emptySet (w : World) : Obj := { cls := .type "set", dict := none, data := .set #[] 0 (.fresh 0 0 (!w.params.followText "set-order")) }
section
variable {Pg : Program} {w : World} {A : Around} {E : Value → Shared → Prop} {s : Shared}
theorem setM_call {l : Addr} {items : Array Value} (kz : List Key) {Q : Value → Shared → Prop} (hh : A.handled = none) (hl : s.heap.IsList l items) (hit : items.toList.map keyV = kz.map some) (hb : kz.length + 1 < scanBound)
    (h : ∀ (h' : Heap) (tk : Nat), SetM w h' s.heap.objs.size (addAll kz) → (∀ b o, s.heap.get? b = some o → h'.get? b = some o) → Q (.ref s.heap.objs.size) { s with heap := h', toks := tk }) :
    wpAny (model Pg w) A (call (.type "set") [.ref l]) Q E s := by
  have hsz : items.size = kz.length := by simpa using congrArg List.length hit
  obtain ⟨c, tl, hmro⟩ := F.called_set.mro
  have hmade := F.called_set.made
  have hsub := F.called_set.sub
  refine wpAny_call (codeAny_of_tree ?_)
  refine wpAny_pure ⟨Code.quiet_builtin _ (by decide +kernel), codeAny_builtin F.entry_type_call ?_⟩
  rw [Around.under_plain (weight_type_call_type "set" [.ref l] []) rfl]
  have h1 := F.called_set.notType
  have h2 := F.called_set.canCreate
  have hct := F.typeCall_set_1 (.ref l)
  repeat (any_goals (first | assumption | wp_step))
  refine codeAny_mono (code_set_led1 (.ref l) (E := E) (Q₁ := fun obj s₁ => obj = .ref s.heap.objs.size ∧ s₁ = { s with heap := s.heap.push (emptySet w) }) ⟨rfl, rfl⟩) fun r s₁ hr => ?_
  cases r with
  | error e => exact hr
  | ok fl =>
    cases fl with
    | ret obj =>
      obtain ⟨rfl, rfl⟩ := hr
      have hS : (s.heap.push (emptySet w)).get? s.heap.objs.size = some (emptySet w) := Heap.get?_push_size _ rfl
      have hT : Shared.TypeIs { s with heap := s.heap.push (emptySet w) } (.ref s.heap.objs.size) "set" := ⟨_, hS, rfl⟩
      have hli := F.called_set.init.lookup
      have hbi := F.called_set.init.bind (.ref s.heap.objs.size)
      repeat (any_goals (first | assumption | wp_step))
      refine codeAny_mono (codeAny_call_builtin (R := wants (fun r s₂ => r = .none ∧ ∃ h' tk, s₂ = { s with heap := h', toks := tk } ∧ SetM w h' s.heap.objs.size (addAll kz) ∧ ∀ b o, s.heap.get? b = some o → h'.get? b = some o) E)
        F.called_set.init.plain F.entry_set_init (check_set_init_1 hT ?_)) fun r₂ s₂ hr₂ => ?_
      · obtain ⟨⟨ocls, odict, odata, oslots⟩, hol, hcl, nl, hdl⟩ := hl
        simp only at hcl hdl
        subst hcl hdl
        have hol' : (s.heap.push (emptySet w)).get? l = some { cls := .type "list", dict := odict, data := .seq items nl, slots := oslots } := Heap.get?_push_of_some _ hol
        have hsls := F.sub_list_set
        have hslf := F.sub_list_frozenset
        have hne : (Value.type "list" == Value.type "dict") = false := by decide
        have hl1 : (s.heap.push (emptySet w)).IsList l items := ⟨_, hol', rfl, nl, rfl⟩
        unfold Builtin.«set.__init__» noKeywords Builtin.Frozenset.updateFrom
        generalize hPI : pyIter = PI
        wp_walk
        subst hPI
        refine wpAny_pyIter_list hl1 (wpAny_bind (wpAny_runValue ?_))
        have hlS : l < s.heap.objs.size := Heap.lt_size hol
        have hh3 : A.in1.in1.in1.handled = none := by simp [hh]
        have hp1 : (s.heap.push (emptySet w)).objs.size = s.heap.objs.size + 1 := Heap.size_push ..
        have hneI : l ≠ (s.heap.push (emptySet w)).objs.size := by rw [hp1]; exact Nat.ne_of_lt (Nat.lt_succ_of_lt hlS)
        have hSf : s.heap.objs.size ∉ [(s.heap.push (emptySet w)).objs.size, l] := by
          rw [hp1]
          simp only [List.mem_cons, List.not_mem_nil, or_false, not_or]
          exact ⟨Nat.ne_of_lt (Nat.lt_succ_self _), Nat.ne_of_gt hlS⟩
        have hval : ∀ (i : Nat) (v : Value), items[i]? = some v → ∃ k, kz[i]? = some k ∧ keyV v = some k := fun i v hv => by
          have e1 : (items.toList.map keyV)[i]? = some (keyV v) := by rw [List.getElem?_map, Array.getElem?_toList, hv]; rfl
          rw [hit, List.getElem?_map] at e1
          cases q : kz[i]? with
          | none => rw [q] at e1; cases e1
          | some k => rw [q] at e1; exact ⟨k, rfl, (Option.some.inj e1).symm⟩
        refine setM_loop ((Walks.list hh3 _ l hneI items).toS) s.heap.objs.size hSf kz hsz hb hval (items.size - 0) 0 _ (by omega) (Nat.zero_le _) ⟨⟨_, Heap.get?_push_size _ rfl, rfl, rfl⟩, hl1.push _⟩ ?hS0 ?hR
        case hS0 => exact setM_fresh (Heap.get?_push_of_some _ hS)
        case hR =>
          intro s' hm hS'
          obtain ⟨h', g2, d', tk', os'⟩ := s'
          have eg : g2 = s.gens := hm.gens
          have ed : d' = s.drawn := hm.drawn
          have eo : os' = s.os := hm.os
          subst eg ed eo
          refine wpAny_pure (wpAny_pure ⟨rfl, h', tk', rfl, hS', fun b o e => ?_⟩)
          have hb0 : b < s.heap.objs.size := Heap.lt_size e
          refine hm.heap b o ?_ (Heap.get?_push_of_some _ (Heap.get?_push_of_some _ e))
          simp only [hp1, List.mem_cons, List.not_mem_nil, or_false, not_or]
          exact ⟨Nat.ne_of_lt hb0, Nat.ne_of_lt (Nat.lt_succ_of_lt hb0)⟩
      · cases r₂ with
        | error e => exact hr₂
        | ok fl₂ =>
          cases fl₂ with
          | ret r =>
            obtain ⟨rfl, h', tk, rfl, hS', hk'⟩ := hr₂
            repeat (any_goals (first | assumption | wp_step))
            exact h _ _ hS' hk'
          | _ => exact hr₂.elim
    | _ => exact hr.elim
end
end XL
end
section
set_option Elab.async false
set_option linter.all false
set_option maxRecDepth 100000
set_option maxHeartbeats 1000000
namespace XL
open PySem L2 PyProof.Rows PySem.W
/-! ### putting in order -/
def insG {α : Type} (lt : α → α → Bool) (x : α) : List α → List α
  | [] => [x]
  | y :: ys => if lt y x = true then y :: insG lt x ys else x :: y :: ys
def sortG {α : Type} (lt : α → α → Bool) : List α → List α
  | [] => []
  | x :: xs => insG lt x (sortG lt xs)
theorem insG_mem {α : Type} {lt : α → α → Bool} {x z : α} : ∀ {l : List α}, z ∈ insG lt x l ↔ z = x ∨ z ∈ l
  | [] => by simp [insG]
  | y :: ys => by
    unfold insG
    split
    · simp only [List.mem_cons, insG_mem (l := ys)]
      constructor
      · rintro (h | h | h)
        · exact .inr (.inl h)
        · exact .inl h
        · exact .inr (.inr h)
      · rintro (h | h | h)
        · exact .inr (.inl h)
        · exact .inl h
        · exact .inr (.inr h)
    · simp
theorem insG_pair {α : Type} {lt : α → α → Bool} (h : TotalLe fun a b => !lt b a) {x : α} : ∀ {l : List α}, l.Pairwise (fun a b => (!lt b a) = true) → (insG lt x l).Pairwise (fun a b => (!lt b a) = true)
  | [], _ => by simp [insG]
  | y :: ys, hp => by
    obtain ⟨h1, h2⟩ := List.pairwise_cons.mp hp
    unfold insG
    split
    · rename_i c
      refine List.pairwise_cons.mpr ⟨fun z hz => ?_, insG_pair h h2⟩
      rcases insG_mem.mp hz with rfl | hz
      · rcases h.total y z with q | q
        · exact q
        · rw [c] at q; cases q
      · exact h1 z hz
    · rename_i c
      have c' : (!lt y x) = true := by simpa using c
      refine List.pairwise_cons.mpr ⟨fun z hz => ?_, hp⟩
      rcases List.mem_cons.mp hz with rfl | hz
      · exact c'
      · exact h.trans x y z c' (h1 z hz)
theorem insG_filter {α : Type} {lt : α → α → Bool} (h : TotalLe fun a b => !lt b a) {x c : α} : ∀ {l : List α}, (insG lt x l).filter (sameRank (fun a b => !lt b a) c) = (x :: l).filter (sameRank (fun a b => !lt b a) c)
  | [] => by simp [insG]
  | y :: ys => by
    unfold insG
    split
    · rename_i d
      have ih := insG_filter h (x := x) (c := c) (l := ys)
      simp only [List.filter_cons] at ih ⊢
      rw [ih]
      by_cases hx : sameRank (fun a b => !lt b a) c x = true
      · by_cases hy : sameRank (fun a b => !lt b a) c y = true
        · exfalso
          unfold sameRank at hx hy
          simp only [Bool.and_eq_true] at hx hy
          have := h.trans x c y hx.2 hy.1
          simp only [d, Bool.not_true] at this
          cases this
        · simp [hx, hy]
      · simp [hx]
    · rfl
theorem sortG_merge {α : Type} {lt : α → α → Bool} (h : TotalLe fun a b => !lt b a) (l : List α) : sortG lt l = l.mergeSort (fun a b => !lt b a) := by
  refine sort_unique h ?_ fun c => ?_
  · induction l with
    | nil => exact List.Pairwise.nil
    | cons x xs ih => exact insG_pair h ih
  · induction l with
    | nil => rfl
    | cons x xs ih =>
      show (insG lt x (sortG lt xs)).filter _ = _
      rw [insG_filter h, List.filter_cons, List.filter_cons, ih]
theorem data_total {β : Type} (k : β → PyData) : TotalLe (fun a b => !dataLt (k b) (k a)) := sortLe_total (listOrd itemOrd) false fun b => keyToks (k b)
theorem sortG_data {β : Type} (k : β → PyData) (l : List β) : l.mergeSort (dataLe false k) = sortG (fun a b => dataLt (k a) (k b)) l := (sortG_merge (lt := fun a b => dataLt (k a) (k b)) (data_total k) l).symm
theorem insG_congr {α : Type} {lt lt' : α → α → Bool} {x : α} : ∀ {l : List α}, (∀ y ∈ l, lt y x = lt' y x) → insG lt x l = insG lt' x l
  | [], _ => rfl
  | y :: ys, h => by
    unfold insG
    rw [h y List.mem_cons_self, insG_congr fun z hz => h z (List.mem_cons_of_mem _ hz)]
theorem sortG_mem {α : Type} {lt : α → α → Bool} {z : α} : ∀ {l : List α}, z ∈ sortG lt l ↔ z ∈ l
  | [] => by simp [sortG]
  | x :: xs => by simp [sortG, insG_mem, sortG_mem (l := xs)]
theorem sortG_congr {α : Type} {lt lt' : α → α → Bool} : ∀ {l : List α}, (∀ x ∈ l, ∀ y ∈ l, lt x y = lt' x y) → sortG lt l = sortG lt' l
  | [], _ => rfl
  | x :: xs, h => by
    unfold sortG
    rw [sortG_congr fun a ha b hb => h a (List.mem_cons_of_mem _ ha) b (List.mem_cons_of_mem _ hb)]
    exact insG_congr fun y hy => h y (List.mem_cons_of_mem _ (sortG_mem.mp hy)) x List.mem_cons_self
theorem insG_map {α β : Type} {lt : α → α → Bool} {lt' : β → β → Bool} (f : α → β) (h : ∀ a b, lt a b = lt' (f a) (f b)) (x : α) : ∀ l : List α, (insG lt x l).map f = insG lt' (f x) (l.map f)
  | [] => rfl
  | y :: ys => by
    unfold insG
    rw [h y x]
    simp only [List.map_cons]
    split
    · rw [List.map_cons, insG_map f h x ys]
    · rfl
theorem sortG_map {α β : Type} {lt : α → α → Bool} {lt' : β → β → Bool} (f : α → β) (h : ∀ a b, lt a b = lt' (f a) (f b)) : ∀ l : List α, (sortG lt l).map f = sortG lt' (l.map f)
  | [] => rfl
  | x :: xs => by
    show (insG lt x (sortG lt xs)).map f = insG lt' (f x) (sortG lt' (xs.map f))
    rw [insG_map f h, sortG_map f h xs]
theorem insP_G (x : P) : ∀ l : List P, insP x l = insG P.lt x l
  | [] => rfl
  | y :: ys => by simp only [insP, insG, insP_G x ys]
theorem sortP_G : ∀ l : List P, sortP l = sortG P.lt l
  | [] => rfl
  | x :: xs => by simp only [sortP, sortG, insP_G, sortP_G xs]
theorem allAlike_of : ∀ {ds : List P}, allAlike ds = true → ∀ x ∈ ds, ∀ y ∈ ds, P.alike x y = true
  | [], _, x, hx, _, _ => by cases hx
  | d :: ds, h, x, hx, y, hy => by
    simp only [allAlike, Bool.and_eq_true, List.all_eq_true] at h
    rcases List.mem_cons.mp hx with ex | hx1
    · rcases List.mem_cons.mp hy with ey | hy1
      · rw [ex, ey]; exact h.1.1
      · rw [ex]; exact (h.1.2 y hy1).1
    · rcases List.mem_cons.mp hy with ey | hy1
      · rw [ey]; exact (h.1.2 x hx1).2
      · exact allAlike_of h.2 x hx1 y hy1
theorem sortP_data {ds : List P} (h : ∀ x ∈ ds, ∀ y ∈ ds, P.alike x y = true) : sortG (fun a b => dataLt (toPD a) (toPD b)) ds = sortP ds := by
  rw [sortP_G]
  exact sortG_congr fun x hx y hy => lt_pd x y (h x hx y hy)
theorem each_zip {K : PySem.W.Frag} {m : List Addr} {H : Hp} : ∀ {ds : List P} {vs : List V} {us : List Value}, RepPs K m H ds vs → Vals vs us → EachIs (fun (u : Value) (b : P × V) => RelV b.2 u) us (ds.zip vs) ∧ ∀ b ∈ ds.zip vs, RepP K m H b.1 b.2
  | [], vs, us, h, r => by
    simp only [RepPs] at h; subst h
    cases r
    exact ⟨.nil, fun b hb => by simp at hb⟩
  | d :: ds, vs, us, h, r => by
    simp only [RepPs] at h
    obtain ⟨v, w, rfl, h1, h2⟩ := h
    cases r with
    | cons r rr =>
      obtain ⟨a, b⟩ := each_zip h2 rr
      refine ⟨.cons r a, fun c hc => ?_⟩
      simp only [List.zip_cons_cons, List.mem_cons] at hc
      rcases hc with rfl | hc
      · exact h1
      · exact b c hc
theorem each_vals {us : List Value} {bs : List (P × V)} (h : EachIs (fun (u : Value) (b : P × V) => RelV b.2 u) us bs) : Vals (bs.map (·.2)) us := by
  induction h with
  | nil => exact .nil
  | cons r _ ih => exact .cons r ih
theorem reps_pairs {K : PySem.W.Frag} {m : List Addr} {H : Hp} : ∀ {bs : List (P × V)}, (∀ b ∈ bs, RepP K m H b.1 b.2) → RepPs K m H (bs.map (·.1)) (bs.map (·.2))
  | [], _ => RepPs.nil
  | b :: bs, h => RepPs.cons (h b List.mem_cons_self) (reps_pairs fun c hc => h c (List.mem_cons_of_mem _ hc))
theorem sortable_of {ds : List P} (h : (ds.all fullTup || ds.all noTup) = true) : Sortable (ds.map toPD) := by
  simp only [Bool.or_eq_true, List.all_eq_true] at h
  rcases h with h | h
  · refine .inl fun d hd => ?_
    obtain ⟨x, hx, rfl⟩ := List.mem_map.mp hd
    have q := h x hx
    cases x with
    | tup xs =>
      cases xs with
      | nil => simp [fullTup] at q
      | cons y ys => exact ⟨toPD y, toPDs ys, by simp [toPD, toPDs]⟩
    | _ => simp [fullTup] at q
  · refine .inr fun d hd => ?_
    obtain ⟨x, hx, rfl⟩ := List.mem_map.mp hd
    have q := h x hx
    cases x <;> simp [noTup] at q <;> simp [toPD]
theorem cr_sortedX {X : Cx} (hu : X.A.units + 64 < cLine) : CallR X (.builtin "sorted") (cOf X.K cSorted) := fun pins s σ H vs us Q I r h => by
  obtain ⟨m, G, S, ps, r', hS, hp, hf, k⟩ := h
  unfold cSorted at hf
  split at hf
  · rename_i ds
    split at hf
    · rename_i hc
      cases hf
      obtain ⟨v, rfl, a, ws, rfl, f, q⟩ := one_arg hp
      unfold sortOk at hc
      simp only [Bool.and_eq_true, decide_eq_true_eq] at hc
      have al := allAlike_of hc.1.1.1
      obtain ⟨z, its, n, rv, eo⟩ := f.ok I.hok
      obtain ⟨u, rfl, ru⟩ := vals1 r
      cases ru
      obtain ⟨e1, e2⟩ := each_zip q rv
      have el : (ds.zip ws).map (·.1) = ds := by
        rw [List.map_fst_zip]; rw [q.length]; exact Nat.le_refl _
      have em : (ds.zip ws).map (fun b => toPD b.1) = ds.map toPD := by
        have := congrArg (List.map toPD) el
        rw [List.map_map] at this
        exact this
      have er : EachIs (fun v b => ∃ as, Reads s.heap v (toPD b.1) as) its (ds.zip ws) := by
        have := each_mem e1
        exact this.mono fun u b ⟨hr, hb⟩ => Dp.reads I _ _ _ (RepP.dp _ _ (e2 b hb)) hr
      have hl : s.heap.IsList a its.toArray := ⟨_, eo, rfl, n, rfl⟩
      refine sorted_data (enc := fun b : P × V => toPD b.1) hl e1 er ?_ ?_ ?_ ?_ fun out ho eo => ?_
      · rw [em]
        intro d hd d' hd'
        obtain ⟨x, hx, rfl⟩ := List.mem_map.mp hd
        obtain ⟨y, hy, rfl⟩ := List.mem_map.mp hd'
        rw [alike_pd]; exact al x hx y hy
      · rw [em]; exact sortable_of hc.1.2
      · have : (ds.zip ws).length = ds.length := by rw [← List.length_map (f := (·.1)), el]
        rw [this]; exact big_size hc.2
      · intro b hb
        have hb1 : b.1 ∈ ds := by rw [← el]; exact List.mem_map_of_mem hb
        have := ((fit_all 60).1 b.1 ((List.all_eq_true.mp hc.1.1.2) _ hb1)).2
        omega
      · rw [sortG_data] at eo
        have e3 : (sortG (fun a b : P × V => dataLt (toPD a.1) (toPD b.1)) (ds.zip ws)).map (·.1) = sortP ds := by
          rw [sortG_map (lt' := fun a b => dataLt (toPD a) (toPD b)) (fun z : P × V => z.1) (fun _ _ => rfl), el, sortP_data al]
        have rr : RepPs X.K (m ++ G) H (sortP ds) ((sortG (fun a b : P × V => dataLt (toPD a.1) (toPD b.1)) (ds.zip ws)).map (·.2)) := by
          rw [← e3]
          exact reps_pairs fun b hb => e2 b (sortG_mem.mp hb)
        obtain ⟨c, hc2⟩ := sortedAll_at s.heap its out.toArray
        have hfr : H (s.heap.objs.size + 1) = none := I.hok.fresh (Nat.le_succ _)
        have lz : ((sortG (fun a b : P × V => dataLt (toPD a.1) (toPD b.1)) (ds.zip ws)).map (·.2)).length ≤ sizeLine := by
          rw [← rr.length, ← e3, List.length_map]
          have := (ho.symm.trans (EachIs.length eo))
          rw [← EachIs.length eo, ho, ← List.length_map (f := (·.1)), el]
          exact big_size hc.2
        have J : Inv X pins σ (upd H (s.heap.objs.size + 1) (.lst ((sortG (fun a b : P × V => dataLt (toPD a.1) (toPD b.1)) (ds.zip ws)).map (·.2)))) { s with heap := sortedAll s.heap its out.toArray } :=
          I.laid (t' := s.toks) (fun b o e => sortedAll_old e) (Nat.le_succ _) ⟨lz, out, c, each_vals eo, hc2⟩
        have ex := Ext.new (o := .lst ((sortG (fun a b : P × V => dataLt (toPD a.1) (toPD b.1)) (ds.zip ws)).map (·.2))) hfr
        exact ⟨.ref _, _, J, rfl, k _ _ ex ⟨_, _, rfl, hS.fresh hfr, upd_same, RepPs.step (Step.of_ext ex) _ _ rr⟩ (own_new hS hfr rr)⟩
    · cases hf
  · cases hf
end XL
end
section
set_option Elab.async false
set_option linter.all false
set_option maxRecDepth 100000
set_option maxHeartbeats 1000000
namespace XL
open PySem L2 PyProof.Rows PySem.W
/-! ### sorted(set(xs)), len(set(xs)): ints alone, texts alone -/
def pOfKey : Key → P
  | .inl i => .int i
  | .inr x => .str x.cps.toList
theorem pOfKey_keyP {p : P} {k : Key} (h : keyP p = some k) : pOfKey k = p := by
  cases p <;> simp [keyP] at h <;> subst h <;> simp [pOfKey]
theorem keyP_pOf (k : Key) : keyP (pOfKey k) = some k := by
  cases k <;> simp [pOfKey, keyP]
def pdK : Key → PyData := fun k => toPD (pOfKey k)
theorem pdK_inj {a b : Key} (h : keyToks (pdK a) = keyToks (pdK b)) : a = b := by
  cases a <;> cases b <;> simp [pdK, pOfKey, toPD, keyToks] at h
  · rw [h]
  · rename_i x y
    have : x = y := by
      cases x; cases y
      simp only [Str.mk.injEq]
      exact Array.toList_inj.mp (by simpa using h)
    rw [this]
def ltK (a b : Key) : Bool := dataLt (pdK a) (pdK b)
theorem ltK_irrefl (a : Key) : ltK a a = false := PyProof.Rows.lex_irrefl _
theorem ltK_trans {a b c : Key} (h1 : ltK a b = true) (h2 : ltK b c = true) : ltK a c = true := (listOrd itemOrd).trans _ _ _ h1 h2
theorem ltK_total {a b : Key} (h : a ≠ b) : ltK a b = true ∨ ltK b a = true := by
  cases q : ltK a b with
  | true => exact .inl rfl
  | false =>
    cases r : ltK b a with
    | true => exact .inr rfl
    | false => exact absurd (pdK_inj ((listOrd itemOrd).total _ _ q r)) h
theorem insG_strict {x : Key} : ∀ {l : List Key}, l.Pairwise (fun a b => ltK a b = true) → x ∉ l → (insG ltK x l).Pairwise (fun a b => ltK a b = true)
  | [], _, _ => by simp [insG]
  | y :: ys, hp, hx => by
    obtain ⟨h1, h2⟩ := List.pairwise_cons.mp hp
    simp only [List.mem_cons, not_or] at hx
    unfold insG
    split
    · rename_i c
      refine List.pairwise_cons.mpr ⟨fun z hz => ?_, insG_strict h2 hx.2⟩
      rcases insG_mem.mp hz with rfl | hz
      · exact c
      · exact h1 z hz
    · rename_i c
      have c' : ltK x y = true := (ltK_total hx.1).elim id fun z => absurd z c
      refine List.pairwise_cons.mpr ⟨fun z hz => ?_, hp⟩
      rcases List.mem_cons.mp hz with rfl | hz
      · exact c'
      · exact ltK_trans c' (h1 z hz)
theorem sortG_strict : ∀ {l : List Key}, l.Nodup → (sortG ltK l).Pairwise (fun a b => ltK a b = true)
  | [], _ => List.Pairwise.nil
  | x :: xs, h => by
    obtain ⟨h1, h2⟩ := List.nodup_cons.mp h
    exact insG_strict (sortG_strict h2) fun z => h1 (sortG_mem.mp z)
theorem strict_one : ∀ {l m : List Key}, l.Pairwise (fun a b => ltK a b = true) → m.Pairwise (fun a b => ltK a b = true) → (∀ k, k ∈ l ↔ k ∈ m) → l = m
  | [], [], _, _, _ => rfl
  | [], y :: ys, _, _, h => absurd ((h y).mpr List.mem_cons_self) (by simp)
  | x :: xs, [], _, _, h => absurd ((h x).mp List.mem_cons_self) (by simp)
  | x :: xs, y :: ys, hl, hm, h => by
    obtain ⟨a1, a2⟩ := List.pairwise_cons.mp hl
    obtain ⟨b1, b2⟩ := List.pairwise_cons.mp hm
    have irr := ltK_irrefl
    have e : x = y := by
      rcases List.mem_cons.mp ((h x).mp List.mem_cons_self) with e | e
      · exact e
      · rcases List.mem_cons.mp ((h y).mpr List.mem_cons_self) with e' | e'
        · exact e'.symm
        · have := ltK_trans (b1 x e) (a1 y e')
          rw [irr] at this; cases this
    subst e
    rw [strict_one a2 b2 fun k => ?_]
    constructor
    · intro hk
      rcases List.mem_cons.mp ((h k).mp (List.mem_cons_of_mem _ hk)) with e | e
      · subst e; have := a1 k hk; rw [irr] at this; cases this
      · exact e
    · intro hk
      rcases List.mem_cons.mp ((h k).mpr (List.mem_cons_of_mem _ hk)) with e | e
      · subst e; have := b1 k hk; rw [irr] at this; cases this
      · exact e
theorem sortG_same {l m : List Key} (hl : l.Nodup) (hm : m.Nodup) (h : ∀ k, k ∈ l ↔ k ∈ m) : sortG ltK l = sortG ltK m :=
  strict_one (sortG_strict hl) (sortG_strict hm) fun k => by rw [sortG_mem, sortG_mem]; exact h k
/-- the keys of data -/
theorem keys_of {ds : List P} (h : (ds.all isIntP || ds.all isStrP) = true) : ∃ kz : List Key, ds.map keyP = kz.map some ∧ (∀ a ∈ kz, ∀ b ∈ kz, PySem.W.alike (pdK a) (pdK b) = true) := by
  simp only [Bool.or_eq_true, List.all_eq_true] at h
  have h' : (∃ ns : List Int, ds = ns.map P.int) ∨ ∃ ss : List (List Nat), ds = ss.map P.str := by
    rcases h with h | h
    · left
      induction ds with
      | nil => exact ⟨[], rfl⟩
      | cons d ds ih =>
        obtain ⟨ns, e⟩ := ih fun x hx => h x (List.mem_cons_of_mem _ hx)
        have := h d List.mem_cons_self
        cases d <;> simp [isIntP] at this
        rename_i i
        exact ⟨i :: ns, by simp [e]⟩
    · right
      induction ds with
      | nil => exact ⟨[], rfl⟩
      | cons d ds ih =>
        obtain ⟨ns, e⟩ := ih fun x hx => h x (List.mem_cons_of_mem _ hx)
        have := h d List.mem_cons_self
        cases d <;> simp [isStrP] at this
        rename_i i
        exact ⟨i :: ns, by simp [e]⟩
  rcases h' with ⟨ns, rfl⟩ | ⟨ss, rfl⟩
  · refine ⟨ns.map Sum.inl, by simp [keyP], fun a ha b hb => ?_⟩
    obtain ⟨i, _, rfl⟩ := List.mem_map.mp ha
    obtain ⟨j, _, rfl⟩ := List.mem_map.mp hb
    simp [pdK, pOfKey, toPD, PySem.W.alike]
  · refine ⟨ss.map fun s => Sum.inr ⟨s.toArray⟩, by simp [keyP], fun a ha b hb => ?_⟩
    obtain ⟨i, _, rfl⟩ := List.mem_map.mp ha
    obtain ⟨j, _, rfl⟩ := List.mem_map.mp hb
    simp [pdK, pOfKey, toPD, PySem.W.alike]
theorem keyV_rep {K : PySem.W.Frag} {m : List Addr} {H : Hp} {d : P} {v : V} {u : Value} {k : Key} (h : RepP K m H d v) (r : RelV v u) (e : keyP d = some k) : keyV u = some k := by
  cases d <;> simp [keyP] at e <;> subst e <;> simp only [RepP] at h <;> subst h <;> obtain ⟨t, rfl⟩ := r <;> rfl
theorem keysV_rep {K : PySem.W.Frag} {m : List Addr} {H : Hp} : ∀ {ds : List P} {vs : List V} {us : List Value} {kz : List Key}, RepPs K m H ds vs → Vals vs us → ds.map keyP = kz.map some → us.map keyV = kz.map some
  | [], vs, us, kz, h, r, e => by
    simp only [RepPs] at h; subst h
    cases r
    cases kz with
    | nil => rfl
    | cons k kz => simp at e
  | d :: ds, vs, us, kz, h, r, e => by
    simp only [RepPs] at h
    obtain ⟨v, w, rfl, h1, h2⟩ := h
    cases kz with
    | nil => simp at e
    | cons k kz =>
      simp only [List.map_cons, List.cons.injEq] at e
      cases r with
      | cons r rr => simp only [List.map_cons, keyV_rep h1 r e.1, keysV_rep h2 rr e.2]
theorem dedupP_mem {x : P} : ∀ {l : List P}, x ∈ dedupP l ↔ x ∈ l
  | [] => by simp [dedupP]
  | y :: ys => by
    unfold dedupP
    split
    · rename_i h
      rw [dedupP_mem (l := ys), List.mem_cons]
      constructor
      · exact .inr
      · rintro (rfl | z)
        · exact h
        · exact z
    · simp [dedupP_mem (l := ys)]
theorem dedupP_nodup : ∀ {l : List P}, (dedupP l).Nodup
  | [] => by simp [dedupP]
  | y :: ys => by
    unfold dedupP
    split
    · exact dedupP_nodup
    · rename_i h
      exact List.nodup_cons.mpr ⟨fun z => h (dedupP_mem.mp z), dedupP_nodup⟩
/-- what sorted gives of such keys -/
theorem sorted_keys {ds : List P} {kz ks : List Key} (e : ds.map keyP = kz.map some) (al : ∀ a ∈ kz, ∀ b ∈ kz, PySem.W.alike (pdK a) (pdK b) = true) (nd : ks.Nodup) (hk : ∀ k, k ∈ ks ↔ k ∈ kz) : (sortG ltK ks).map pOfKey = sortP (dedupP ds) := by
  have memP : ∀ d ∈ ds, ∃ k ∈ kz, keyP d = some k := fun d hd => by
    have : keyP d ∈ ds.map keyP := List.mem_map_of_mem hd
    rw [e] at this
    obtain ⟨k, hk, q⟩ := List.mem_map.mp this
    exact ⟨k, hk, q.symm⟩
  have memK : ∀ k ∈ kz, ∃ d ∈ ds, keyP d = some k := fun k hk => by
    have : some k ∈ kz.map some := List.mem_map_of_mem hk
    rw [← e] at this
    obtain ⟨d, hd, q⟩ := List.mem_map.mp this
    exact ⟨d, hd, q⟩
  have hj : ∃ js : List Key, (dedupP ds) = js.map pOfKey ∧ js.Nodup ∧ ∀ k, k ∈ js ↔ k ∈ kz := by
    have : ∀ l : List P, (∀ d ∈ l, d ∈ ds) → ∃ js : List Key, l = js.map pOfKey ∧ ∀ k ∈ js, keyP (pOfKey k) = some k ∧ pOfKey k ∈ l := by
      intro l
      induction l with
      | nil => intro _; exact ⟨[], rfl, fun k hk => by cases hk⟩
      | cons d l ih =>
        intro hl
        obtain ⟨js, e1, e2⟩ := ih fun x hx => hl x (List.mem_cons_of_mem _ hx)
        obtain ⟨k, _, q⟩ := memP d (hl d List.mem_cons_self)
        refine ⟨k :: js, by rw [List.map_cons, pOfKey_keyP q, ← e1], fun k' hk' => ⟨keyP_pOf k', ?_⟩⟩
        rcases List.mem_cons.mp hk' with rfl | hk'
        · rw [pOfKey_keyP q]; exact List.mem_cons_self
        · exact List.mem_cons_of_mem _ (e2 k' hk').2
    obtain ⟨js, e1, e2⟩ := this (dedupP ds) fun d hd => dedupP_mem.mp hd
    refine ⟨js, e1, ?_, fun k => ⟨fun hk => ?_, fun hk => ?_⟩⟩
    · have := dedupP_nodup (l := ds)
      rw [e1] at this
      exact List.Pairwise.of_map pOfKey (fun a b h z => h (by rw [z])) this
    · obtain ⟨k', hk', q⟩ := memP _ (dedupP_mem.mp (e2 k hk).2)
      rw [keyP_pOf] at q
      cases q; exact hk'
    · obtain ⟨d, hd, q⟩ := memK k hk
      have : d ∈ dedupP ds := dedupP_mem.mpr hd
      rw [e1] at this
      obtain ⟨k', hk', q'⟩ := List.mem_map.mp this
      rw [← q', keyP_pOf] at q
      cases q; exact hk'
  obtain ⟨js, e1, njs, mjs⟩ := hj
  rw [sortG_same nd njs fun k => (hk k).trans (mjs k).symm, e1, sortP_G]
  rw [sortG_map (lt := ltK) (lt' := fun a b => dataLt (toPD a) (toPD b)) pOfKey (fun a b => rfl)]
  refine sortG_congr fun x hx y hy => ?_
  obtain ⟨a, ha, rfl⟩ := List.mem_map.mp hx
  obtain ⟨b, hb, rfl⟩ := List.mem_map.mp hy
  refine lt_pd _ _ ?_
  rw [← alike_pd]
  exact al a ((mjs a).mp ha) b ((mjs b).mp hb)
theorem dedup_len {ds : List P} {kz ks : List Key} (e : ds.map keyP = kz.map some) (al : ∀ a ∈ kz, ∀ b ∈ kz, PySem.W.alike (pdK a) (pdK b) = true) (nd : ks.Nodup) (hk : ∀ k, k ∈ ks ↔ k ∈ kz) : ks.length = (dedupP ds).length := by
  have h := congrArg List.length (sorted_keys e al nd hk)
  have l1 : ∀ l : List Key, (sortG ltK l).length = l.length := by
    intro l
    induction l with
    | nil => rfl
    | cons x xs ih =>
      have : ∀ m : List Key, (insG ltK x m).length = m.length + 1 := by
        intro m
        induction m with
        | nil => rfl
        | cons y ys ih => unfold insG; split <;> simp [ih]
      show (insG ltK x (sortG ltK xs)).length = _
      rw [this, ih]; rfl
  have l2 : ∀ l : List P, (sortP l).length = l.length := by
    intro l
    induction l with
    | nil => rfl
    | cons x xs ih =>
      have : ∀ m : List P, (insP x m).length = m.length + 1 := by
        intro m
        induction m with
        | nil => rfl
        | cons y ys ih => unfold insP; split <;> simp [ih]
      show (insP x (sortP xs)).length = _
      rw [this, ih]; rfl
  rw [List.length_map, l1, l2] at h
  exact h
end XL
end
section
set_option Elab.async false
set_option linter.all false
set_option maxRecDepth 100000
set_option maxHeartbeats 1000000
namespace XL
open PySem L2 PyProof.Rows PySem.W
def vK : Key → V
  | .inl i => .int i
  | .inr x => .str x
theorem relV_key {k : Key} {u : Value} (h : keyV u = some k) : RelV (vK k) u := by
  cases u <;> simp [keyV] at h <;> subst h <;> exact ⟨_, rfl⟩
theorem reads_key {h : Heap} {k : Key} {u : Value} (e : keyV u = some k) : Reads h u (pdK k) [] := by
  cases u <;> simp [keyV] at e <;> subst e
  · exact .int _ _ 
  · exact .str _ _
theorem repP_key {K : PySem.W.Frag} {m : List Addr} {H : Hp} (k : Key) : RepP K m H (pOfKey k) (vK k) := by
  cases k <;> simp [RepP, pOfKey, vK]
theorem tOf.un {K : PySem.W.Frag} {σ : L2.St} {H : Hp} {Q : VK} {f : P → Option R} {xa : XE} (h : tOf K (xUn f xa) σ H Q) : tOf K xa σ H fun v H1 => uOf K f v H1 Q := by
  obtain ⟨m, G, ρ, S, r, S', hE, hS, hx, k⟩ := h
  simp only [xUn, Option.bind_eq_some_iff, Option.map_eq_some_iff] at hx
  obtain ⟨⟨r1, S1⟩, h1, p, hp, r', hf, e⟩ := hx
  cases e
  refine ⟨m, G, ρ, S, r1, S1, hE, hS, h1, fun v1 m1 H1 s1 hS1 q1 _ => ⟨m1, G, S1, p, _, hS1, q1.rd hS1 hp, hf, fun v H' e q o => ?_⟩⟩
  exact k v m1 H' (s1.trans (Step.of_ext e)) (hS1.ext e) q (o.back s1.dom)
theorem each_of_paired {α β : Type} {F : α → β → Prop} : ∀ {l : List α} {k : List β}, Paired F l k → EachIs F l k
  | _, _, .nil => .nil
  | _, _, .cons r t => .cons r (each_of_paired t)
section
variable {Pg : Program} {w : World} {A : Around} {E : Value → Shared → Prop} {s : Shared}
theorem sorted_setM {a : Addr} {ks : List Key} {Q : Value → Shared → Prop} (R : SetM w s.heap a ks) (hh : A.handled = none) (hu : A.units + 10 < cLine) (al : ∀ a ∈ ks, ∀ b ∈ ks, PySem.W.alike (pdK a) (pdK b) = true)
    (hQ : ∀ s' p (out : List Value) (c : Nat), (∀ b o, s.heap.get? b = some o → s'.heap.get? b = some o) → s'.gens = s.gens → s'.os = s.os → s.heap.objs.size ≤ p →
      s'.heap.get? p = some (seqObj "list" out.toArray c) → EachIs (fun u k => keyV u = some k) out (sortG ltK ks) → Q (.ref p) s') :
    wpAny (model Pg w) A (call (.builtin "sorted") [.ref a]) Q E s := by
  obtain ⟨o, es, ep, t, kk, ho, hex, hd, hp, pm0, nd, hb, hf, hr, hl⟩ := R
  refine Calls.call_function_entry kind_sorted plain_sorted entry_sorted (args_sorted1 _) ?_
  unfold Builtin.«sorted»
  refine wpAny_bind (m := checkCount "sorted" 1 1 _) (wpAny_pure ?_)
  refine wpAny_bind (L2.collect_set (A := A.in1) hh ⟨o, ho, hex.1, hd⟩ hf hb hr hl fun s1 vs k1 hz g1 o1 pm => ?_)
  have hp2 : Paired (fun (u : Value) (k : Key) => keyV u = some k) (es.toList.map (·.2)) kk := by
    clear pm hl hr hb hf hd
    revert hp pm0
    generalize es.toList = l
    intro hp pm0
    clear pm0
    induction hp with
    | nil => exact .nil
    | cons r _ ih => exact .cons r.1 ih
  obtain ⟨k2, hp3, pm2⟩ := paired_perm pm hp2
  have hk2 : k2.Perm ks := pm2.trans pm0
  have hvl : vs.length < scanBound := by
    rw [pm.length_eq, List.length_map, Array.length_toList]; exact hb
  have hvz : vs.length ≤ sizeLine := by
    rw [sizeLine_eq]; unfold scanBound at hvl; omega
  refine wpAny_bind (wpAny_newList ?_ hvz)
  have hoL : (s1.heap.push (seqObj "list" vs.toArray 0)).get? s1.heap.objs.size = some (seqObj "list" vs.toArray 0) := Heap.get?_push_size _ rfl
  have ee := each_of_paired hp3
  refine wpAny_bind (wpAny_holding (list_sort_data (s := { s1 with heap := s1.heap.push (seqObj "list" vs.toArray 0) }) (enc := pdK) hoL ee (ee.mono fun u k h => ⟨[], reads_key h, by simp⟩) ?_ ?_ ?_ ?_ fun out ho eo => ?_))
  · intro d hd' d2 hd2
    obtain ⟨x, hx, rfl⟩ := List.mem_map.mp hd'
    obtain ⟨y, hy, rfl⟩ := List.mem_map.mp hd2
    exact al x (hk2.mem_iff.mp hx) y (hk2.mem_iff.mp hy)
  · refine .inr fun d hd' => ?_
    obtain ⟨x, hx, rfl⟩ := List.mem_map.mp hd'
    cases x <;> simp [pdK, pOfKey, toPD]
  · rw [← EachIs.length ee]; exact hvz
  · intro k _
    have : (pdK k).depth = 0 := by cases k <;> rfl
    rw [this]
    have : A.in1.units = A.units + 1 := rfl
    omega
  · obtain ⟨c, hc⟩ := sortedHeap_at (vs := vs) (out := out.toArray) hoL
    rw [sortG_data] at eo
    have e2 : sortG (fun a b => dataLt (pdK a) (pdK b)) k2 = sortG ltK ks := sortG_same (hk2.nodup_iff.mpr nd) nd fun k => hk2.mem_iff
    rw [e2] at eo
    refine wpAny_pure ⟨_, rfl, hQ _ s1.heap.objs.size out c (fun b u e => ?_) g1 o1 hz hc eo⟩
    have q := k1 b u e
    have hlt := Heap.lt_size q
    show (sortedHeap (s1.heap.push (seqObj "list" vs.toArray 0)) s1.heap.objs.size vs out.toArray).get? b = some u
    rw [sortedHeap_old (Nat.ne_of_lt hlt) (by rw [size_push']; exact Nat.lt_succ_of_lt hlt)]
    exact Heap.get?_push_of_some _ q
end
theorem boot_sorted : bootBuiltins "sorted" = some (.builtin "sorted") := by decide +kernel
theorem repPs_keys {K : PySem.W.Frag} {m : List Addr} {H : Hp} : ∀ ks : List Key, RepPs K m H (ks.map pOfKey) (ks.map vK)
  | [] => RepPs.nil
  | k :: ks => RepPs.cons (repP_key k) (repPs_keys ks)
theorem sortP_len : ∀ l : List P, (sortP l).length = l.length := by
  intro l
  induction l with
  | nil => rfl
  | cons x xs ih =>
    have : ∀ m : List P, (insP x m).length = m.length + 1 := by
      intro m
      induction m with
      | nil => rfl
      | cons y ys ih => unfold insP; split <;> simp [ih]
    show (insP x (sortP xs)).length = _
    rw [this, ih]; rfl
theorem vals_keys : ∀ {us : List Value} {ks : List Key}, EachIs (fun u k => keyV u = some k) us ks → Vals (ks.map vK) us
  | _, _, .nil => .nil
  | _, _, .cons r t => .cons (relV_key r) (vals_keys t)
section
variable {X : Cx} {a : Expr} {xa : XE} {p p2 q pos : Pos}
theorem rd_set {pins : List (Addr × Obj)} {σ : L2.St} {H : Hp} {s : Shared} {m : List Addr} {ds : List P} {v : V} {u : Value} (I : Inv X pins σ H s) (h : RdT X.K m H (.lst ds) v) (hc : setOk ds = true) (r : RelV v u) :
    ∃ (l : Addr) (its : Array Value) (kz : List Key), u = .ref l ∧ s.heap.IsList l its ∧ its.toList.map keyV = kz.map some ∧ kz.length + 1 < scanBound ∧ ds.map keyP = kz.map some ∧ (∀ a ∈ kz, ∀ b ∈ kz, PySem.W.alike (pdK a) (pdK b) = true) := by
  obtain ⟨l, ws, rfl, f, q⟩ := h
  unfold setOk at hc
  simp only [Bool.and_eq_true, decide_eq_true_eq] at hc
  obtain ⟨z, its, n, rv, eo⟩ := f.ok I.hok
  cases r
  obtain ⟨kz, e, al⟩ := keys_of hc.1
  have hl : kz.length = ds.length := by simpa using (congrArg List.length e).symm
  exact ⟨l, its.toArray, kz, rfl, ⟨_, eo, rfl, n, rfl⟩, keysV_rep q rv e, by rw [hl]; unfold scanBound; omega, e, al⟩
theorem xe_sortedSet (hu : X.A.units + 64 < cLine) (hc : X.calm = true) (hg : Gl X "sorted") (hm : X.mg "sorted" = none) (hg2 : Gl X "set") (hm2 : X.mg "set" = none) (ha : PE X a (tOf X.K xa))
    (na : starEach [a] X.env = (false, eval a X.env) :: starEach [] X.env := by rfl) : PE X (.Call (.Name "sorted" p) [.Call (.Name "set" p2) [a] [] q] [] pos) (tOf X.K (xUn uSortedSet xa)) := by
  refine ⟨fun pins s σ H Q I h => ?_⟩
  refine Call_ (ld_blt I hg hm boot_sorted ?_)
  refine PyProof.Rows.callWith_builtin1 (PyProof.Rows.args_cons ?_ rfl) rfl rfl
  refine Call_ (ld_blt I hg2 hm2 boot_set ?_)
  refine PyProof.Rows.callWith_type1 (PyProof.Rows.args_cons (thn (ha.run pins s σ H _ I h.un) fun v s1 ⟨x, H1, I1, r1, q1⟩ => PyProof.Rows.args_nil ?_) na) na rfl
  obtain ⟨m, G, S, ps, r', hS, hp, hf, k⟩ := q1
  unfold uSortedSet at hf
  split at hf
  · rename_i ds
    split at hf
    · rename_i hok
      cases hf
      obtain ⟨l, its, kz, rfl, hl, hk, hb, e, al⟩ := rd_set I1 hp hok r1
      refine setM_call kz (I1.ok.hd hc) hl hk hb fun h' tk hS' hk' => ?_
      refine PyProof.Rows.args_nil ?_
      have I2 : Inv X pins σ H1 { s1 with heap := h', toks := tk } := I1.kept fun b o e => hk' b o e
      have mem := addAll_mem kz
      have nd : (addAll kz).Nodup := by obtain ⟨_, _, _, _, _, _, _, _, _, _, nd, _⟩ := hS'; exact nd
      refine sorted_setM hS' (I2.ok.hd hc) (by omega) (fun a ha b hb => al a ((mem a).mp ha) b ((mem b).mp hb)) fun s' p' out c kk g o hp' hg' eo => ?_
      have er := sorted_keys e al nd mem
      have hn : H1 p' = none := I2.hok.fresh hp'
      have hlen : ((sortG ltK (addAll kz)).map vK).length ≤ sizeLine := by
        rw [List.length_map]
        have h1 := congrArg List.length er
        have h2 := dedup_len e al nd mem
        have h3 := addAll_len kz
        have h4 : (sortG ltK (addAll kz)).length = (addAll kz).length := by rw [← List.length_map (f := pOfKey), h1, sortP_len, h2]
        rw [h4, sizeLine_eq]; unfold scanBound at hb; omega
      have J : Inv X pins σ (upd H1 p' (.lst ((sortG ltK (addAll kz)).map vK))) { s1 with heap := s'.heap, gens := s'.gens, drawn := s'.drawn, toks := s'.toks } :=
        Inv.call (s := { s1 with heap := h', toks := tk }) I2 (ch := []) (Un.laid kk hp' hn) (I2.hok.laid kk hp' ⟨hlen, out, c, vals_keys eo, hg'⟩) (by rw [g]; exact I2.bare) (fun _ z => nomatch z)
      have es : s' = { s1 with heap := s'.heap, gens := s'.gens, drawn := s'.drawn, toks := s'.toks } := by
        cases s'
        cases s1
        cases o
        rfl
      rw [es]
      have rr : RepPs X.K (m ++ G) H1 (sortP (dedupP ds)) ((sortG ltK (addAll kz)).map vK) := by rw [← er]; exact repPs_keys _
      have ex := Ext.new (o := .lst ((sortG ltK (addAll kz)).map vK)) hn
      exact ⟨.ref p', _, J, rfl, k _ _ ex ⟨_, _, rfl, hS.fresh hn, upd_same, RepPs.step (Step.of_ext ex) _ _ rr⟩ (own_new hS hn rr)⟩
    · cases hf
  · cases hf
end
end XL
end
section
set_option Elab.async false
set_option linter.all false
set_option maxRecDepth 100000
set_option maxHeartbeats 1000000
namespace XL
open PySem L2 PyProof.Rows
/-! ### isinstance -/
def pTy : P → String
  | .non => "NoneType"
  | .bl _ => "bool"
  | .int _ => "int"
  | .str _ => "str"
  | .lst _ => "list"
  | .tup _ => "tuple"
theorem rdT_ty {K : PySem.W.Frag} {m : List Addr} {H : Hp} {d : P} {v : V} (h : RdT K m H d v) : TyX K H v (.type (pTy d)) := by
  cases d with
  | non => cases (show v = .non by simpa only [RdT, RepP] using h); exact .base .non
  | bl b => cases (show v = .bl b by simpa only [RdT, RepP] using h); exact .base (.bl _)
  | int b => cases (show v = .int b by simpa only [RdT, RepP] using h); exact .base (.int _)
  | str b => cases (show v = .str ⟨b.toArray⟩ by simpa only [RdT, RepP] using h); exact .base (.str _)
  | lst ds =>
    obtain ⟨a, vs, rfl, f | ⟨o, f⟩, _⟩ := h
    · exact .base (.lst f)
    · exact .base (.frz f)
  | tup ds =>
    simp only [RdT, RepP] at h
    obtain ⟨a, vs, rfl, f, _⟩ := h
    exact .base (.tup f.1)
theorem boot_isinstance : bootBuiltins "isinstance" = some (.builtin "isinstance") := by decide +kernel
theorem boot_int : bootBuiltins "int" = some (.type "int") := by decide +kernel
theorem boot_bool : bootBuiltins "bool" = some (.type "bool") := by decide +kernel
theorem boot_tuple : bootBuiltins "tuple" = some (.type "tuple") := by decide +kernel
theorem isi_int (d : P) : kitB (pTy d) "int" = some (isiInt d) := by cases d <;> (simp only [pTy, isiInt, isiBool, isiTuple, isiStr]; decide +kernel)
theorem isi_bool (d : P) : kitB (pTy d) "bool" = some (isiBool d) := by cases d <;> (simp only [pTy, isiInt, isiBool, isiTuple, isiStr]; decide +kernel)
theorem isi_tuple (d : P) : kitB (pTy d) "tuple" = some (isiTuple d) := by cases d <;> (simp only [pTy, isiInt, isiBool, isiTuple, isiStr]; decide +kernel)
section
variable {X : Cx} {a : Expr} {xa : XE} {p p2 pos : Pos} {c : Str} {T : String} {f : P → Bool}
theorem xe_isi (hg : Gl X "isinstance") (hm : X.mg "isinstance" = none) (hg2 : Gl X c) (hm2 : X.mg c = none) (hT : bootBuiltins c = some (.type T)) (hf : ∀ d, kitB (pTy d) T = some (f d)) (ha : PE X a (tOf X.K xa))
    (hn : c ≠ "__name__" := by decide) (hdb : (c == ("__debug__" : Str)) = false := by decide)
    (he : starEach (a :: [Expr.Name c p2]) X.env = (false, eval a X.env) :: starEach [Expr.Name c p2] X.env := by rfl) : PE X (.Call (.Name "isinstance" p) [a, .Name c p2] [] pos) (tOf X.K (xUn (pIsi f) xa)) := by
  have hb : PE X (.Name c p2) (tC (.ty T)) := pe_bltn hg2 hm2 hT rfl hn hdb
  have hA : PA X [a, .Name c p2] (tCons (tOf X.K xa) (tCons (tC (.ty T)) tNil)) := pa_cons ha (pa_cons hb pa_nil rfl) he
  refine PE.imp (pe_callB call_isi hg hm boot_isinstance hA (he := he)) fun σ H Q h => ?_
  have h' := h.un
  obtain ⟨m, G, ρ, S, r, S', hE, hS, hx, k⟩ := h'
  refine ⟨m, G, ρ, S, r, S', hE, hS, hx, fun v m' H' s1 hS1 q1 o1 => ?_⟩
  obtain ⟨m2, G2, S2, d, r2, hS2, hd, hf2, k2⟩ := k v m' H' s1 hS1 q1 o1
  cases hf2
  exact ⟨v, .ty T, .type (pTy d), .type T, f d, rfl, .ty T, rdT_ty hd, kit_ty (hf d), k2 _ H' (Ext.refl _) (by simp [RepR, RepP]) trivial⟩
end
end XL
end
section
set_option Elab.async false
set_option linter.all false
set_option maxRecDepth 100000
set_option maxHeartbeats 1000000
namespace XL
open PySem L2 PyProof.Rows
/-! ### methods that read -/
def mOf (K : PySem.W.Frag) (f : P → List P → Option R) : V → List V → Hp → VK → Prop := fun x xs H Q => ∃ m G S p ps r, RepSt K G m S H ∧ RdT K (m ++ G) H p x ∧ RdTs K (m ++ G) H ps xs ∧ f p ps = some r ∧ ∀ v H', Ext H H' → RepR K G m H' r v → Own K H G m H' S r v → Q v H'
def tyN : Ty → String
  | .str => "str"
  | .lst => "list"
theorem ty_rd {K : PySem.W.Frag} {m : List Addr} {H : Hp} {p : P} {v : V} {ty : Ty} (h : RdT K m H p v) (e : isTy ty p = true) : tyV K (tyN ty) v H := by
  cases ty <;> cases p <;> simp [isTy] at e
  · simp only [RdT, RepP] at h; subst h; rfl
  · obtain ⟨a, vs, rfl, f, q⟩ := h
    exact .inl ⟨rfl, vs, .inl f⟩
section
variable {X : Cx} {o e : Expr} {es : List Expr} {xo : XE} {xs : XA} {name : Str} {apos cpos : Pos} {ty : Ty} {id : String} {f : P → List P → Option R}
theorem xe_meth (pa : PlainAttrs (tyN ty)) (slot : Slot (tyN ty) name id) (hty : typeOf (.builtin id) = pure (.type "method_descriptor")) (hm : MtR X id (mOf X.K f)) (ho : PE X o (tOf X.K xo)) (ha : PA X (e :: es) (tOfA X.K xs))
    (hbase : attributeBase o name X.env (eval o X.env) = eval o X.env := by rfl)
    (hfew : ((backTo cpos (starEach (e :: es) X.env)).all (fun x => !x.1) && (backToKw cpos (keywordEach [] X.env)).all (fun x => x.1.isSome)
      && decide ((e :: es).length + ([] : List Keyword).length + (if ([] : List Keyword).isEmpty then 0 else 1) < 30)) = true := by rfl)
    (hline : (apos.endLine == cpos.line) = true := by rfl) (hs : starEach (e :: es) X.env = (false, eval e X.env) :: starEach es X.env := by rfl) (hplain : (backTo cpos (starEach es X.env)).any (·.1) = false := by rfl) :
    PE X (.Call (.Attribute o name apos) (e :: es) [] cpos) (tOf X.K (xMeth ty f xo xs)) :=
  PE.imp (pe_bm pa slot hty hm ho ha hbase hfew hline hs hplain) fun σ H Q h => by
    obtain ⟨m, G, ρ, S, r, S', hE, hS, hx, k⟩ := h
    simp only [xMeth, Option.bind_eq_some_iff, Option.map_eq_some_iff] at hx
    obtain ⟨⟨r1, S1⟩, h1, p0, hp0, hx⟩ := hx
    split at hx
    · rename_i hi
      simp only [Option.bind_eq_some_iff, Option.map_eq_some_iff] at hx
      obtain ⟨⟨rs, S2⟩, h2, p, hp, ps, hps, r', hf, e⟩ := hx
      cases e
      refine ⟨m, G, ρ, S, r1, S1, hE, hS, h1, fun v1 m1 H1 s1 hS1 q1 _ => ⟨ty_rd (q1.rd hS1 hp0) hi, m1, G, ρ, S1, rs, S2, hE.step s1, hS1, h2, fun vs m2 H2 s2 hS2 q2 => ?_⟩⟩
      refine ⟨m2, G, S2, p, ps, _, hS2, (q1.step s2).rd hS2 hp, q2.rds hS2 hps, hf, fun v H' e q o => ?_⟩
      exact k v m2 H' ((s1.trans s2).trans (Step.of_ext e)) (hS2.ext e) q (o.back (s1.trans s2).dom)
    · cases hx
end
section
variable {X : Cx}
theorem mtr_imp {id : String} {f : P → List P → Option R} {r : V → List V → Hp → VK → Prop} (h : MtR X id r) (w : ∀ v vs H Q, mOf X.K f v vs H Q → r v vs H Q) : MtR X id (mOf X.K f) := fun pins s σ H x xs v us Q I rx rv q => h pins s σ H x xs v us Q I rx rv (w x xs H Q q)
theorem idxIn_some {x : P} : ∀ {ds : List P} {j : Nat}, idxIn x ds = some j → ∃ z, ds[j]? = some z ∧ P.pyeq z x = true ∧ ∀ (m : Nat) (z' : P), m < j → ds[m]? = some z' → P.pyeq z' x = false
  | [], j, h => by simp [idxIn] at h
  | y :: ys, j, h => by
    unfold idxIn at h
    split at h
    · rename_i c
      cases h
      exact ⟨y, rfl, c, fun m z' hm => absurd hm (Nat.not_lt_zero _)⟩
    · rename_i c
      simp only [Option.map_eq_some_iff] at h
      obtain ⟨i, hi, rfl⟩ := h
      obtain ⟨z, h1, h2, h3⟩ := idxIn_some hi
      refine ⟨z, by simpa using h1, h2, fun m z' hm hz => ?_⟩
      cases m with
      | zero => simp at hz; subst hz; simpa using c
      | succ m => exact h3 m z' (by omega) (by simpa using hz)
theorem mt_indexX (hu : X.A.units + 65 < cLine) : MtR X "list.index" (mOf X.K mIndex) := mtr_imp (mt_indexD hu) fun v vs H Q h => by
  obtain ⟨m, G, S, p, ps, r, hS, hp, hps, hf, k⟩ := h
  unfold mIndex at hf
  split at hf
  · rename_i ds x
    split at hf
    · rename_i hc
      simp only [Option.map_eq_some_iff] at hf
      obtain ⟨j, hj, rfl⟩ := hf
      simp only [Bool.and_eq_true] at hc
      obtain ⟨y, rfl, hy⟩ := one_arg hps
      obtain ⟨z, h1, h2, h3⟩ := idxIn_some hj
      have hd := hp.dp
      obtain ⟨a, ws, rfl, f, q⟩ := hp
      simp only [toPD] at hd
      refine ⟨a, y, toPD x, toPDs ds, j, toPD z, rfl, rfl, hd, hy.dp, ?_, fit_shaped hc.1, ?_, by rw [eqv_pyeq]; exact h2, fun m z' hm hz => ?_, k _ H (Ext.refl _) (by simp [RepR, RepP]) trivial⟩
      · have := fit_shaped hc.2
        simpa only [toPD] using this
      · rw [toPDs_map, List.getElem?_map, h1]; rfl
      · rw [toPDs_map, List.getElem?_map] at hz
        cases q2 : ds[m]? with
        | none => rw [q2] at hz; cases hz
        | some w => rw [q2] at hz; cases hz; rw [eqv_pyeq]; exact h3 m w hm q2
    · cases hf
  · cases hf
end
end XL
end
section
set_option Elab.async false
set_option linter.all false
set_option maxRecDepth 100000
set_option maxHeartbeats 1000000
namespace XL
open PySem L2 PyProof.Rows
/-! ### stores to cells -/
section
variable {K : PySem.W.Frag} {G m : List Addr} {H : Hp} {S : Sto}
theorem Step.write {a : Addr} {o : HO} (ha : a ∈ m) (hz : ∀ o u, H a ≠ some (.frz o u)) : Step m H m (upd H a o) :=
  ⟨⟨[], by simp, fun _ h => by cases h⟩, fun b u h hb => by
    have : b ≠ a := fun z => hb (z ▸ ha)
    rw [upd_ne this]; exact h, fun b h => by
    by_cases e : b = a
    · subst e; rw [upd_same] at h; cases h
    · rw [upd_ne e] at h; exact h, fun b o' w e => by
    rw [upd_ne (fun z : b = a => hz _ _ (z ▸ e))]; exact e⟩
theorem RepSt.put (hS : RepSt K G m S H) {l : Nat} {a : Addr} {ds : List P} {vs ws : List V} (hl : m[l]? = some a) (hw : H a = some (.lst ws)) (q : RepPs K (m ++ G) H ds vs) : RepSt K G m (S.set l (.lst ds)) (upd H a (.lst vs)) := by
  have ha : a ∈ m := List.mem_of_getElem? hl
  have st : Step m H m (upd H a (.lst vs)) := Step.write ha fun o u z => by rw [hw] at z; cases z
  have hlm : l < m.length := (List.getElem?_eq_some_iff.mp hl).1
  refine ⟨by rw [List.length_set]; exact hS.len, hS.nd, fun j b c hj hc => ?_, fun b hb => ⟨?_, (hS.gd b hb).2⟩⟩
  · by_cases e : j = l
    · subst e
      rw [hl] at hj
      cases hj
      rw [List.getElem?_set_self (by rw [← hS.len]; exact hlm)] at hc
      cases hc
      exact RepC.lst.mpr ⟨vs, upd_same, RepPs.step st _ _ q⟩
    · rw [List.getElem?_set_ne (Ne.symm e)] at hc
      have hne : b ≠ a := fun z => by
        subst z
        exact e ((List.getElem?_inj (List.getElem?_eq_some_iff.mp hj).1 hS.nd).mp (hj.trans hl.symm))
      obtain ⟨vs', o', h1, kk, h2⟩ := hS.cell j b c hj hc
      exact ⟨vs', o', by rw [upd_ne hne]; exact h1, kk, RepPs.step st _ _ h2⟩
  · exact (hS.gd b hb).1.upd fun z => (hS.gd b hb).2 (z ▸ ha)
theorem repPs_set : ∀ {ds : List P} {vs : List V} {j : Nat} {d : P} {v : V}, RepPs K m H ds vs → RepP K m H d v → RepPs K m H (ds.set j d) (vs.set j v)
  | [], vs, j, d, v, h, q => by simp only [RepPs] at h; subst h; exact RepPs.nil
  | e :: ds, vs, j, d, v, h, q => by
    simp only [RepPs] at h
    obtain ⟨u, w, rfl, h1, h2⟩ := h
    cases j with
    | zero => exact RepPs.cons q h2
    | succ j => exact RepPs.cons h1 (repPs_set h2 q)
end
section
variable {X : Cx} {o e : Expr} {xo xa : XE} {apos cpos : Pos}
/-- what o.append(e) etc. stand on -/
theorem cell_of {K : PySem.W.Frag} {G m : List Addr} {S : Sto} {H : Hp} {l : Nat} {v : V} {ds : List P} (hS : RepSt K G m S H) (q : RepR K G m H (.ref l) v) (hc : S[l]? = some (.lst ds)) : ∃ a vs, v = .ref a ∧ m[l]? = some a ∧ H a = some (.lst vs) ∧ RepPs K (m ++ G) H ds vs := by
  obtain ⟨a, rfl, hl⟩ := q
  obtain ⟨vs, h1, h2⟩ := RepC.lst.mp (hS.cell l a _ hl hc)
  exact ⟨a, vs, rfl, hl, h1, h2⟩
theorem xe_append (ho : PE X o (tOf X.K xo)) (ha : PE X e (tOf X.K xa))
    (hbase : attributeBase o "append" X.env (eval o X.env) = eval o X.env := by rfl)
    (hfew : ((backTo cpos (starEach [e] X.env)).all (fun x => !x.1) && (backToKw cpos (keywordEach [] X.env)).all (fun x => x.1.isSome)
      && decide ([e].length + ([] : List Keyword).length + (if ([] : List Keyword).isEmpty then 0 else 1) < 30)) = true := by rfl)
    (hline : (apos.endLine == cpos.line) = true := by rfl) (hs : starEach [e] X.env = (false, eval e X.env) :: starEach [] X.env := by rfl) (hplain : (backTo cpos (starEach [] X.env)).any (·.1) = false := by rfl) :
    PE X (.Call (.Attribute o "append" apos) [e] [] cpos) (tOf X.K (xApp xo xa)) :=
  PE.imp (pe_bm PySem.F.plainAttrs_list PySem.F.slot_list_append PySem.F.type_list_append (r := rAppend) mt_append ho (pa_cons ha pa_nil hs) hbase hfew hline hs hplain) fun σ H Q h => by
    obtain ⟨m, G, ρ, S, r, S', hE, hS, hx, k⟩ := h
    simp only [xApp, Option.bind_eq_some_iff] at hx
    obtain ⟨⟨r1, S1⟩, h1, hx⟩ := hx
    split at hx
    · rename_i l e1
      simp only at e1
      subst e1
      split at hx
      · rename_i ds0 hc0
        simp only [Option.bind_eq_some_iff] at hx
        obtain ⟨⟨r2, S2⟩, h2, hx⟩ := hx
        split at hx
        · rename_i ds hc
          simp only [Option.bind_eq_some_iff] at hx
          obtain ⟨d, hd, hx⟩ := hx
          split at hx
          · rename_i hz
            cases hx
            refine ⟨m, G, ρ, S, _, S1, hE, hS, h1, fun v1 m1 H1 s1 hS1 q1 _ => ⟨?_, m1, G, ρ, S1, r2, S2, hE.step s1, hS1, h2, fun v2 m2 H2 s2 hS2 q2 _ => ?_⟩⟩
            · obtain ⟨a, vs, rfl, hl, hH, hq⟩ := cell_of hS1 q1 hc0
              exact .inl ⟨rfl, vs, .inl (.inl hH)⟩
            · obtain ⟨a, vs, rfl, hl, hH, hq⟩ := cell_of hS2 (q1.step s2) hc
              refine ⟨a, vs, v2, rfl, rfl, hH, ?_, ?_⟩
              · rw [← hq.length]; exact Nat.lt_of_lt_of_le hz (by decide)
              · have st : Step m2 H2 m2 (upd H2 a (.lst (vs ++ [v2]))) := Step.write (List.mem_of_getElem? hl) fun o u z => by rw [hH] at z; cases z
                exact k .non m2 _ ((s1.trans s2).trans st) (hS2.put hl hH (hq.append (RepPs.one (q2.fz hd)))) (by simp [RepR, RepP]) trivial
          · cases hx
        · cases hx
      · cases hx
    · cases hx
theorem ixP_N {n : Nat} {i : Int} {j : Nat} (h : ixP n i = some j) : ixN n i = some j := by
  unfold ixP at h
  unfold ixN
  split at h
  · rename_i c
    rw [if_pos c]
    split at h
    · rename_i c2; rw [if_pos (by omega)]; exact h
    · cases h
  · rename_i c
    rw [if_neg c]
    split at h
    · rename_i c2
      rw [if_pos (by omega)]
      cases h
      congr 1
      omega
    · cases h
theorem xs_putL {i : Expr} {xi : XE} {pos tpos : Pos} (he : PE X e (tOf X.K xa)) (ho : PE X o (tOf X.K xo)) (hi : PE X i (tOf X.K xi))
    (hs : swapsWithSole [.Subscript o i tpos] e pos.line X.env = pure false := by rfl) (hw : swappedStores [.Subscript o i tpos] e X.env = pure none := by rfl)
    (h1 : (assignEach [.Subscript o i tpos] X.env).map (·.2) = [assign (.Subscript o i tpos) X.env] := by rfl)
    (hasg : ∀ v, assign (.Subscript o i tpos) X.env v = (do
      let ov ← holding [v] (eval o X.env)
      let iv ← holding [v, ov] (eval i X.env)
      standAt tpos
      holding [v, ov, iv] (setItem ov iv v)
      release [v, ov, iv] []) := by intro _; rfl) : PS X (.Assign [.Subscript o i tpos] e pos) (tOfS X.K (xPutL xa xo xi)) :=
  PS.imp (ps_asg he (pg_sub ho hi set_list hasg) hs hw h1) fun D σ H h => by
    obtain ⟨m, G, ρ, S, fl, S', hE, hS, hx, k⟩ := h
    simp only [xPutL, Option.bind_eq_some_iff] at hx
    obtain ⟨⟨r0, S0⟩, h0, ⟨r1, S1⟩, h1, ⟨r2, S2⟩, h2, hx⟩ := hx
    split at hx
    · rename_i l j e1 e2
      simp only at e1 e2
      subst e1 e2
      split at hx
      · rename_i ds hc
        simp only [Option.bind_eq_some_iff, Option.map_eq_some_iff] at hx
        obtain ⟨d, hd, n, hn, e⟩ := hx
        cases e
        refine ⟨m, G, ρ, S, r0, S0, hE, hS, h0, fun v0 m0 H0 s0 hS0 q0 _ => ⟨m0, G, ρ, S0, _, S1, hE.step s0, hS0, h1, fun v1 m1 H1 s1 hS1 q1 _ => ⟨m1, G, ρ, S1, _, S2, (hE.step s0).step s1, hS1, h2, fun v2 m2 H2 s2 hS2 q2 _ => ?_⟩⟩⟩
        obtain ⟨a, vs, rfl, hl, hH, hq⟩ := cell_of hS2 (q1.step s2) hc
        have q2' : v2 = .int j := by simpa only [RepR, RepP] using q2
        subst q2'
        have st : Step m2 H2 m2 (upd H2 a (.lst (vs.set n v0))) := Step.write (List.mem_of_getElem? hl) fun o u z => by rw [hH] at z; cases z
        refine ⟨a, vs, j, n, rfl, rfl, hH, by rw [← hq.length]; exact ixP_N hn, ?_⟩
        exact k σ m2 _ (((s0.trans s1).trans s2).trans st) (hS2.put hl hH (repPs_set hq ((q0.step (s1.trans s2)).fz hd))) ((((hE.step s0).step s1).step s2).step st)
      · cases hx
    · cases hx
end
end XL
end
section
set_option Elab.async false
set_option linter.all false
set_option maxRecDepth 100000
set_option maxHeartbeats 1000000
namespace XL
open PySem L2 PyProof.Rows
/-! ### list(range(n)) -/
section
variable {X : Cx} {a : Expr} {xa : XE} {p p2 q pos : Pos}
end
/-! ### tables of the module: texts as keys -/
def KRep (K : PySem.W.Frag) (p : P) (u : Value) : Prop := ∃ v, RelV v u ∧ ∀ m H, RepP K m H p v
theorem KRep.str {K : PySem.W.Frag} {s : List Nat} {x : Str} {t : Tok} (h : x = ⟨s.toArray⟩) : KRep K (.str s) (.str x t) := ⟨.str ⟨s.toArray⟩, ⟨t, by rw [h]⟩, fun m H => by simp [RepP]⟩
theorem KRep.int {K : PySem.W.Frag} {i : Int} {t : Tok} : KRep K (.int i) (.int i t) := ⟨.int i, ⟨t, rfl⟩, fun m H => by simp [RepP]⟩
def KReps (K : PySem.W.Frag) : List P → List Value → Prop
  | [], us => us = []
  | p :: ps, us => ∃ u r, us = u :: r ∧ KRep K p u ∧ KReps K ps r
theorem KReps.all {K : PySem.W.Frag} : ∀ {ps : List P} {us : List Value}, KReps K ps us → ∃ vs, Vals vs us ∧ ∀ m H, RepPs K m H ps vs
  | [], us, h => by cases h; exact ⟨[], .nil, fun _ _ => RepPs.nil⟩
  | p :: ps, us, h => by
    obtain ⟨u, r, rfl, ⟨v, h1, h2⟩, h3⟩ := h
    obtain ⟨vs, h4, h5⟩ := KReps.all h3
    exact ⟨v :: vs, .cons h1 h4, fun m H => RepPs.cons (h2 m H) (h5 m H)⟩
section
variable {X : Cx} {a : Expr} {xa : XE} {p p2 q pos : Pos} {d : Addr} {t : Tab} {c : Str}
end
end XL
end
section
set_option Elab.async false
set_option linter.all false
set_option maxRecDepth 100000
set_option maxHeartbeats 1000000
namespace XL
open PySem L2 PyProof.Rows
theorem xi_any {X : Cx} {tg e : Expr} {xa : XE} (he : PE X e (tOf X.K xa)) : PI X tg e (iOf X.K (xItA xa)) := by
  refine ⟨fun pins s σ H R I h => ?_⟩
  obtain ⟨m, G, ρ, S, ds, lc, S', hE, hS, hx, k⟩ := h
  unfold xItA at hx
  split at hx
  · exact (xi_str he).run pins s σ H R I ⟨m, G, ρ, S, ds, lc, S', hE, hS, hx, k⟩
  · exact (xi_seq he).run pins s σ H R I ⟨m, G, ρ, S, ds, lc, S', hE, hS, hx, k⟩
/-! ### names of the module -/
section
variable {X : Cx} {a : Expr} {xa : XE} {p pos : Pos} {t : Tab} {c : Str} {s : List Nat}
end
/-! ### defs by name -/
structure DefOk (P : Program) (w : World) (K : PySem.W.Frag) (mg : Str → Option Value) (j : Nat) (x : Str) (ps : List Str) (k n : Nat) (b : XS) : Prop where
  ok : ∃ (f : Addr) (fd : FuncData), (∀ base : Heap, FnOk P w K mg base CX0 j f fd ps (spOf K k (mkF k n b))) ∧ mg x = some (.ref f) ∧ PySem.W.keepIn K (.ref f) = true ∧ ∀ us : List Value, us.length = ps.length → bindArgs fd ⟨us, []⟩ = pure (ps.zip us)
section
variable {X : Cx} {e : Expr} {es : List Expr} {x : Str} {ps : List Str} {p pos : Pos} {k j n : Nat} {b : XS} {xs : XD}
theorem xe_defD (D : DefOk X.prog X.w X.K X.mg j x ps k n b) (hr : Room j X.A) (hg : Gl X x) (ha : PA X (e :: es) (tOfD X.K xs)) (hdb : (x == ("__debug__" : Str)) = false := by decide)
    (he : starEach (e :: es) X.env = (false, eval e X.env) :: starEach es X.env := by rfl) (hpl : (backTo pos (starEach es X.env)).any (·.1) = false := by rfl) : PE X (.Call (.Name x p) (e :: es) [] pos) (tOf X.K (xDef (mkF k n b) xs)) := by
  obtain ⟨f, fd, F, hm, hk, hb⟩ := D.ok
  exact xe_def (F _) hr hg hm hk (.all hb) ha hdb he hpl
end
/-- what the top has written of a def -/
structure FunAt (K : PySem.W.Frag) (mg : Str → Option Value) (x : Str) (st : Stmt) (ps : List Str) : Prop where
  ok : ∃ (f : Addr) (fd : FuncData), Fun K x x st f fd ∧ mg x = some (.ref f) ∧ PySem.W.keepIn K (.ref f) = true ∧ ∀ us : List Value, us.length = ps.length → bindArgs fd ⟨us, []⟩ = pure (ps.zip us)
theorem def_ok {Pg : Program} {w : World} {K : PySem.W.Frag} {mg : Str → Option Value} {x : Str} {st : Stmt} {N ps : List Str} {j k n : Nat} {b : XS} (F : FunAt K mg x st ps) (Sc : FnScope N ps (defScope st)) (hk : ps.length = k) (hn : N.length = n)
    (hb : ∀ (base : Heap) (f : Addr) (cdv : Value) (A : Around) (outer : List PySem.Env) (s : Shared) (H : Hp) (E : XK), Room j (A.deeper (envOfC x (defScope st) s.heap.objs.size f cdv)) → PSs (cxOf CX0 Pg w K mg base N x (defScope st) f cdv A outer s H E).nox (defBody st) (tOfS K b)) :
    DefOk Pg w K mg (j + 1) x ps k n b := by
  subst hk hn
  obtain ⟨f, fd, F, h1, h2, h3⟩ := F.ok
  exact ⟨f, fd, fun base => ok_def F Sc (fun cdv A outer s H E => hb base f cdv A outer s H E), h1, h2, h3⟩
theorem fun_at {K : PySem.W.Frag} {h : Heap} {mg : Str → Option Value} (X : K.In h) (G : h.Ns mainGlobals mg) {x : Str} {st : Stmt} {ps : List Str} {f : Addr} {oc : Value} {od an : Option Addr} {osl : Array (Option Value)} {kV doc pm cdv ct : Value}
    (a : PySem.W.nsIn K mainGlobals x = some (some (.ref f))) (l : K.lookup f = some ⟨oc, od, .func (PySem.W.fnOf x x (defArgs st) (defBody st) (defScope st) .none kV doc pm an cdv ct), osl⟩) (c : PySem.W.codeIn K cdv x = true) (k : PySem.W.keepIn K (.ref f) = true)
    (hb : ∀ (us : List Value), us.length = ps.length → bindArgs (PySem.W.fnOf x x (defArgs st) (defBody st) (defScope st) .none kV doc pm an cdv ct) ⟨us, []⟩ = pure (ps.zip us)) : FunAt K mg x st ps :=
  ⟨f, _, fun_mk (st := st) l c k, PySem.W.mg_of X G a, k, hb⟩
theorem law_fin {Pg : Program} {w : World} {K : PySem.W.Frag} {mg : Str → Option Value} {fa : Addr} {j n : Nat} {b : XS} {nm : Str} (hmg : mg nm = some (.ref fa)) (D : DefOk Pg w K mg j nm ["script"] 1 n b) :
    ∃ fd : FuncData, (∀ (s : Shared) (u : Value), BindsTo s fd ⟨[u], []⟩ [("script", u)]) ∧ ∀ base : Heap, K.In base → base.Ns mainGlobals mg → FnOk Pg w K mg base CX0 j fa fd ["script"] (spOf K 1 (mkF 1 n b)) := by
  obtain ⟨f, fd, F, hm, hk, hb⟩ := D.ok
  rw [hmg] at hm
  cases hm
  exact ⟨fd, fun s u => .of_eq (hb [u] rfl), fun base _ _ => F base⟩
theorem rm64 {A : Around} {k : Nat} (hr : Room k A) : A.units + 64 < cLine := hr.units
theorem rm65 {A : Around} {k : Nat} (hr : Room k A) : A.units + 65 < cLine := by have := hr.un; omega
/-! ### the end -/
def NoL (K : PySem.W.Frag) : Prop := (K.all fun p => !(p.2.cls == Value.type "list")) = true
theorem noL_lookup {K : PySem.W.Frag} (h : NoL K) {a : Addr} {o : Obj} (e : K.lookup a = some o) : o.cls ≠ .type "list" := by
  have hm : (a, o) ∈ K := by
    revert e
    clear h
    induction K with
    | nil => intro e; cases e
    | cons p r ih =>
      intro e
      obtain ⟨b, x⟩ := p
      rw [List.lookup_cons] at e
      split at e
      · rename_i q
        cases e
        have : a = b := by simpa using q
        subst this
        exact List.mem_cons_self
      · exact List.mem_cons_of_mem _ (ih e)
  have := List.all_eq_true.mp h _ hm
  intro z
  simp [z] at this
theorem script_rep {K : PySem.W.Frag} {H : Hp} : ∀ ns : List Int, RepPs K [] H (ns.map P.int) (ns.map V.int)
  | [] => RepPs.nil
  | n :: ns => RepPs.cons (by simp [RepP]) (script_rep ns)
theorem law_walk {l : PySem.W.OpenLaw} {k n : Nat} {q : Program} {loose : List Str} {XP : (Str → Option Value) → Heap → Prop} {YP : World → Heap → Prop} {d : DefRec} {K : Params → PySem.W.Frag} {f : XF}
    (hn : l.most = some n) (hn2 : n ≤ 63) (hdf : d.params.defaults = []) (hr : Room k callerA) (hY : ∀ (w : World) (h : Heap), YP w h → (K w.params).In h) (hL : ∀ P : Params, NoL (K P))
    (F : ∀ (w : World) (mg : Str → Option Value) (fa : Addr) (h : Heap), (K w.params).In h → h.Ns mainGlobals mg → mg d.name = some (.ref fa) →
      ∃ fd : FuncData, (∀ (s : Shared) (u : Value), BindsTo s fd ⟨[u], []⟩ [("script", u)]) ∧ ∀ base : Heap, (K w.params).In base → base.Ns mainGlobals mg → FnOk l.prog w (K w.params) mg base CX0 k fa fd ["script"] (spOf (K w.params) 1 f))
    (law : ∀ ns : List Int, ns.length ≤ 63 → ∃ S, f [.p (.lst (ns.map P.int))] [] = some (.p (.bl true), S)) :
    PySem.W.WalkO q loose XP YP l.row.toRowW d [] (fun f vs => PySem.call f vs) := by
  refine L2.walk_of (n := n) (k := k) (x := "script") (CX := fun _ => CX0) (sp := fun w => spOf (K w.params) 1 f) hn (Nat.le_trans hn2 (by decide)) hdf hr hY F (fun w H a ns hl hO hS => ?_) fun _ _ _ _ _ z => z
  obtain ⟨S, e⟩ := law ns (Nat.le_trans hl hn2)
  have hr : Rd H a (.lst (ns.map V.int)) := by
    rcases hS with h | ⟨o, its, m, h1, h2, _⟩
    · exact h
    · exact absurd h2 (noL_lookup (hL w.params) h1)
  refine ⟨[], [], [], [.p (.lst (ns.map P.int))], _, S, rfl, ⟨rfl, List.nodup_nil, fun l a c h => by simp at h, fun a h => by simp at h⟩, ?_, e, fun v H' _ _ q _ => ?_⟩
  · refine ⟨.ref a, [], rfl, ?_, rfl⟩
    simp only [RepD, RepP]
    exact ⟨a, _, rfl, .inl ⟨hr, by simp⟩, script_rep ns⟩
  · simpa only [RepR, RepP] using q
end XL
end
section
set_option Elab.async false
set_option linter.all false
set_option maxRecDepth 100000
set_option maxHeartbeats 1000000
namespace XL
open PySem L2 PyProof.Rows
/-! ### dicts with plain keys -/
theorem keyP_inj {a b : P} {k : Key} (h1 : keyP a = some k) (h2 : keyP b = some k) : a = b := by
  rw [← pOfKey_keyP h1, ← pOfKey_keyP h2]
theorem keyOk_some {p : P} (h : keyOkP p = true) : ∃ k, keyP p = some k := by
  cases p <;> simp [keyOkP] at h <;> exact ⟨_, rfl⟩
theorem kV_rep {K : PySem.W.Frag} {m : List Addr} {H : Hp} {p : P} {v : V} {k : Key} (h : RdT K m H p v) (e : keyP p = some k) : v = kV k := by
  cases p <;> simp [keyP] at e <;> subst e <;> simp only [RdT, RepP] at h <;> subst h <;> rfl
section
variable {K : PySem.W.Frag} {m : List Addr} {H : Hp}
theorem look_rep {κ : Type} [DecidableEq κ] {kf : P → Option κ} (inj : ∀ {a b : P} {k : κ}, kf a = some k → kf b = some k → a = b) {p : P} {k : κ} (hk : kf p = some k) : ∀ {kvs : List (P × P)} {ks : List κ} {ws : List V}, (kvs.map (·.1)).map kf = ks.map some → RepPs K m H (kvs.map (·.2)) ws →
    (∀ d, lookD kvs p = some d → ∃ v, valV (ks.zip ws) k = some v ∧ RepP K m H d v) ∧ (lookD kvs p = none → valV (ks.zip ws) k = none)
  | [], ks, ws, h, r => by
    cases ks with
    | nil => exact ⟨fun d h => by simp [lookD] at h, fun _ => rfl⟩
    | cons _ _ => simp at h
  | (q, e) :: kvs, ks, ws, h, r => by
    cases ks with
    | nil => simp at h
    | cons kq ks =>
      simp only [List.map_cons, List.cons.injEq] at h
      simp only [List.map_cons, RepPs] at r
      obtain ⟨v, w, rfl, r1, r2⟩ := r
      obtain ⟨i1, i2⟩ := look_rep inj hk h.2 r2
      by_cases c : q = p
      · subst c
        have e0 : kq = k := Option.some.inj (h.1.symm.trans hk)
        subst e0
        have e1 : lookD ((q, e) :: kvs) q = some e := by simp [lookD]
        have e2 : valV ((kq :: ks).zip (v :: w)) kq = some v := by simp [valV]
        rw [e1, e2]
        exact ⟨fun d hd => by cases hd; exact ⟨v, rfl, r1⟩, fun h => by cases h⟩
      · have c2 : kq ≠ k := fun z => c (inj (z ▸ h.1) hk)
        have e1 : lookD ((q, e) :: kvs) p = lookD kvs p := by simp [lookD, List.find?_cons, c]
        have e2 : valV ((kq :: ks).zip (v :: w)) k = valV (ks.zip w) k := by simp [valV, List.find?_cons, c2]
        rw [e1, e2]
        exact ⟨i1, i2⟩
theorem put_rep {κ : Type} [DecidableEq κ] {kf : P → Option κ} (inj : ∀ {a b : P} {k : κ}, kf a = some k → kf b = some k → a = b) {p d : P} {k : κ} {v : V} (hk : kf p = some k) (hd : RepP K m H d v) : ∀ {kvs : List (P × P)} {ks : List κ} {ws : List V}, (kvs.map (·.1)).map kf = ks.map some → RepPs K m H (kvs.map (·.2)) ws →
    ∃ (ks' : List κ) (ws' : List V), putK (ks.zip ws) k v = ks'.zip ws' ∧ ((putD kvs p d).map (·.1)).map kf = ks'.map some ∧ RepPs K m H ((putD kvs p d).map (·.2)) ws' := by
  intro kvs ks ws h r
  have anyE : ∀ {kvs : List (P × P)} {ks : List κ} {ws : List V}, (kvs.map (·.1)).map kf = ks.map some → RepPs K m H (kvs.map (·.2)) ws → ((ks.zip ws).any fun kv => decide (kv.1 = k)) = (kvs.any fun kv => decide (kv.1 = p)) := by
    intro kvs
    induction kvs with
    | nil => intro ks ws h r; cases ks with
      | nil => rfl
      | cons _ _ => simp at h
    | cons q kvs ih =>
      intro ks ws h r
      cases ks with
      | nil => simp at h
      | cons kq ks =>
        simp only [List.map_cons, List.cons.injEq] at h
        simp only [List.map_cons, RepPs] at r
        obtain ⟨u, w, rfl, r1, r2⟩ := r
        simp only [List.zip_cons_cons, List.any_cons, ih h.2 r2]
        congr 1
        rw [decide_eq_decide]
        exact ⟨fun z => inj (z ▸ h.1) hk, fun z => by rw [z, hk] at h; exact (Option.some.inj h.1).symm⟩
  unfold putK putD
  rw [anyE h r]
  split
  · rename_i c
    have mapE : ∀ {kvs : List (P × P)} {ks : List κ} {ws : List V}, (kvs.map (·.1)).map kf = ks.map some → RepPs K m H (kvs.map (·.2)) ws → ∃ ws', ((ks.zip ws).map fun kv => if kv.1 = k then (kv.1, v) else kv) = ks.zip ws' ∧ RepPs K m H ((kvs.map fun kv => if kv.1 = p then (kv.1, d) else kv).map (·.2)) ws' ∧ ((kvs.map fun kv => if kv.1 = p then (kv.1, d) else kv).map (·.1)).map kf = ks.map some := by
      intro kvs
      induction kvs with
      | nil => intro ks ws h r; cases ks with
        | nil => exact ⟨[], rfl, RepPs.nil, rfl⟩
        | cons _ _ => simp at h
      | cons q kvs ih =>
        intro ks ws h r
        cases ks with
        | nil => simp at h
        | cons kq ks =>
          simp only [List.map_cons, List.cons.injEq] at h
          simp only [List.map_cons, RepPs] at r
          obtain ⟨u, w, rfl, r1, r2⟩ := r
          obtain ⟨ws', e1, e2, e3⟩ := ih h.2 r2
          by_cases c : q.1 = p
          · have c2 : kq = k := by rw [c, hk] at h; exact (Option.some.inj h.1).symm
            refine ⟨v :: ws', ?_, ?_, ?_⟩
            · simp only [List.zip_cons_cons, List.map_cons, c2, if_true, e1]
            · simp only [List.map_cons, c, if_true]; exact RepPs.cons hd e2
            · simp only [List.map_cons, c, if_true, e3, List.cons.injEq, and_true]; rw [← c]; exact h.1
          · have c2 : kq ≠ k := fun z => c (inj (z ▸ h.1) hk)
            refine ⟨u :: ws', ?_, ?_, ?_⟩
            · simp only [List.zip_cons_cons, List.map_cons, c2, if_false, e1]
            · simp only [List.map_cons, c, if_false]; exact RepPs.cons r1 e2
            · simp only [List.map_cons, c, if_false, e3, List.cons.injEq, and_true]; exact h.1
    obtain ⟨ws', e1, e2, e3⟩ := mapE h r
    exact ⟨ks, ws', e1, e3, e2⟩
  · refine ⟨ks ++ [k], ws ++ [v], ?_, ?_, ?_⟩
    · have hl : ks.length = ws.length := by
        have a := congrArg List.length h
        simp only [List.length_map] at a
        have b := r.length
        simp only [List.length_map] at b
        omega
      rw [List.zip_append hl]; rfl
    · simp only [List.map_append, List.map_cons, List.map_nil, h, hk]
    · simp only [List.map_append, List.map_cons, List.map_nil]; exact r.append (RepPs.one hd)
end
theorem tksP_inj : ∀ {as bs : List P} {k : List Key}, tksP as = some k → tksP bs = some k → as = bs
  | [], [], _, _, _ => rfl
  | [], b :: bs, k, h1, h2 => by
    simp only [tksP, Option.bind_eq_some_iff, Option.map_eq_some_iff] at h1 h2
    obtain ⟨_, _, _, _, rfl⟩ := h2
    cases h1
  | a :: as, [], k, h1, h2 => by
    simp only [tksP, Option.bind_eq_some_iff, Option.map_eq_some_iff] at h1 h2
    obtain ⟨_, _, _, _, rfl⟩ := h1
    cases h2
  | a :: as, b :: bs, k, h1, h2 => by
    simp only [tksP, Option.bind_eq_some_iff, Option.map_eq_some_iff] at h1 h2
    obtain ⟨x, hx, xs, hxs, rfl⟩ := h1
    obtain ⟨y, hy, ys, hys, e⟩ := h2
    obtain ⟨rfl, rfl⟩ := List.cons.inj e
    rw [keyP_inj hx hy, tksP_inj hxs hys]
theorem tkP_inj {a b : P} {k : List Key} (h1 : tkP a = some k) (h2 : tkP b = some k) : a = b := by
  cases a <;> simp [tkP] at h1
  cases b <;> simp [tkP] at h2
  rw [tksP_inj h1 h2]
theorem keysT_some : ∀ {ds : List P}, ds.all keyOkP = true → ∃ k, tksP ds = some k
  | [], _ => ⟨[], rfl⟩
  | d :: ds, h => by
    simp only [List.all_cons, Bool.and_eq_true] at h
    obtain ⟨k, hk⟩ := keyOk_some h.1
    obtain ⟨ks, hks⟩ := keysT_some h.2
    exact ⟨k :: ks, by simp [tksP, hk, hks]⟩
theorem reps_keys {K : PySem.W.Frag} {m : List Addr} {H : Hp} : ∀ {ds : List P} {vs : List V} {k : List Key}, RepPs K m H ds vs → tksP ds = some k → vs = k.map kV
  | [], vs, k, r, e => by simp only [RepPs] at r; cases e; exact r
  | d :: ds, vs, k, r, e => by
    simp only [RepPs] at r
    obtain ⟨v, w, rfl, r1, r2⟩ := r
    simp only [tksP, Option.bind_eq_some_iff, Option.map_eq_some_iff] at e
    obtain ⟨x, hx, xs, hxs, rfl⟩ := e
    rw [kV_rep r1.rdt hx, reps_keys r2 hxs]; rfl
/-- a key that is a tuple, in the heap map -/
theorem tup_key {K : PySem.W.Frag} {m : List Addr} {H : Hp} {p : P} {v : V} {k : List Key} (h : RdT K m H p v) (e : tkP p = some k) : ∃ b, v = .ref b ∧ H b = some (.tup (k.map kV)) := by
  cases p <;> simp [tkP] at e
  simp only [RdT, RepP] at h
  obtain ⟨b, vs, rfl, f, r⟩ := h
  exact ⟨b, rfl, by rw [← reps_keys r e]; exact f.1⟩
/-- what a dict holds at a key -/
theorem dget_of {K : PySem.W.Frag} {G m : List Addr} {S : Sto} {H : Hp} {r : R} {v : V} {t : Bool} {kvs : List (P × P)} (hS : RepSt K G m S H) (q : RepR K G m H r v) (hc : r.dict S = some (t, kvs)) {p : P} {y : V} (hok : keyOk t p = true) (hy : RdT K (m ++ G) H p y) :
    ∃ a o, v = .ref a ∧ DGet H a y o ∧ (∀ d, lookD kvs p = some d → ∃ w, o = some w ∧ RepP K (m ++ G) H d w) ∧ (lookD kvs p = none → o = none) := by
  cases r with
  | ref l =>
    simp only [R.dict] at hc
    split at hc
    · rename_i lk t kvs' h
      cases hc
      obtain ⟨a, rfl, hl⟩ := q
      obtain ⟨ws, o, z, ho, hr⟩ := hS.cell l a _ hl h
      have hR : ∃ u, Rd H a u ∧ DictU t (kvs.map (·.1)) ws u := by
        cases lk with
        | false => exact ⟨o, .inl z, ho⟩
        | true => obtain ⟨ob, u, rfl, hu⟩ := ho; exact ⟨u, .inr ⟨ob, z⟩, hu⟩
      obtain ⟨u, hR, hu⟩ := hR
      cases t with
      | false =>
        obtain ⟨ks, hks, rfl⟩ := hu
        obtain ⟨ky, hky⟩ := keyOk_some hok
        obtain ⟨l1, l2⟩ := look_rep keyP_inj hky hks hr
        exact ⟨a, _, rfl, .inl ⟨_, ky, hR, kV_rep hy hky, rfl⟩, l1, l2⟩
      | true =>
        obtain ⟨ks, hks, rfl⟩ := hu
        cases p with
        | tup ds =>
          obtain ⟨ky, hky⟩ := keysT_some (ds := ds) hok
          obtain ⟨b, rfl, hb⟩ := tup_key (p := .tup ds) hy hky
          obtain ⟨l1, l2⟩ := look_rep tkP_inj (p := .tup ds) hky hks hr
          exact ⟨a, _, rfl, .inr ⟨_, ky, b, hR, rfl, hb, rfl⟩, l1, l2⟩
        | _ => cases hok
    · cases hc
  | p d => simp [R.dict] at hc
  | frl d => simp [R.dict] at hc
  | frd t d => simp [R.dict] at hc
section
variable {X : Cx} {o i e : Expr} {xo xi xe : XE} {pos tpos : Pos}
theorem xe_newD : PE X (.Dict [] [] pos) (tOf X.K (xNewD false)) := PE.imp pe_dnewK fun σ H Q h => by
  obtain ⟨m, G, ρ, S, r, S', hE, hS, hx, k⟩ := h
  cases hx
  intro p hp
  have ex := Ext.new (o := .dK []) hp
  have hh : HoOf (.dct false false []) [] (.dK []) := ⟨[], rfl, rfl⟩
  refine k _ m _ (Step.of_ext ex) (hS.ext ex) ⟨p, rfl, hS.fresh hp, [], .dK [], upd_same, hh, RepPs.nil⟩ (own_newD hS hp hh RepPs.nil)
theorem xe_getD (hu : X.A.units + 64 < cLine) (ho : PE X o (tOf X.K xo)) (hi : PE X i (tOf X.K xi)) (hs : NoSl i) : PE X (.Subscript o i pos) (tOf X.K (xGetD xo xi)) := PE.imp (pe_dget (by omega) ho hi hs) fun σ H Q h => by
  obtain ⟨m, G, ρ, S, r, S', hE, hS, hx, k⟩ := h
  simp only [xGetD, Option.bind_eq_some_iff] at hx
  obtain ⟨⟨r1, S1⟩, h1, ⟨r2, S2⟩, h2, ⟨t, kvs⟩, hd, p, hp, hx⟩ := hx
  split at hx
  · rename_i hc
    simp only [Option.map_eq_some_iff] at hx
    obtain ⟨v0, hv0, e⟩ := hx
    cases e
    refine ⟨m, G, ρ, S, r1, S1, hE, hS, h1, fun v1 m1 H1 s1 hS1 q1 _ => ⟨m1, G, ρ, S1, r2, _, hE.step s1, hS1, h2, fun v2 m2 H2 s2 hS2 q2 _ => ?_⟩⟩
    obtain ⟨a, ov, rfl, g, l1, _⟩ := dget_of hS2 (q1.step s2) hd hc (q2.rd hS2 hp)
    obtain ⟨w, rfl, rw'⟩ := l1 v0 hv0
    exact ⟨a, w, rfl, g, k w m2 H2 (s1.trans s2) hS2 rw' trivial⟩
  · cases hx
theorem RepSt.putC {K : PySem.W.Frag} {G m : List Addr} {H : Hp} {S : Sto} (hS : RepSt K G m S H) {l : Nat} {a : Addr} {c : Cell} {ho ho0 : HO} {vs : List V} (hl : m[l]? = some a) (hw : H a = some ho0) (hz : ∀ o u, ho0 ≠ .frz o u) (hh : HoOf c vs ho) (q : RepPs K (m ++ G) H c.vals vs) : RepSt K G m (S.set l c) (upd H a ho) := by
  have ha : a ∈ m := List.mem_of_getElem? hl
  have st : Step m H m (upd H a ho) := Step.write ha fun o u z => by rw [hw] at z; exact hz o u (Option.some.inj z)
  have hlm : l < m.length := (List.getElem?_eq_some_iff.mp hl).1
  refine ⟨by rw [List.length_set]; exact hS.len, hS.nd, fun j b c' hj hc => ?_, fun b hb => ⟨(hS.gd b hb).1.upd fun z => (hS.gd b hb).2 (z ▸ ha), (hS.gd b hb).2⟩⟩
  by_cases e : j = l
  · subst e
    rw [hl] at hj
    cases hj
    rw [List.getElem?_set_self (by rw [← hS.len]; exact hlm)] at hc
    cases hc
    exact ⟨vs, ho, upd_same, hh, RepPs.step st _ _ q⟩
  · rw [List.getElem?_set_ne (Ne.symm e)] at hc
    have hne : b ≠ a := fun z => by
      subst z
      exact e ((List.getElem?_inj (List.getElem?_eq_some_iff.mp hj).1 hS.nd).mp (hj.trans hl.symm))
    obtain ⟨vs', o', h1, kk, h2⟩ := hS.cell j b c' hj hc
    exact ⟨vs', o', by rw [upd_ne hne]; exact h1, kk, RepPs.step st _ _ h2⟩
theorem xs_putD (hu : X.A.units + 64 < cLine) (he : PE X e (tOf X.K xe)) (ho : PE X o (tOf X.K xo)) (hi : PE X i (tOf X.K xi))
    (hs : swapsWithSole [.Subscript o i tpos] e pos.line X.env = pure false := by rfl) (hw : swappedStores [.Subscript o i tpos] e X.env = pure none := by rfl)
    (h1 : (assignEach [.Subscript o i tpos] X.env).map (·.2) = [assign (.Subscript o i tpos) X.env] := by rfl)
    (hasg : ∀ v, assign (.Subscript o i tpos) X.env v = (do
      let ov ← holding [v] (eval o X.env)
      let iv ← holding [v, ov] (eval i X.env)
      standAt tpos
      holding [v, ov, iv] (setItem ov iv v)
      release [v, ov, iv] []) := by intro _; rfl) : PS X (.Assign [.Subscript o i tpos] e pos) (tOfS X.K (xPutD xe xo xi)) :=
  PS.imp (ps_asg he (pg_sub ho hi (set_dict (show X.A.units + 1 < cLine by omega)) hasg) hs hw h1) fun D σ H h => by
    obtain ⟨m, G, ρ, S, fl, S', hE, hS, hx, k⟩ := h
    simp only [xPutD, Option.bind_eq_some_iff] at hx
    obtain ⟨⟨r0, S0⟩, h0, ⟨r1, S1⟩, h1, ⟨r2, S2⟩, h2, hx⟩ := hx
    split at hx
    · rename_i l e1
      simp only at e1
      subst e1
      split at hx
      · rename_i t kvs hc
        simp only [Option.bind_eq_some_iff] at hx
        obtain ⟨d, hd, p, hp, hx⟩ := hx
        split at hx
        · rename_i hcc
          simp only [Bool.and_eq_true, decide_eq_true_eq] at hcc
          cases hx
          refine ⟨m, G, ρ, S, r0, S0, hE, hS, h0, fun v0 m0 H0 s0 hS0 q0 _ => ⟨m0, G, ρ, S0, _, S1, hE.step s0, hS0, h1, fun v1 m1 H1 s1 hS1 q1 _ => ⟨m1, G, ρ, S1, _, S2, (hE.step s0).step s1, hS1, h2, fun v2 m2 H2 s2 hS2 q2 _ => ?_⟩⟩⟩
          obtain ⟨a, rfl, hl⟩ := q1.step s2
          obtain ⟨ws, ob, z, hu, hws⟩ := hS2.cell l a _ hl hc
          have hlen : ∀ {κ : Type} (ks : List κ), (ks.zip ws).length < sizeLine := fun ks => by
            have a1 := hws.length
            simp only [Cell.vals, List.length_map] at a1
            have : (ks.zip ws).length ≤ ws.length := by rw [List.length_zip]; exact Nat.min_le_right _ _
            have hb : kvs.length < sizeLine := Nat.lt_of_lt_of_le hcc.2 (by decide)
            omega
          cases t with
          | false =>
            obtain ⟨ks, hks, rfl⟩ := hu
            obtain ⟨ky, hky⟩ := keyOk_some hcc.1
            obtain ⟨ks', ws', e1, e2, e3⟩ := put_rep keyP_inj hky ((q0.step (s1.trans s2)).fz hd) hks hws
            have hh : HoOf (.dct false false (putD kvs p d)) ws' (.dK (ks'.zip ws')) := ⟨ks', e2, rfl⟩
            have st : Step m2 H2 m2 (upd H2 a (.dK (ks'.zip ws'))) := Step.write (List.mem_of_getElem? hl) fun o u y => by rw [z] at y; cases y
            refine ⟨a, upd H2 a (.dK (ks'.zip ws')), rfl, .inl ⟨ks.zip ws, ky, z, kV_rep (q2.rd hS2 hp) hky, hlen ks, by rw [e1]⟩, ?_⟩
            exact k σ m2 _ (((s0.trans s1).trans s2).trans st) (hS2.putC hl z (fun o u y => by cases y) hh e3) ((((hE.step s0).step s1).step s2).step st)
          | true =>
            obtain ⟨ks, hks, rfl⟩ := hu
            cases p with
            | tup ds =>
              obtain ⟨ky, hky⟩ := keysT_some (ds := ds) hcc.1
              obtain ⟨b, rfl, hb⟩ := tup_key (p := .tup ds) (q2.rd hS2 hp) hky
              obtain ⟨ks', ws', e1, e2, e3⟩ := put_rep tkP_inj (p := .tup ds) hky ((q0.step (s1.trans s2)).fz hd) hks hws
              have hh : HoOf (.dct false true (putD kvs (.tup ds) d)) ws' (.dT (ks'.zip ws')) := ⟨ks', e2, rfl⟩
              have st : Step m2 H2 m2 (upd H2 a (.dT (ks'.zip ws'))) := Step.write (List.mem_of_getElem? hl) fun o u y => by rw [z] at y; cases y
              refine ⟨a, upd H2 a (.dT (ks'.zip ws')), rfl, .inr ⟨ks.zip ws, ky, b, z, rfl, hb, hlen ks, by rw [e1]⟩, ?_⟩
              exact k σ m2 _ (((s0.trans s1).trans s2).trans st) (hS2.putC hl z (fun o u y => by cases y) hh e3) ((((hE.step s0).step s1).step s2).step st)
            | _ => exact absurd hcc.1 (by simp [keyOk, keyOkT])
        · cases hx
      · cases hx
    · cases hx
end
end XL
end
section
set_option Elab.async false
set_option linter.all false
set_option maxRecDepth 100000
set_option maxHeartbeats 1000000
namespace XL
open PySem L2 PyProof.Rows
section
variable {K : PySem.W.Frag} {G m : List Addr} {H : Hp} {S : Sto}
/-! ### locking a dict -/
theorem dictU_mut {t : Bool} {ks : List P} {ws : List V} {u : HO} (h : DictU t ks ws u) : Mut (some u) := by
  cases t with
  | false => obtain ⟨k, _, rfl⟩ := h; trivial
  | true => obtain ⟨k, _, rfl⟩ := h; trivial
theorem dictU_nofrz {t : Bool} {ks : List P} {ws : List V} {u : HO} (h : DictU t ks ws u) : ∀ o w, u ≠ .frz o w := by
  intro o w e
  subst e
  cases t with
  | false => obtain ⟨k, _, e⟩ := h; cases e
  | true => obtain ⟨k, _, e⟩ := h; cases e
/-- a cell's object is exchanged for one with the same values -/
theorem RepSt.swap (hS : RepSt K G m S H) {l : Nat} {a : Addr} {c : Cell} {ho : HO} {vs : List V} (hl : m[l]? = some a) (hh : HoOf c vs ho) (q : RepPs K (m ++ G) H c.vals vs) : RepSt K G m (S.set l c) (upd H a ho) := by
  have ha : a ∈ m := List.mem_of_getElem? hl
  have hlm : l < m.length := (List.getElem?_eq_some_iff.mp hl).1
  have mv : ∀ (ds : List P) (ws : List V), RepPs K (m ++ G) H ds ws → RepPs K (m ++ G) (upd H a ho) ds ws :=
    (RepP.move (G := G) (G' := G) (m := m) (m' := m) (fun b o e hm => by
      rw [upd_ne (fun z : b = a => hm (List.mem_append_left _ (z ▸ ha)))]; exact e) (fun b hb => .inl hb)).2
  refine ⟨by rw [List.length_set]; exact hS.len, hS.nd, fun j b c' hj hc => ?_, fun b hb => ⟨(hS.gd b hb).1.upd fun z => (hS.gd b hb).2 (z ▸ ha), (hS.gd b hb).2⟩⟩
  · by_cases e : j = l
    · subst e
      rw [hl] at hj
      cases hj
      rw [List.getElem?_set_self (by rw [← hS.len]; exact hlm)] at hc
      cases hc
      exact ⟨vs, ho, upd_same, hh, mv _ _ q⟩
    · rw [List.getElem?_set_ne (Ne.symm e)] at hc
      have hne : b ≠ a := fun z => by
        subst z
        exact e ((List.getElem?_inj (List.getElem?_eq_some_iff.mp hj).1 hS.nd).mp (hj.trans hl.symm))
      obtain ⟨vs', o', h1, kk, h2⟩ := hS.cell j b c' hj hc
      exact ⟨vs', o', by rw [upd_ne hne]; exact h1, kk, mv _ _ h2⟩
theorem RepE.swap {ρ : Env} {σ : L2.St} {a : Addr} {ho : HO} (hE : RepE K G m H ρ σ) (ha : a ∈ m) : RepE K G m (upd H a ho) ρ σ :=
  ⟨hE.len, fun i d e => by
    obtain ⟨v, hv, q⟩ := hE.slot i d e
    refine ⟨v, hv, ?_⟩
    cases d with
    | p d => exact (RepP.move (G := G) (G' := G) (m := m) (m' := m) (fun b o e hm => by
        rw [upd_ne (fun z : b = a => hm (List.mem_append_left _ (z ▸ ha)))]; exact e) (fun b hb => .inl hb)).1 d v q
    | ref l => exact q⟩
/-- the dict's keys, walked while it is locked -/
theorem itok_dict {a : Addr} {l : Nat} {ob : Obj} {kvs : List (P × P)} {ks : List Key} {ws : List V} (hm : m[l]? = some a) (hH : H a = some (.frz ob (.dK (ks.zip ws)))) (hk : (kvs.map (·.1)).map keyP = ks.map some) (hl : ks.length = ws.length) :
    ItOk K G m H (kvs.map (·.1)) (some l) S (Itk a ob (ks.zip ws)) := by
  have len : (kvs.map (·.1)).length = (ks.zip ws).length := by
    have := congrArg List.length hk
    simp only [List.length_map] at this
    rw [List.length_map, List.length_zip]; omega
  refine ⟨fun i d G1 m1 H1 S1 hd s hg hS _ => ?_, fun i d G1 m1 H1 S1 x H2 hd s hg hS _ hy => ?_, fun G1 m1 H1 S1 s hg hS _ => ?_⟩
  · exact ⟨s.fz _ _ _ hH, by rw [← len]; exact (List.getElem?_eq_some_iff.mp hd).1⟩
  · obtain ⟨rfl, k, v, e, rfl⟩ := hy
    refine ⟨Ext.refl _, ?_⟩
    have hz := List.getElem?_zip_eq_some.mp e
    have e2 : keyP d = some k := by
      have h1 : ((kvs.map (·.1)).map keyP)[i]? = some (keyP d) := by rw [List.getElem?_map, hd]; rfl
      rw [hk, List.getElem?_map, hz.1] at h1
      exact (Option.some.inj h1).symm
    cases d <;> simp [keyP] at e2 <;> subst e2 <;> simp [RepP, kV]
  · exact ⟨s.fz _ _ _ hH, by rw [len]; exact Nat.le_refl _⟩
/-- a tuple is no cell and nothing that is being made -/
theorem RepSt.noTup {S1 : Sto} (hS : RepSt K G m S1 H) {q : Addr} {vs : List V} (h : H q = some (.tup vs)) : q ∉ m ++ G := fun z => by
  rcases List.mem_append.mp z with z | z
  · obtain ⟨l, hl, e⟩ := List.getElem_of_mem z
    have hl' : l < S1.length := hS.len ▸ hl
    obtain ⟨ws, o, e1, hh, _⟩ := hS.cell l q S1[l] (by rw [List.getElem?_eq_getElem hl, e]) (List.getElem?_eq_getElem hl')
    rw [h] at e1
    cases e1
    generalize S1[l] = c at hh
    cases c with
    | lst ds => cases hh
    | dct lk t kvs =>
      cases lk with
      | false =>
        cases t with
        | false => obtain ⟨_, _, e⟩ := hh; cases e
        | true => obtain ⟨_, _, e⟩ := hh; cases e
      | true => obtain ⟨_, _, e, _⟩ := hh; cases e
  · exact (hS.gd q z).1.2 vs h
theorem reps_of_keys {K : PySem.W.Frag} {m : List Addr} {H : Hp} : ∀ {ds : List P} {k : List Key}, tksP ds = some k → RepPs K m H ds (k.map kV)
  | [], k, e => by cases e; exact RepPs.nil
  | d :: ds, k, e => by
    simp only [tksP, Option.bind_eq_some_iff, Option.map_eq_some_iff] at e
    obtain ⟨x, hx, xs, hxs, rfl⟩ := e
    refine RepPs.cons ?_ (reps_of_keys hxs)
    cases d <;> simp [keyP] at hx <;> subst hx <;> simp [RepP, kV]
theorem itok_dictT {a : Addr} {l : Nat} {ob : Obj} {kvs : List (P × P)} {ks : List (List Key)} {ws : List V} (hm : m[l]? = some a) (hH : H a = some (.frz ob (.dT (ks.zip ws)))) (hk : (kvs.map (·.1)).map tkP = ks.map some) (hl : ks.length = ws.length) :
    ItOk K G m H (kvs.map (·.1)) (some l) S (Itkt a ob (ks.zip ws)) := by
  have len : (kvs.map (·.1)).length = (ks.zip ws).length := by
    have := congrArg List.length hk
    simp only [List.length_map] at this
    rw [List.length_map, List.length_zip]; omega
  refine ⟨fun i d G1 m1 H1 S1 hd s hg hS _ => ?_, fun i d G1 m1 H1 S1 x H2 hd s hg hS _ hy => ?_, fun G1 m1 H1 S1 s hg hS _ => ?_⟩
  · exact ⟨s.fz _ _ _ hH, by rw [← len]; exact (List.getElem?_eq_some_iff.mp hd).1⟩
  · obtain ⟨rfl, k, v, q, e, rfl, hq⟩ := hy
    refine ⟨Ext.refl _, ?_⟩
    have hz := List.getElem?_zip_eq_some.mp e
    have e2 : tkP d = some k := by
      have h1 : ((kvs.map (·.1)).map tkP)[i]? = some (tkP d) := by rw [List.getElem?_map, hd]; rfl
      rw [hk, List.getElem?_map, hz.1] at h1
      exact (Option.some.inj h1).symm
    cases d <;> simp [tkP] at e2
    simp only [RepP]
    exact ⟨q, _, rfl, ⟨hq, hS.noTup hq⟩, reps_of_keys e2⟩
  · exact ⟨s.fz _ _ _ hH, by rw [len]; exact Nat.le_refl _⟩
theorem Step.unlock {m' : List Addr} {H' : Hp} {a : Addr} {od : Obj} {u : HO} (s : Step m (upd H a (.frz od u)) m' H') (ha : a ∈ m) (hu : H a = some u) (hz : ∀ o w, u ≠ .frz o w) : Step m H m' (upd H' a u) := by
  obtain ⟨t, rfl, ht⟩ := s.pre
  have ne : ∀ b, upd H a (.frz od u) b = none → H b = none := fun b e => by
    by_cases c : b = a
    · subst c; rw [upd_same] at e; cases e
    · rw [upd_ne c] at e; exact e
  refine ⟨⟨t, rfl, fun b hb => ne b (ht b hb)⟩, fun b o e hm => ?_, fun b e => ?_, fun b o w e => ?_⟩
  · have c : b ≠ a := fun z => hm (z ▸ ha)
    rw [upd_ne c]
    exact s.keep b o (by rw [upd_ne c]; exact e) hm
  · by_cases c : b = a
    · subst c; rw [upd_same] at e; cases e
    · rw [upd_ne c] at e; exact ne b (s.dom b e)
  · have c : b ≠ a := fun z => by subst z; rw [hu] at e; exact hz o w (Option.some.inj e)
    rw [upd_ne c]
    exact s.fz b o w (by rw [upd_ne c]; exact e)
theorem RepR.swap {r : R} {v : V} {a : Addr} {ho : HO} (h : RepR K G m H r v) (ha : a ∈ m) : RepR K G m (upd H a ho) r v := by
  have mv := RepP.move (K := K) (H := H) (H' := upd H a ho) (G := G) (G' := G) (m := m) (m' := m) (fun b o e hm => by
      rw [upd_ne (fun z : b = a => hm (List.mem_append_left _ (z ▸ ha)))]; exact e) (fun b hb => .inl hb)
  cases r with
  | p d => exact mv.1 d v h
  | ref l => exact h
  | frl ds =>
    obtain ⟨b, vs, e, nm, hb, q⟩ := h
    exact ⟨b, vs, e, nm, by rw [upd_ne (fun z : b = a => nm (List.mem_append_left _ (z ▸ ha)))]; exact hb, mv.2 ds vs q⟩
  | frd t kvs =>
    obtain ⟨b, e, nm, ws, o, hb, ho, q⟩ := h
    exact ⟨b, e, nm, ws, o, by rw [upd_ne (fun z : b = a => nm (List.mem_append_left _ (z ▸ ha)))]; exact hb, ho, mv.2 _ ws q⟩
theorem unlock_cell {l : Nat} {a : Addr} {od : Obj} {u : HO} {t : Bool} {kvs : List (P × P)} (hS : RepSt K G m S H) (hl : m[l]? = some a) (hc : S[l]? = some (.dct true t kvs)) (hH : H a = some (.frz od u)) : RepSt K G m (S.set l (.dct false t kvs)) (upd H a u) := by
  obtain ⟨ws, o, e, ⟨ob, u', rfl, hd⟩, r⟩ := hS.cell l a _ hl hc
  rw [hH] at e
  cases e
  exact hS.swap hl hd r
theorem Own.unlock {r : R} {v : V} {H0 Hl : Hp} {l : Nat} {a : Addr} {od : Obj} {u : HO} {t : Bool} {kvs : List (P × P)} (o : Own K Hl G m H S r v) (h0 : ∀ b, Hl b = none → H0 b = none) (hS : RepSt K G m S H) (hl : m[l]? = some a) (hc : S[l]? = some (.dct true t kvs)) (hH : H a = some (.frz od u)) : Own K H0 G m (upd H a u) (S.set l (.dct false t kvs)) r v := by
  have hlm : l < m.length := (List.getElem?_eq_some_iff.mp hl).1
  have hlS : l < S.length := (List.getElem?_eq_some_iff.mp hc).1
  have key : ∀ (b : Addr) (c : Cell), RepSt K G (m ++ [b]) (S ++ [c]) H → RepSt K G (m ++ [b]) (S.set l (.dct false t kvs) ++ [c]) (upd H a u) := fun b c q => by
    have := unlock_cell (l := l) (a := a) (od := od) (u := u) (t := t) (kvs := kvs) q (by rw [List.getElem?_append_left hlm]; exact hl) (by rw [List.getElem?_append_left hlS]; exact hc) hH
    rwa [List.set_append_left _ _ hlS] at this
  cases r with
  | p d => trivial
  | ref l => trivial
  | frl ds => obtain ⟨b, e, hb, q⟩ := o; exact ⟨b, e, h0 b hb, key b _ q⟩
  | frd t' kvs' => obtain ⟨b, e, hb, q⟩ := o; exact ⟨b, e, h0 b hb, key b _ q⟩
end
section
variable {X : Cx} {st : Stmt} {e : Expr} {i : Nat}
theorem lock_none {H : Hp} {a : Addr} {od : Obj} {u : HO} : ∀ b, upd H a (.frz od u) b = none → H b = none := fun b e => by
  by_cases c : b = a
  · subst c; rw [upd_same] at e; cases e
  · rw [upd_ne c] at e; exact e
theorem xs_lock {x : XS} (h : PS X st (tOfS X.K x)) : PS X st (tOfS X.K (xLockS i x)) := PS.imp (ps_lock h) fun D σ H hx => by
  obtain ⟨m, G, ρ, S, fl, S', hE, hS, hx, k⟩ := hx
  unfold xLockS at hx
  split at hx
  · rename_i l hi
    split at hx
    · rename_i t kvs hc
      simp only [Option.bind_eq_some_iff] at hx
      obtain ⟨⟨f1, S1⟩, h1, hx⟩ := hx
      split at hx
      · rename_i hc1
        cases hx
        obtain ⟨v, hv, a, rfl, hl⟩ := hE.slot i _ hi
        have ha : a ∈ m := List.mem_of_getElem? hl
        obtain ⟨ws, u, hu, hd, r⟩ := hS.cell l a _ hl hc
        have hz := dictU_nofrz hd
        refine ⟨a, u, hu, dictU_mut hd, fun od => ?_⟩
        refine ⟨m, G, ρ, S.set l (.dct true t kvs), f1, S1, hE.swap ha, hS.swap hl (c := .dct true t kvs) ⟨od, u, rfl, hd⟩ r, h1, ?_⟩
        cases f1 with
        | nx ρ' => exact fun σ' m' H' s hS' hE' => ⟨s.fz _ _ _ upd_same, k σ' m' _ (s.unlock ha hu hz) (unlock_cell hS' (s.get hl) hc1 (s.fz _ _ _ upd_same)) (hE'.swap (List.mem_of_getElem? (s.get hl)))⟩
        | bk ρ' => exact fun σ' m' H' s hS' hE' => ⟨s.fz _ _ _ upd_same, k σ' m' _ (s.unlock ha hu hz) (unlock_cell hS' (s.get hl) hc1 (s.fz _ _ _ upd_same)) (hE'.swap (List.mem_of_getElem? (s.get hl)))⟩
        | ct ρ' => exact fun σ' m' H' s hS' hE' => ⟨s.fz _ _ _ upd_same, k σ' m' _ (s.unlock ha hu hz) (unlock_cell hS' (s.get hl) hc1 (s.fz _ _ _ upd_same)) (hE'.swap (List.mem_of_getElem? (s.get hl)))⟩
        | rt r1 => exact fun v m' H' s hS' q o => ⟨s.fz _ _ _ upd_same, k v m' _ (s.unlock ha hu hz) (unlock_cell hS' (s.get hl) hc1 (s.fz _ _ _ upd_same)) (q.swap (List.mem_of_getElem? (s.get hl))) (o.unlock lock_none hS' (s.get hl) hc1 (s.fz _ _ _ upd_same))⟩
      · cases hx
    · cases hx
  · cases hx
theorem xe_lock {x : XE} (h : PE X e (tOf X.K x)) : PE X e (tOf X.K (xLockE i x)) := PE.imp (pe_lock h) fun σ H Q hx => by
  obtain ⟨m, G, ρ, S, rr, S', hE, hS, hx, k⟩ := hx
  unfold xLockE at hx
  split at hx
  · rename_i l hi
    split at hx
    · rename_i t kvs hc
      simp only [Option.bind_eq_some_iff] at hx
      obtain ⟨⟨f1, S1⟩, h1, hx⟩ := hx
      split at hx
      · rename_i hc1
        cases hx
        obtain ⟨v, hv, a, rfl, hl⟩ := hE.slot i _ hi
        have ha : a ∈ m := List.mem_of_getElem? hl
        obtain ⟨ws, u, hu, hd, r⟩ := hS.cell l a _ hl hc
        have hz := dictU_nofrz hd
        refine ⟨a, u, hu, dictU_mut hd, fun od => ?_⟩
        refine ⟨m, G, ρ, S.set l (.dct true t kvs), f1, S1, hE.swap ha, hS.swap hl (c := .dct true t kvs) ⟨od, u, rfl, hd⟩ r, h1, fun v m' H' s hS' q o => ?_⟩
        exact ⟨s.fz _ _ _ upd_same, k v m' _ (s.unlock ha hu hz) (unlock_cell hS' (s.get hl) hc1 (s.fz _ _ _ upd_same)) (q.swap (List.mem_of_getElem? (s.get hl))) (o.unlock lock_none hS' (s.get hl) hc1 (s.fz _ _ _ upd_same))⟩
      · cases hx
    · cases hx
  · cases hx
theorem xi_keys {tg : Expr} {x : Str} {p : Pos} (h : PE X (.Name x p) (tVar i)) : PI X tg (.Name x p) (iOf X.K (xItL i)) := PI.imp (pi_keys h) fun σ H R hx => by
  obtain ⟨m, G, ρ, S, ds, lc, S', hE, hS, hx, k⟩ := hx
  unfold xItL at hx
  split at hx
  · rename_i l hi
    split at hx
    · rename_i t kvs hc
      cases hx
      obtain ⟨v, hv, a, rfl, hl⟩ := hE.slot i _ hi
      obtain ⟨ws, o, hu, ⟨ob, u, rfl, hd⟩, r⟩ := hS.cell l a _ hl hc
      cases t with
      | false =>
        obtain ⟨ks, hk, rfl⟩ := hd
        have hlen : ks.length = ws.length := by
          have a1 := congrArg List.length hk
          have a2 := r.length
          simp only [List.length_map, Cell.vals] at a1 a2
          omega
        exact ⟨.ref a, hv, a, ob, rfl, .inl ⟨_, hu, k m H _ Step.refl hS (itok_dict hl hu hk hlen)⟩⟩
      | true =>
        obtain ⟨ks, hk, rfl⟩ := hd
        have hlen : ks.length = ws.length := by
          have a1 := congrArg List.length hk
          have a2 := r.length
          simp only [List.length_map, Cell.vals] at a1 a2
          omega
        exact ⟨.ref a, hv, a, ob, rfl, .inr ⟨_, hu, k m H _ Step.refl hS (itok_dictT hl hu hk hlen)⟩⟩
    · cases hx
  · cases hx
end
end XL
end
section
set_option Elab.async false
set_option linter.all false
set_option maxRecDepth 100000
set_option maxHeartbeats 1000000
namespace XL
open PySem L2 PyProof.Rows PySem.W
section
variable {X : Cx} {o : Expr} {xo : XE} {p pos : Pos}
end
end XL
end
section
set_option Elab.async false
set_option linter.all false
set_option maxRecDepth 100000
set_option maxHeartbeats 1000000
namespace XL
open PySem L2 PyProof.Rows
section
variable {Pg : Program} {w : World} {A : Around} {E : Value → Shared → Prop} {s : Shared}
/-- list(text) -/
theorem list_str_call {x : Str} {t : Tok} {Q : Value → Shared → Prop} (hh : A.handled = none) (hn : x.cps.size ≤ sizeLine)
    (hQ : ∀ (s' : Shared) (acc : Array Value) (c' : Nat), (∀ b o, s.heap.get? b = some o → s'.heap.get? b = some o) → s'.gens = s.gens → s'.os = s.os → s'.heap.get? s.heap.objs.size = some { cls := .type "list", dict := none, data := .seq acc c', slots := #[] } → ItemsOf (SignAt x) acc x.cps.size → Q (.ref s.heap.objs.size) s') :
    wpAny (model Pg w) A (call (.type "list") [.str x t]) Q E s := by
  refine callType_codes (Q₁ := fun obj s₁ => obj = .ref s.heap.objs.size ∧ s₁ = { s with heap := s.heap.push { cls := .type "list", data := .seq #[] } }) F.called_list (F.typeCall_list_1 _) F.entry_list_init
    (code_list_new _ ⟨rfl, rfl⟩) fun obj s₁ h₁ => ?_
  obtain ⟨rfl, rfl⟩ := h₁
  have hS : (s.heap.push { cls := .type "list", data := .seq #[] }).get? s.heap.objs.size = some { cls := .type "list", data := .seq #[] } := Heap.get?_push_size _ rfl
  refine ⟨⟨_, hS, rfl⟩, F.args_list_init_2 _ _, ?_⟩
  show wpAny _ _ (do let old ← Builtin.List.listItems (.ref s.heap.objs.size); Builtin.List.listUpdate (.ref s.heap.objs.size) (fun _ => #[]); letGo old.toList.reverse; Builtin.List.listExtendWith (.ref s.heap.objs.size) (.str x t) .none) _ _ _
  refine wpAny_bind ?_
  unfold Builtin.List.listItems
  refine wpAny_bind (wpAny_seqItems hS rfl (wpAny_pure ?_))
  show wpAny _ _ (updateSeq s.heap.objs.size (fun _ => #[]) >>= fun _ => letGo (#[] : Array Value).toList.reverse >>= fun _ => Builtin.List.listExtendWith (.ref s.heap.objs.size) (.str x t) .none) _ _ _
  refine wpAny_bind (wpAny_updateSeq hS rfl ?_)
  have hS₂ := Heap.get?_update_self (Obj.mapSeq (fun _ => (#[] : Array Value))) hS rfl
  refine wpAny_bind (wpAny_letGo ?_)
  unfold Builtin.List.listExtendWith
  refine wpAny_bind (wpAny_typeOf (T := "str") (v := .str x t) rfl ?_)
  have h1 : Builtin.List.listSameRef (.ref s.heap.objs.size) (.str x t) = false := rfl
  have h2 : (Value.type "str" == Value.type "list") = false := by decide
  have h3 : (Value.type "str" == Value.type "tuple") = false := by decide
  simp only [h1, h2, h3, Bool.or_false, Bool.false_eq_true, if_false]
  refine wpAny_bind (wpAny_pyIter_str fun o St W hst => ?_)
  refine wpAny_bind (wpAny_holding ?_)
  unfold Builtin.List.listLengthHint
  refine wpAny_bind (wpAny_specialOf (T := "str") (v := .str x t) rfl F.str_len ?_)
  wp_delta
  refine wpAny_bind (wpAny_isInstance (T := "str") (v := .str x t) (b := true) rfl (by rw [isSubtype_type]; kernel_rfl) ?_)
  show wpAny _ _ (typeOf (Value.str x t) >>= _) _ _ _
  refine wpAny_bind (wpAny_typeOf (T := "str") (v := .str x t) rfl ?_)
  refine wpAny_pure ?_
  rw [if_neg (by decide)]
  have size2 : ((s.heap.push { cls := .type "list", data := .seq #[] }).update s.heap.objs.size (Obj.mapSeq (fun _ => (#[] : Array Value)))).objs.size = s.heap.objs.size + 1 := by rw [Heap.size_update, Heap.size_push]
  have oth : ∀ b o, s.heap.get? b = some o → ((s.heap.push { cls := .type "list", data := .seq #[] }).update s.heap.objs.size (Obj.mapSeq (fun _ => (#[] : Array Value)))).get? b = some o :=
    fun b o e => (Heap.get?_update_other _ _ (Nat.ne_of_gt (Heap.lt_size e))).trans (Heap.get?_push_of_some _ e)
  generalize hH : (s.heap.push { cls := .type "list", data := .seq #[] }).update s.heap.objs.size (Obj.mapSeq (fun _ => (#[] : Array Value))) = H at W hst hS₂ size2 oth ⊢
  have hSf : s.heap.objs.size ∉ [H.objs.size] := fun hm => by
    rw [List.mem_singleton.mp hm] at size2
    exact absurd size2 (Nat.ne_of_lt (Nat.lt_succ_self _))
  obtain ⟨c₁, hS3⟩ : ∃ c₁, (H.push o).get? s.heap.objs.size = some { cls := .type "list", data := .seq #[] c₁ } := ⟨_, Heap.get?_push_of_some o hS₂⟩
  refine wpAny_pure ⟨plainId_quiet F.plain_extend_loop _, codeAny_extend_loopS (W A.in1.in1 hh).toS hn _ hSf _ x.cps.size 0 _ _ _ rfl (Nat.zero_le _) hst hS3 (ItemsOf.nil _) fun s' acc' c' hm hS' hacc => ?_⟩
  refine ⟨rfl, hQ s' acc' c' (fun b ob e => hm.heap b ob (fun hb => ?_) (Heap.get?_push_of_some _ (oth b ob e))) hm.gens hm.os hS' hacc⟩
  have hlt := Heap.lt_size e
  rcases List.mem_cons.mp hb with h | h
  · exact absurd hlt (h ▸ Nat.lt_irrefl _)
  · rw [List.mem_singleton.mp h, size2] at hlt; exact absurd hlt (Nat.not_lt.mpr (Nat.le_succ _))
end
theorem vals_signs {x : Str} {acc : Array Value} (h : ItemsOf (SignAt x) acc x.cps.size) : Vals (x.cps.toList.map fun c => V.str ⟨#[c]⟩) acc.toList := by
  have key : ∀ (cs : List Nat) (us : List Value), cs.length = us.length → (∀ (i : Nat) (v : Value), us[i]? = some v → ∃ c u, cs[i]? = some c ∧ v = .str ⟨#[c]⟩ u) → Vals (cs.map fun c => V.str ⟨#[c]⟩) us := by
    intro cs
    induction cs with
    | nil => intro us hl _; cases us with
      | nil => exact .nil
      | cons _ _ => simp at hl
    | cons c cs ih =>
      intro us hl f
      cases us with
      | nil => simp at hl
      | cons u us =>
        obtain ⟨c', t, e, rfl⟩ := f 0 u rfl
        cases e
        exact .cons ⟨t, rfl⟩ (ih us (by simpa using hl) fun i v e => f (i + 1) v e)
  refine key _ _ (by rw [Array.length_toList, Array.length_toList, h.1]) fun i v e => ?_
  obtain ⟨c, u, h1, h2⟩ := h.2 i v (by rw [← Array.getElem?_toList]; exact e)
  exact ⟨c, u, by rw [Array.getElem?_toList]; exact h1, h2⟩
theorem reps_signs {K : PySem.W.Frag} {m : List Addr} {H : Hp} : ∀ s : List Nat, RepPs K m H (s.map fun c => P.str [c]) (s.map fun c => V.str ⟨#[c]⟩)
  | [] => RepPs.nil
  | c :: s => RepPs.cons (by simp [RepP]) (reps_signs s)
section
variable {X : Cx}
theorem cr_listA (hc : X.calm = true) : CallR X (.type "list") (cOf X.K cListA) := fun pins s σ H vs us Q I r h => by
  obtain ⟨m, G, S, ps, r', hS, hp, hf, k⟩ := h
  unfold cListA at hf
  split at hf
  · cases hf
    exact cr_list pins s σ H vs us Q I r ⟨m, G, S, _, _, hS, hp, rfl, k⟩
  · cases hf
    exact cr_list pins s σ H vs us Q I r ⟨m, G, S, _, _, hS, hp, rfl, k⟩
  · rename_i s0
    split at hf
    · rename_i hz
      cases hf
      obtain ⟨v, rfl, q⟩ := one_arg hp
      simp only [RdT, RepP] at q
      subst q
      obtain ⟨u, rfl, t, rfl⟩ := vals1 r
      refine list_str_call (I.ok.hd hc) (by show s0.toArray.size ≤ _; rw [List.size_toArray]; exact big_size hz) fun s' acc c' kk g o hg hi => ?_
      have hv := vals_signs hi
      simp only at hv
      have hn : H s.heap.objs.size = none := I.hok.fresh (Nat.le_refl _)
      have hlen : (s0.map fun c => V.str ⟨#[c]⟩).length ≤ sizeLine := by rw [List.length_map]; exact big_size hz
      have J : Inv X pins σ (upd H s.heap.objs.size (.lst (s0.map fun c => V.str ⟨#[c]⟩))) { s with heap := s'.heap, gens := s'.gens, drawn := s'.drawn, toks := s'.toks } :=
        I.call (ch := []) (Un.laid kk (Nat.le_refl _) hn) (I.hok.laid kk (Nat.le_refl _) ⟨hlen, acc.toList, c', hv, by rw [Array.toArray_toList]; exact hg⟩) (by rw [g]; exact I.bare) (fun _ z => nomatch z)
      have es : s' = { s with heap := s'.heap, gens := s'.gens, drawn := s'.drawn, toks := s'.toks } := by
        cases s'
        cases s
        cases o
        rfl
      rw [es]
      have rr : RepPs X.K (m ++ G) H (s0.map fun c => P.str [c]) (s0.map fun c => V.str ⟨#[c]⟩) := reps_signs s0
      have ex := Ext.new (o := .lst (s0.map fun c => V.str ⟨#[c]⟩)) hn
      exact ⟨.ref _, _, J, rfl, k _ _ ex ⟨_, _, rfl, hS.fresh hn, upd_same, RepPs.step (Step.of_ext ex) _ _ rr⟩ (own_new hS hn rr)⟩
    · cases hf
  · cases hf
/-! ### split -/
end
end XL
end
section
set_option Elab.async false
set_option linter.all false
set_option maxRecDepth 100000
set_option maxHeartbeats 1000000
namespace XL
open PySem L2 PyProof.Rows
/-! ### a, b, .. = a list -/
section
variable {Pg : Program} {w : World} {A : Around} {E : Value → Shared → Prop} {s : Shared}
end
section
variable {X : Cx} {es : List Expr} {pos tpos : Pos}
end
end XL
end
section
set_option Elab.async false
set_option linter.all false
set_option maxRecDepth 100000
set_option maxHeartbeats 1000000
namespace XL
open PySem L2 PyProof.Rows
section
variable {X : Cx} {i o : Expr} {xi xo : XE} {pos : Pos}
end
end XL
end
section
set_option autoImplicit false
set_option linter.all false
namespace XL
/-- dict(list of pairs), keys that are tuples, each once -/
def pairsOf : List P → Option (List (P × P))
  | [] => some []
  | .tup [k, v] :: ds => (pairsOf ds).map fun r => (k, v) :: r
  | _ :: _ => none
def cDictP : List P → Option R
  | [.lst ds] => (pairsOf ds).bind fun kvs => if (kvs.map (·.1)).all keyOkT && decide ((kvs.map (·.1)).Nodup) && decide (kvs.length ≤ 4000) then some (.frd true kvs) else none
  | _ => none
/-- dict(d): a copy; the keys are pairs of small numbers -/
def pairs10 : List P := [.tup [.int 0, .int 1], .tup [.int 0, .int 2], .tup [.int 0, .int 3], .tup [.int 0, .int 4], .tup [.int 1, .int 2], .tup [.int 1, .int 3], .tup [.int 1, .int 4], .tup [.int 2, .int 3], .tup [.int 2, .int 4], .tup [.int 3, .int 4]]
def xCopyD (o : XE) : XE := fun ρ S => (o ρ S).bind fun x => match x.1 with
  | .ref l => match x.2[l]? with
    | some (.dct false true kvs) => if ((kvs.map (·.1)).all fun k => decide (k ∈ pairs10)) && decide ((kvs.map (·.1)).Nodup) then some (.frd true kvs, x.2) else none
    | _ => none
  | _ => none
/-- a is None, a is not None: whatever a is -/
def isNonR : R → Bool
  | .p .non => true
  | _ => false
def xIsN (neg : Bool) (a : XE) : XE := fun ρ S => (a ρ S).map fun x => (.p (.bl (neg != isNonR x.1)), x.2)
/-- enumerate(a), a a list or a tuple of data -/
def numbered : Nat → List P → List P
  | _, [] => []
  | i, d :: ds => .tup [.int (i : Nat), d] :: numbered (i + 1) ds
def xEnum (a : XE) : XI := fun ρ S => (a ρ S).bind fun x => match x.1 with
  | .p (.tup ds) => some (numbered 0 ds, none, x.2)
  | _ => none
/-- a[lo:hi] -/
def sIxP (n d : Nat) : Option Int → Nat
  | none => d
  | some i => if i < 0 then (i + n).toNat else min i.toNat n
def cutP {α : Type} (xs : List α) (lo hi : Option Int) : List α := (xs.drop (sIxP xs.length 0 lo)).take (sIxP xs.length xs.length hi - sIxP xs.length 0 lo)
def pSl (p : P) (lo hi : Option Int) : Option R := match p with
  | .str s => if s.length ≤ big then some (.p (.str (cutP s lo hi))) else none
  | .tup ds => some (.p (.tup (cutP ds lo hi)))
  | .lst ds => some (.frl (cutP ds lo hi))
  | _ => none
def xPart : Option XE → Env → Sto → Option (Option Int × Sto)
  | none, _, S => some (none, S)
  | some e, ρ, S => (e ρ S).bind fun x => match x.1 with
    | .p (.int i) => some (some i, x.2)
    | _ => none
def xSl (a : XE) (lo hi : Option XE) : XE := fun ρ S => (a ρ S).bind fun x => (xPart lo ρ x.2).bind fun l => (xPart hi ρ l.2).bind fun h => (x.1.rd h.2).bind fun p => (pSl p l.1 h.1).map fun r => (r, h.2)
/-- sorted(d), keys that are tuples -/
def xSortedT (o : XE) : XE := fun ρ S => (o ρ S).bind fun x => match x.1 with
  | .ref l => match x.2[l]? with
    | some (.dct false true kvs) => if sortOk (kvs.map (·.1)) && decide (kvs.length < 4000) then some (.frl (sortP (kvs.map (·.1))), x.2) else none
    | _ => none
  | _ => none
end XL
end
section
set_option Elab.async false
set_option linter.all false
set_option maxRecDepth 100000
set_option maxHeartbeats 1000000
namespace XL
open PySem L2 PyProof.Rows
/-! ### dicts of pairs -/
section
variable {K : PySem.W.Frag} {m : List Addr} {H : Hp} {Pg : Program} {w : World} {h : Heap}
end
section
variable {X : Cx}
/-! ### dict(d) -/
end
section
variable {X : Cx} {o : Expr} {xo : XE} {p pos : Pos}
end
end XL
end
section
set_option Elab.async false
set_option linter.all false
set_option maxRecDepth 100000
set_option maxHeartbeats 1000000
namespace XL
open PySem L2 PyProof.Rows
section
variable {X : Cx} {a e : Expr} {xa : XE} {pos cp : Pos} {xs : XD}
theorem tOf.mono {K : PySem.W.Frag} {x : XE} {σ : L2.St} {H : Hp} {Q Q' : VK} (h : tOf K x σ H Q) (w : ∀ v H1, Q v H1 → Q' v H1) : tOf K x σ H Q' := by
  obtain ⟨m, G, ρ, S, r, S', hE, hS, hx, k⟩ := h
  exact ⟨m, G, ρ, S, r, S', hE, hS, hx, fun v m' H' s hS' q o => w v H' (k v m' H' s hS' q o)⟩
end
end XL
end
section
set_option Elab.async false
set_option linter.all false
set_option maxRecDepth 100000
set_option maxHeartbeats 1000000
namespace XL
open PySem L2 PyProof.Rows
/-! ### enumerate(tuple) -/
theorem meets_enumT {v : Value} {o : Obj} {Hh : Heap → Prop} (B : Begins v o Hh) :
    Meets (Builtin.«enumerate.__new__» ⟨[.type "enumerate", v], []⟩) (fun _ R s => Hh s.heap ∧
      R (.ok (.ret (.ref (s.heap.push o).objs.size))) { s with heap := (s.heap.push o).push { cls := .type "enumerate", data := .fields #[.none, .bool false, .ref s.heap.objs.size, rawInt 0, .none, .none] } }) :=
  .of_wp fun prog w A R s hyp => by
    obtain ⟨hp, g, d, tk, os⟩ := s
    obtain ⟨hb, hyp⟩ := hyp
    have hsub := sub_enumerate
    have begin1 : ∀ {A' : Around} {E : Value → Shared → Prop} {Q : Value → Shared → Prop}, Q (.ref hp.objs.size) ⟨hp.push o, g, d, tk, os⟩ → wpAny (model prog w) A' (pyIter v) Q E ⟨hp, g, d, tk, os⟩ :=
      fun q => B.iter prog w _ _ ⟨hp, g, d, tk, os⟩ _ hb q
    wp_walk using begin1
    refine wpAny_stack_any fun st => wpAny_pure ?_
    split
    · rename_i c _ _ _ _ _
      cases (c == Value.type "enumerate")
      · wp_walk using begin1
        exact ⟨_, rfl, hyp⟩
      · wp_walk using begin1
        exact ⟨_, rfl, hyp⟩
    · wp_walk using begin1
      exact ⟨_, rfl, hyp⟩
section
variable {Pg : Program} {w : World} {A : Around} {E : Value → Shared → Prop} {s : Shared}
theorem call_enumT {t : Addr} {items : Array Value} {Q : Value → Shared → Prop} (ht : s.heap.IsTuple t items)
    (hQ : ∀ h', IsEnum h' (s.heap.objs.size + 1) s.heap.objs.size 0 .none → h'.IsTupleIter s.heap.objs.size t 0 → h'.objs.size = s.heap.objs.size + 2 →
      (∀ b o, s.heap.get? b = some o → h'.get? b = some o) → Q (.ref (s.heap.objs.size + 1)) { s with heap := h' }) :
    wpAny (model Pg w) A (call (.type "enumerate") [.ref t]) Q E s := by
  refine callType_new F.called_enumerate (by decide) (F.typeCall_enumerate_1 _) (F.newCall_enumerate_1 _) (fun ob => F.args_object_init_2 ob _) F.entry_enumerate_new
    (meets_enumT (begins_tuple t items)) ⟨ht, ?_⟩
  have size1 : (s.heap.push { cls := .type "tuple_iterator", data := .fields #[.ref t, .int 0 0] }).objs.size = s.heap.objs.size + 1 := Heap.size_push ..
  show _ ∧ _
  rw [size1]
  have isE : IsEnum ((s.heap.push { cls := .type "tuple_iterator", data := .fields #[.ref t, .int 0 0] }).push { cls := .type "enumerate", data := .fields #[.none, .bool false, .ref s.heap.objs.size, rawInt 0, .none, .none] }) (s.heap.objs.size + 1) s.heap.objs.size 0 .none := by
    have q := Heap.get?_push_size (s.heap.push { cls := .type "tuple_iterator", data := .fields #[.ref t, .int 0 0] }) (o := { cls := .type "enumerate", data := .fields #[.none, .bool false, .ref s.heap.objs.size, rawInt 0, .none, .none] }) rfl
    rw [size1] at q; exact q
  exact ⟨⟨_, isE, rfl⟩, hQ _ isE ⟨_, Heap.get?_push_of_some _ (Heap.get?_push_size _ rfl), rfl, rfl⟩ (by rw [Heap.size_push, size1]) fun b o x => Heap.get?_push_of_some _ (Heap.get?_push_of_some _ x)⟩
end
/-- the tuple at a, each item in a new pair -/
def Itet (K : PySem.W.Frag) (a : Addr) : It :=
  ⟨fun i H => ∃ (xs : List V) (x : V), SqT K H a xs ∧ xs[i]? = some x, fun i H v H' => ∃ T x, v = .ref T ∧ H T = none ∧ H' = upd H T (.tup [.int (i : Nat), x]) ∧ ∀ xs, SqT K H a xs → xs[i]? = some x, fun i H => ∃ xs : List V, SqT K H a xs ∧ xs.length ≤ i⟩
theorem turn_enumT {Pg : Program} {w : World} {K : PySem.W.Frag} {elts : List Expr} {kk : Nat} {tpos : Pos} (a e it : Addr) (hai : a ≠ it) (hea : e ≠ a) :
    Turn Pg w K (.Tuple elts kk tpos) (Itet K a) [e, it] e (fun i h => (∃ old, IsEnum h e it ((i : Nat) : Int) old) ∧ h.IsTupleIter it a i ∧ e ≠ it) where
  mem := by simp
  obj := fun i h st b hb => by
    obtain ⟨⟨old, isE⟩, ⟨o, ho, hc, hd⟩, _⟩ := st
    simp only [List.mem_cons, List.not_mem_nil, or_false] at hb
    rcases hb with rfl | rfl
    · exact ⟨_, isE, fun v q => nomatch q⟩
    · exact ⟨o, ho, fun v q => by rw [hd] at q; cases q⟩
  keep := fun i h h' st k => let ⟨⟨old, isE⟩, hi, hne⟩ := st; ⟨⟨old, k e (by simp) _ isE⟩, hi.at fun o q => k it (by simp) o q, hne⟩
  item := by
    intro X hP hw hK hc i pins s σ H E I hf st hg
    subst hP hw hK
    obtain ⟨⟨old, isE⟩, hit, hne⟩ := st
    obtain ⟨xs, x, hq, hx⟩ := hg
    obtain ⟨its, rv, ht, hz⟩ := I.tuple hq
    obtain ⟨u, hu, ru⟩ := rv.get hx
    have hel : e < s.heap.objs.size := Heap.lt_size isE
    have hil : it < s.heap.objs.size := by obtain ⟨_, q, _⟩ := hit; exact Heap.lt_size q
    have hi : i < its.toArray.size := by
      have := (List.getElem?_eq_some_iff.mp hu).1
      simpa using this
    refine wpAny_pyNext_enum_itemC (Draws.tuple (A := X.A.in1) (I.ok.hd hc) it a hai its.toArray) isE ⟨hit, ht⟩ hi hne (by simp [hne, hea]) fun y h' tk hy ho hst' hT hsz hk => ?_
    have ey : y = u := by
      have h1 : its.toArray[i]? = some u := by simpa using hu
      exact Option.some.inj (hy.symm.trans h1)
    subst ey
    refine ⟨_, rfl, wpAny_letOwnedTupleGo_enum (s := { s with heap := h', toks := tk + 1 }) ho fun h'' isE' sb => ?_⟩
    have hT2 : h''.get? s.heap.objs.size = some { cls := .type "tuple", data := .seq #[.int i tk, y] } := (sb.2 _ (Nat.ne_of_gt hel)).trans hT
    have new : ObjOk X.prog X.w (upd H s.heap.objs.size (.tup [.int (i : Nat), x])) h'' s.heap.objs.size (.tup [.int (i : Nat), x]) :=
      ⟨by show 2 ≤ sizeLine; decide, [.int i tk, y], .cons ⟨_, rfl⟩ (.cons ru .nil), ⟨_, hT2, rfl, _, rfl⟩⟩
    have J : Inv X pins σ (upd H s.heap.objs.size (.tup [.int (i : Nat), x])) { s with heap := h'', toks := tk + 1 } :=
      I.turnedNew (ch := [e, it]) (fun b ob hb q => (sb.2 b (fun z => hb (by simp [z]))).trans (hk b ob (fun z => hb (by simp [z])) (fun z => hb (by simp [z])) q)) hf (Nat.le_refl _) new
    refine ⟨.ref s.heap.objs.size, _, J, rfl, ⟨_, x, rfl, I.hok.fresh (Nat.le_refl _), rfl, fun ys hy => by rw [I.tuple_inj hy hq]; exact hx⟩, ⟨⟨y, ?_⟩, hst'.1.at fun o q => (sb.2 it (Ne.symm hne)).trans q, hne⟩, fun b hb => ?_⟩
    · have e1 : ((i + 1 : Nat) : Int) = (i : Int) + 1 := by omega
      rw [e1]; exact isE'
    · have hb' : b < s.heap.objs.size := by
        simp only [List.mem_cons, List.not_mem_nil, or_false] at hb
        rcases hb with z | z
        · rw [z]; exact hel
        · rw [z]; exact hil
      rw [upd_ne (Nat.ne_of_lt hb')]
      exact (hf b hb).1
  done := by
    intro X hP hw hK hc i pins s σ H E I hf st hg
    subst hP hw hK
    obtain ⟨⟨old, isE⟩, hit, hne⟩ := st
    obtain ⟨xs, hq, hx⟩ := hg
    obtain ⟨its, rv, ht, hz⟩ := I.tuple hq
    obtain ⟨f0, f1, f2, f3, f4, f5⟩ := hf it (by simp)
    have hl := rv.length
    have hty : s.TypeIs (.ref e) "enumerate" := ⟨_, isE, rfl⟩
    unfold pyNext
    refine wpAny_bind (wpAny_attempt (wpAny_callSpecial?_slot (name := Str.ofString "__next__") hty F.slot_enumerate_next
      (wpAny_call_entry F.slot_enumerate_next hty F.entry_enumerate_next ?_ (F.args_enumerate_next_1 _))))
    show wpAny _ _ (field (.ref e) 2 >>= _) _ _ _
    refine wpAny_bind (wpAny_field isE rfl (x := .ref it) rfl ?_)
    refine wpAny_bind (wpAny_nextOf_tuple_end (I.ok.hd hc) hit ht (by simp; omega) fun h' ex he' hx' => ?_)
    obtain ⟨o, ho, hcl⟩ := hx'
    refine wpAny_bind (wpAny_isInstance (T := "StopIteration") (b := true) ⟨o, ho, hcl⟩ isSubtype_stop ?_)
    exact wpAny_pure ⟨rfl, I.turned (t' := s.toks) (fun b o hb q => he' b o hb q) f0 f1 f3 f4 f5⟩
  self := fun A i s Q E st h => let ⟨⟨_, isE⟩, _⟩ := st; wpAny_pyIter_enum isE h
def iEnumT (K : PySem.W.Frag) (ta : TA) : TI := fun σ H R => ta σ H fun vs H1 => ∃ a xs, vs = [.ref a] ∧ SqT K H1 a xs ∧ R (Itet K a) H1
theorem pi_enumT {X : Cx} {e : Expr} {ta : TA} {p pos tpos : Pos} {elts : List Expr} {kk : Nat} (hg : Gl X "enumerate") (hm : X.mg "enumerate" = none) (ha : PA X [e] ta) (hs : starEach [e] X.env = [(false, eval e X.env)] := by rfl) :
    PI X (.Tuple elts kk tpos) (.Call (.Name "enumerate" p) [e] [] pos) (iEnumT X.K ta) := by
  refine ⟨fun pins s σ H R I h => ?_⟩
  refine Call_ (ld_blt I hg hm boot_enumerate (PyProof.Rows.callWith_type1 (thn (ha.run pos pins s σ H _ I h) fun us s1 ⟨vs, H1, I1, r1, q1⟩ => ?_) hs rfl))
  obtain ⟨a, xs, rfl, hq, q⟩ := q1
  obtain ⟨u, rfl, ru⟩ := vals1 r1
  cases ru
  obtain ⟨its, rv, ht, hz⟩ := I1.tuple hq
  have hal : a < s1.heap.objs.size := by obtain ⟨o, ho, _⟩ := ht; exact Heap.lt_size ho
  refine call_enumT ht fun h' isE hit hsz hk => wpAny_pyIter_enum isE ?_
  have I2 : Inv X pins σ H1 { s1 with heap := h' } := I1.kept (t' := s1.toks) hk
  refine ⟨s1.heap.objs.size + 1, [s1.heap.objs.size + 1, s1.heap.objs.size], _, _, H1, rfl, I2, turn_enumT a (s1.heap.objs.size + 1) s1.heap.objs.size (Nat.ne_of_lt hal) (Nat.ne_of_gt (Nat.lt_succ_of_lt hal)), ⟨⟨.none, isE⟩, hit, Nat.succ_ne_self _⟩, fun b hb => ?_, q⟩
  have hle : s1.heap.objs.size ≤ b := by
    simp only [List.mem_cons, List.not_mem_nil, or_false] at hb
    rcases hb with z | z <;> rw [z]
    · exact Nat.le_add_right _ _
    · exact Nat.le_refl _
  exact I1.fpOk hle (I1.hok.fresh hle)
theorem numbered_get : ∀ {ds : List P} {k i : Nat} {d : P}, (numbered k ds)[i]? = some d → ∃ x, ds[i]? = some x ∧ d = .tup [.int ((k + i : Nat) : Int), x]
  | [], k, i, d, h => by simp [numbered] at h
  | y :: ds, k, 0, d, h => by
    simp only [numbered, List.getElem?_cons_zero, Option.some.injEq] at h
    exact ⟨y, rfl, by rw [← h]; simp⟩
  | y :: ds, k, i + 1, d, h => by
    simp only [numbered, List.getElem?_cons_succ] at h
    obtain ⟨x, h1, h2⟩ := numbered_get h
    exact ⟨x, by simpa using h1, by rw [h2]; congr 4; omega⟩
theorem numbered_len : ∀ (ds : List P) (k : Nat), (numbered k ds).length = ds.length
  | [], _ => rfl
  | d :: ds, k => by simp [numbered, numbered_len ds]
section
variable {K : PySem.W.Frag} {G m : List Addr} {H : Hp} {ds : List P} {S : Sto}
theorem itok_enumT {a : Addr} {vs : List V} (f : FzT K (m ++ G) H a vs) (r : RepPs K (m ++ G) H ds vs) : ItOk K G m H (numbered 0 ds) none S (Itet K a) := by
  have sq : ∀ {m1 : List Addr} {H1 : Hp}, StepG G m H m1 H1 → SqT K H1 a vs := fun {m1 H1} s => .inl (rdG_step s (.inl f.1) f.2)
  refine ⟨fun i d G1 m1 H1 S1 hd s hg hS _ => ?_, fun i d G1 m1 H1 S1 x H2 hd s hg hS _ hy => ?_, fun G1 m1 H1 S1 s hg hS _ => ?_⟩
  · obtain ⟨y, hy, rfl⟩ := numbered_get hd
    obtain ⟨v, hv, _⟩ := r.get hy
    exact ⟨vs, v, sq s, hv⟩
  · obtain ⟨T, v, rfl, hT, rfl, hv⟩ := hy
    obtain ⟨y, hy, rfl⟩ := numbered_get hd
    obtain ⟨v', hv', q⟩ := r.get hy
    have e : v = v' := Option.some.inj ((hv vs (sq s)).symm.trans hv')
    subst e
    have ex := Ext.new (o := .tup [.int (i : Nat), v]) hT
    refine ⟨ex, ?_⟩
    simp only [RepP]
    refine ⟨T, _, rfl, ⟨upd_same, hS.fresh hT⟩, RepPs.cons (by simp [RepP]) (RepPs.one ?_)⟩
    exact RepP.step (Step.of_ext ex) _ _ ((RepP.move s.keep (fb_step s hg)).1 y _ q)
  · exact ⟨vs, sq s, by rw [numbered_len, r.length]; exact Nat.le_refl _⟩
end
section
variable {X : Cx} {e : Expr} {xa : XE} {p pos tpos : Pos} {elts : List Expr} {kk : Nat}
theorem xi_enum (hg : Gl X "enumerate") (hm : X.mg "enumerate" = none) (ha : PE X e (tOf X.K xa)) (hs : starEach [e] X.env = [(false, eval e X.env)] := by rfl) : PI X (.Tuple elts kk tpos) (.Call (.Name "enumerate" p) [e] [] pos) (iOf X.K (xEnum xa)) :=
  PI.imp (pi_enumT hg hm (pa_cons ha pa_nil (by rw [hs]; rfl)) hs) fun σ H R h => by
    obtain ⟨m, G, ρ, S, ds, lc, S', hE, hS, hx, k⟩ := h
    simp only [xEnum, Option.bind_eq_some_iff] at hx
    obtain ⟨⟨r1, S1⟩, h1, hx⟩ := hx
    split at hx
    · rename_i ds' e1
      simp only at e1
      subst e1
      cases hx
      refine ⟨m, G, ρ, S, _, _, hE, hS, h1, fun v m1 H1 s1 hS1 q1 _ => ?_⟩
      simp only [RepR, RepP] at q1
      obtain ⟨a, vs, rfl, f, r⟩ := q1
      exact ⟨a, vs, rfl, f.sq, k m1 H1 _ s1 hS1 (itok_enumT f r)⟩
    · cases hx
end
end XL
end
section
set_option Elab.async false
set_option linter.all false
set_option maxRecDepth 100000
set_option maxHeartbeats 1000000
namespace XL
open PySem L2 PyProof.Rows
/-! ### slices -/
theorem PO.imp {X : Cx} {e : Option Expr} {t t' : TO} (h : PO X e t) (w : ∀ σ H Q, t' σ H Q → t σ H Q) : PO X e t' := ⟨fun pins s σ H Q I q => h.run pins s σ H Q I (w σ H Q q)⟩
section
variable {X : Cx} {e : Expr} {xe : XE}
end
section
variable {X : Cx} {e : Expr} {xa : XE} {lo hi : Option Expr} {xl xh : Option XE} {pos p2 : Pos}
end
end XL
end
section
set_option Elab.async false
set_option linter.all false
set_option maxRecDepth 100000
set_option maxHeartbeats 1000000
namespace XL
open PySem L2 PyProof.Rows PySem.W
/-! ### sorted(d), keys that are tuples -/
section
variable {X : Cx} {o : Expr} {xo : XE} {p pos : Pos}
end
end XL
end
section
set_option Elab.async false
set_option linter.all false
set_option maxRecDepth 100000
set_option maxHeartbeats 1000000
namespace XL
open PySem L2 PySem.Spec PyProof.Rows
/-! ### sets whose members are tuples of numbers and texts -/
abbrev TupK (Pg : Program) (w : World) (h : Heap) (ks : List Key) (b : Addr) : Prop := IsTupleKey (mixKind Pg w) h ks b
abbrev hK (Pg : Program) (w : World) (ks : List Key) : Int := tupleKeyHash (mixKind Pg w) ks
def plainV : Value → Bool
  | .int _ _ => true
  | .str _ _ => true
  | _ => false
section
variable {Pg : Program} {w : World} {A : Around} {E : Value → Shared → Prop} {s : Shared}
theorem items_plain {ks : List Key} {vs : List Value} (h : ItemsAre (mixKind Pg w) ks vs) : ∀ v ∈ vs, plainV v = true := by
  induction h with
  | nil => intro v q; cases q
  | @cons k v' ks vs h1 _ ih =>
    intro v q
    rcases List.mem_cons.mp q with rfl | q
    · have h2 := keyV_is.mpr h1
      cases v <;> first | rfl | cases h2
    · exact ih v q
theorem noCls_plain (n : Nat) {v : Value} (h : plainV v = true) : ofAClassStatement n v = pure false := by
  cases v <;> first | (cases n <;> rfl) | cases h
theorem hashVal_plain (n : Nat) {v : Value} (h : plainV v = true) : ∃ c, hashByValue n v = pure c := by
  cases v <;> first | exact ⟨_, hashByValue_scannable _ rfl⟩ | cases h
theorem noCls_tup {ks : List Key} {b : Addr} {Q : Bool → Shared → Prop} (hb : TupK Pg w s.heap ks b) (q : Q false s) : wpAny (model Pg w) A (ofAClassStatement 8 (.ref b)) Q E s := by
  have ty := hb.typeIs
  obtain ⟨o, its, n, ho, _, hd, hi⟩ := hb
  unfold ofAClassStatement
  refine wpAny_bind (wpAny_typeOf ty ?_)
  dsimp only
  have yes : (("tuple" : String) == "tuple") = true := by decide
  simp only [yes, if_true, Bool.not_true, Bool.false_eq_true, if_false]
  try refine wpAny_bind (wpAny_pure ?_)
  try simp only [Bool.not_true, Bool.false_eq_true, if_false]
  refine wpAny_bind (m := seqItems? (.ref b)) (wpAny_seqItems ho hd ?_)
  dsimp only
  refine wpAny_bind ?_
  show wpAny _ _ (forIn its _ _) _ _ s
  rw [← Array.forIn_toList]
  refine wpAny_forIn_list _ (fun rest r s' => r.1 = none ∧ s' = s ∧ ∀ v ∈ rest, plainV v = true) _ ?_ ?_ _ _ ⟨rfl, rfl, items_plain hi⟩
  · rintro v rest r s' ⟨_, rfl, al⟩
    rw [noCls_plain _ (al v List.mem_cons_self)]
    refine wpAny_bind (wpAny_pure ?_)
    simp only [Bool.false_eq_true, if_false]
    exact wpAny_pure ⟨rfl, rfl, fun x hx => al x (List.mem_cons_of_mem _ hx)⟩
  · rintro ⟨r1, r2⟩ s' ⟨e, rfl, _⟩
    cases e
    exact wpAny_pure q
theorem hashVal_tup {ks : List Key} {b : Addr} {Q : Bool → Shared → Prop} (hb : TupK Pg w s.heap ks b) (q : ∀ c, Q c s) : wpAny (model Pg w) A (hashByValue 8 (.ref b)) Q E s := by
  have ty := hb.typeIs
  obtain ⟨o, its, n, ho, _, hd, hi⟩ := hb
  unfold hashByValue
  refine wpAny_bind (wpAny_specialOf ty F.slot_tuple_hash.lookup ?_)
  refine wpAny_bind (m := seqItems? (.ref b)) (wpAny_seqItems ho hd ?_)
  refine wpAny_bind ?_
  show wpAny _ _ (forIn its _ _) _ _ s
  rw [← Array.forIn_toList]
  refine wpAny_forIn_list _ (fun rest r s' => r.1 = none ∧ s' = s ∧ ∀ v ∈ rest, plainV v = true) _ ?_ ?_ _ _ ⟨rfl, rfl, items_plain hi⟩
  · rintro v rest r s' ⟨_, rfl, al⟩
    obtain ⟨c, hc⟩ := hashVal_plain 7 (al v List.mem_cons_self)
    rw [hc]
    refine wpAny_bind (wpAny_pure ?_)
    cases c with
    | true =>
      simp only [Bool.not_true, Bool.false_eq_true, if_false]
      exact wpAny_pure ⟨rfl, rfl, fun x hx => al x (List.mem_cons_of_mem _ hx)⟩
    | false =>
      simp only [Bool.not_false, if_true]
      exact wpAny_pure (wpAny_pure (q false))
  · rintro ⟨r1, r2⟩ s' ⟨e, rfl, _⟩
    cases e
    exact wpAny_pure (q true)
/-- nobody can see that tuples are compared -/
theorem unseen_tup {ks : List Key} {b : Addr} {Q : Bool → Shared → Prop} (hb : TupK Pg w s.heap ks b) {ys : List Value} (hy : ∀ y ∈ ys, ∃ ls c, y = Value.ref c ∧ TupK Pg w s.heap ls c) (q : Q false s) : wpAny (model Pg w) A (searchCouldBeSeen (.ref b) ys) Q E s := by
  unfold searchCouldBeSeen
  refine wpAny_bind ?_
  refine wpAny_forIn_list _ (fun rest r s' => r.1 = none ∧ s' = s ∧ ∀ y ∈ rest, ∃ ls c, y = Value.ref c ∧ TupK Pg w s.heap ls c) _ ?_ ?_ _ _ ⟨rfl, rfl, hy⟩
  · rintro v rest r s' ⟨_, rfl, al⟩
    obtain ⟨ls, c, rfl, hc⟩ := al v List.mem_cons_self
    have tl : ∀ y ∈ rest, ∃ ls c, y = Value.ref c ∧ TupK Pg w s'.heap ls c := fun x hx => al x (List.mem_cons_of_mem _ hx)
    dsimp only
    by_cases same : (b == c || (carriedByValue (.ref b) && carriedByValue (.ref c))) = true
    · exact wp_if_pos same (wpAny_pure ⟨rfl, rfl, tl⟩)
    · refine wp_if_neg same (wpAny_bind (wpAny_eqIsQuiet_tuple hb ?_))
      simp only [Bool.not_true, Bool.false_eq_true, if_false]
      refine wpAny_bind (wpAny_eqIsQuiet_tuple hc ?_)
      simp only [Bool.not_true, Bool.false_eq_true, if_false]
      refine wpAny_bind (noCls_tup hb ?_)
      simp only [Bool.false_eq_true, if_false]
      refine wpAny_bind (noCls_tup hc ?_)
      simp only [Bool.false_eq_true, if_false]
      exact wpAny_pure ⟨rfl, rfl, tl⟩
  · rintro ⟨r1, r2⟩ s' ⟨e, rfl, _⟩
    cases e
    exact wpAny_pure q
end
/-! ### the table -/
abbrev Mem := Addr × List Key
def rowsK (Pg : Program) (w : World) (L : List Mem) : List (Int × Value) := L.map fun m => (hK Pg w m.2, Value.ref m.1)
structure SetK (Pg : Program) (w : World) (h : Heap) (a : Addr) (L : List Mem) (es : Array (Int × Value)) (ep : Nat) (t : SetTable) : Prop where
  obj : ∃ o, h.get? a = some o ∧ o.ExactSet ∧ o.data = .set es ep t
  row : es.toList = rowsK Pg w L
  tbl : TabOk t (L.map fun m => hK Pg w m.2)
  dif : (L.map (·.2)).Nodup
  mem : ∀ m ∈ L, TupK Pg w h m.2 m.1
  led : w.params.followText "set-order" = true ∨ t.led = true
  spc : L.length * 5 < t.mask * 3
  lim : L.length < 64
section
variable {Pg : Program} {w : World} {A : Around} {E : Value → Shared → Prop} {s : Shared} {a : Addr} {L : List Mem} {es : Array (Int × Value)} {ep : Nat} {t : SetTable}
theorem rowsK_len {L : List Mem} {es : Array (Int × Value)} (h : es.toList = rowsK Pg w L) : es.size = L.length := by
  have := congrArg List.length h
  simpa [rowsK] using this
theorem rowsK_at {L : List Mem} {es : Array (Int × Value)} (h : es.toList = rowsK Pg w L) {i : Nat} {m : Mem} (hm : L[i]? = some m) : es[i]? = some (hK Pg w m.2, Value.ref m.1) := by
  rw [← Array.getElem?_toList, h, rowsK, List.getElem?_map, hm]; rfl
theorem SetK.fits (R : SetK Pg w s.heap a L es ep t) : t.fits es.size = true := by
  have h1 := R.tbl.sz
  rw [List.length_map] at h1
  have h2 := rowsK_len R.row
  have h3 := R.spc
  unfold SetTable.fits SetTable.fill
  rw [R.tbl.dm, Bool.and_eq_true, beq_iff_eq, decide_eq_true_eq]
  show t.place.size = es.size ∧ t.place.size + 0 ≤ t.mask
  omega
theorem nth_dummy (msk : Nat) : ∀ (n : Nat) (p : SetTable.Probe), p.dummy = none → (nth msk p n).dummy = none
  | 0, p, h => h
  | n + 1, p, h => nth_dummy msk n (adv msk p) (by unfold adv; split <;> exact h)
/-- the start of the way of a hash -/
abbrev way0 (t : SetTable) (hv : Int) : SetTable.Probe := runAt t.mask (SetTable.bits hv % (t.mask + 1)) (SetTable.bits hv)
/-- one search, from the step c on -/
theorem lookK (R : SetK Pg w s.heap a L es ep t) {x : Addr} {k : List Key} (hx : TupK Pg w s.heap k x) (hu : A.units < cLine) {N : Nat} (hN : N < 10 * SetTable.turns t.mask)
    (free : way t.mask (hK Pg w k) N ∉ t.place.toList) (full : ∀ c, c < N → way t.mask (hK Pg w k) c ∈ t.place.toList) {Q : SetFound → Shared → Prop}
    (yes : k ∈ L.map (·.2) → Q (.there none) s) (no : k ∉ L.map (·.2) → Q (.free (way t.mask (hK Pg w k) N) false) s) :
    ∀ (f c : Nat) (st : Option SetTable.Probe), st.getD (t.probeStart (hK Pg w k)) = nth t.mask (way0 t (hK Pg w k)) c → c ≤ N → N - c < f →
      (∀ (i : Nat) (m : Mem), L[i]? = some m → m.2 = k → ∃ c', c ≤ c' ∧ c' < N ∧ t.place.toList[i]? = some (way t.mask (hK Pg w k) c')) →
      wpAny (model Pg w) A (setSearchFrom a (.ref x) (hK Pg w k) true f st) Q E s := by
  intro f
  induction f with
  | zero => intro c st _ _ h; exact absurd h (Nat.not_lt_zero _)
  | succ f ih =>
    intro c st hst hc hf ahead
    obtain ⟨o, ho, hex, hd⟩ := R.obj
    have gw : ¬ t.gaveWay = true := by
      unfold SetTable.gaveWay
      rw [mask_odd R.tbl.mok]; decide
    rw [setSearchFrom_succ]
    refine wpAny_bind (wpAny_setState_of ho hd R.fits ?_)
    dsimp only
    refine wp_if_neg gw ?_
    try refine wpAny_bind (wpAny_pure ?_)
    have nd := nth_dummy t.mask c (way0 t (hK Pg w k)) rfl
    have shift : ∀ q, nth t.mask (nth t.mask (way0 t (hK Pg w k)) c) q = nth t.mask (way0 t (hK Pg w k)) (c + q) := fun q => (nth_add t.mask c _ q).symm
    have jat : ∀ q, (nth t.mask (nth t.mask (way0 t (hK Pg w k)) c) q).j = way t.mask (hK Pg w k) (c + q) := fun q => congrArg SetTable.Probe.j (shift q)
    have hs : ∀ (i : Nat) (m : Mem), L[i]? = some m → (fun i => (es[i]?.map (·.1)).getD 0) i = hK Pg w m.2 := fun i m hm => by
      show (es[i]?.map (·.1)).getD 0 = _
      rw [rowsK_at R.row hm]; rfl
    have run := go_spec t R.tbl.ris R.tbl.dm (fun i => (es[i]?.map (·.1)).getD 0) (hK Pg w k) (10 * SetTable.turns t.mask) (N - c) _ nd (by omega)
      (fun q hq => by rw [jat]; exact full (c + q) (by omega)) (by rw [jat, show c + (N - c) = N by omega]; exact free)
    rcases run with ⟨q, i, hq, hi, hh, skipped, met⟩ | ⟨skipped, met⟩
    · have met' : t.probe (fun i => (es[i]?.map (·.1)).getD 0) (hK Pg w k) (st.getD (t.probeStart (hK Pg w k))) = some (.candidate (way t.mask (hK Pg w k) (c + q)) i (nth t.mask (way0 t (hK Pg w k)) (c + (q + 1)))) := by
        rw [hst, ← jat, ← shift]; exact met
      rw [met']
      dsimp only
      rw [jat] at hi
      have il : i < L.length := by
        have h1 := (List.getElem?_eq_some_iff.mp hi).1
        have h2 := R.tbl.sz
        rw [List.length_map] at h2
        rw [Array.length_toList] at h1
        omega
      obtain ⟨m, hm⟩ : ∃ m, L[i]? = some m := ⟨_, List.getElem?_eq_getElem il⟩
      have mem := List.mem_of_getElem? hm
      have go : wpAny (model Pg w) A (searchRest a (.ref x) (hK Pg w k) true f es t (way t.mask (hK Pg w k) (c + q)) i (nth t.mask (way0 t (hK Pg w k)) (c + (q + 1)))) Q E s := by
        unfold searchRest
        rw [rowsK_at R.row hm]
        dsimp only
        refine wpAny_bind (wpAny_holding (wpAny_eqBool_tuple hu (R.mem m mem) hx ?_))
        refine wpAny_bind (wpAny_setState_of ho hd R.fits ?_)
        dsimp only
        by_cases ek : m.2 = k
        · exact wp_if_pos (by simp [ek]) (wpAny_pure (yes (List.mem_map.mpr ⟨m, mem, ek⟩)))
        · refine wp_if_neg (by simp [ek]) ?_
          try refine wpAny_bind (wpAny_pure ?_)
          rw [sameMem]
          dsimp only
          have live : t.slot (way t.mask (hK Pg w k) (c + q)) = .live i := slot_live R.tbl.ris hi
          simp only [if_true, live, rowsK_at R.row hm]
          refine wpAny_bind (wpAny_isSame_ref_self (wpAny_bind (wpAny_pure ?_)))
          simp only [if_true]
          refine wp_if_neg (by simp [ek]) (ih (c + (q + 1)) _ rfl (by omega) (by omega) fun i0 m0 h0 e0 => ?_)
          obtain ⟨c', a1, a2, a3⟩ := ahead i0 m0 h0 e0
          refine ⟨c', ?_, a2, a3⟩
          by_cases z : c' < c + q
          · exfalso
            exact skipped (c' - c) i0 (by omega) (by rw [jat, show c + (c' - c) = c' by omega]; exact a3) ((hs i0 m0 h0).trans (congrArg (hK Pg w) e0))
          · by_cases y : c' = c + q
            · exfalso
              subst y
              have l0 := slot_live R.tbl.ris a3
              rw [live] at l0
              cases l0
              rw [hm] at h0; cases h0
              exact ek e0
            · omega
      by_cases ld : t.led = true
      · refine wp_if_neg (by simp [ld]) ?_
        try refine wpAny_bind (wpAny_pure ?_)
        exact go
      · refine wp_if_pos (by simp [ld]) (wpAny_bind (unseen_tup hx (fun y hy => ?_) ?_))
        · obtain ⟨e, he, rfl⟩ := List.mem_map.mp hy
          have h1 : e ∈ es.toList := by
            have : e ∈ es ∧ e.1 = hK Pg w k := by simpa using he
            simpa using this.1
          rw [R.row] at h1
          obtain ⟨m2, q2, rfl⟩ := List.mem_map.mp h1
          exact ⟨m2.2, m2.1, rfl, R.mem m2 q2⟩
        · refine wp_if_neg (by decide) ?_
          try refine wpAny_bind (wpAny_pure ?_)
          exact go
    · have met' : t.probe (fun i => (es[i]?.map (·.1)).getD 0) (hK Pg w k) (st.getD (t.probeStart (hK Pg w k))) = some (.empty (way t.mask (hK Pg w k) N) none) := by
        have e2 : way t.mask (hK Pg w k) N = (nth t.mask (nth t.mask (way0 t (hK Pg w k)) c) (N - c)).j := by rw [jat, show c + (N - c) = N by omega]
        rw [hst, e2]; exact met
      rw [met']
      dsimp only
      refine wpAny_pure (no fun inL => ?_)
      obtain ⟨m0, h0, e0⟩ := List.mem_map.mp inL
      obtain ⟨i0, l0, e1⟩ := List.getElem_of_mem h0
      have g0 : L[i0]? = some m0 := by rw [List.getElem?_eq_getElem l0, e1]
      obtain ⟨c', a1, a2, a3⟩ := ahead i0 m0 g0 e0
      exact skipped (c' - c) i0 (by omega) (by rw [jat, show c + (c' - c) = c' by omega]; exact a3) ((hs i0 m0 g0).trans (congrArg (hK Pg w) e0))
theorem findK (R : SetK Pg w s.heap a L es ep t) {x : Addr} {k : List Key} (hx : TupK Pg w s.heap k x) (hu : A.units < cLine) {Q : SetFound → Shared → Prop} (yes : k ∈ L.map (·.2) → Q (.there none) s)
    (no : ∀ N, k ∉ L.map (·.2) → way t.mask (hK Pg w k) N ∉ t.place.toList → (∀ c, c < N → way t.mask (hK Pg w k) c ∈ t.place.toList) → Q (.free (way t.mask (hK Pg w k) N) false) s) :
    wpAny (model Pg w) A (setSearch a (.ref x) (hK Pg w k) true) Q E s := by
  have sp := R.spc
  obtain ⟨N, hN, free, full⟩ := R.tbl.first (by rw [List.length_map]; omega) (hK Pg w k)
  have small : N < 100000 := by
    have : 10 * SetTable.turns t.mask ≤ 1420 := by
      unfold SetTable.turns
      rcases R.tbl.mok with e | e | e <;> omega
    omega
  unfold setSearch
  refine lookK R hx hu hN free full yes (fun z => no N z free full) 100000 0 none rfl (Nat.zero_le _) (by omega) fun i m hm ek => ?_
  have h1 : (L.map fun m => hK Pg w m.2)[i]? = some (hK Pg w k) := by rw [List.getElem?_map, hm, ← ek]; rfl
  have il : i < t.place.toList.length := by
    have := (List.getElem?_eq_some_iff.mp hm).1
    have h2 := R.tbl.sz
    rw [List.length_map] at h2
    rw [Array.length_toList]; omega
  have hj := List.getElem?_eq_getElem il
  obtain ⟨c, hc, e⟩ := R.tbl.before free h1 hj
  exact ⟨c, Nat.zero_le _, hc, by rw [hj, e]⟩
end
end XL
end
section
set_option Elab.async false
set_option linter.all false
set_option maxRecDepth 100000
set_option maxHeartbeats 1000000
namespace XL
open PySem L2 PySem.Spec PyProof.Rows
theorem tab_off {t : SetTable} {hs : List Int} (T : TabOk t hs) (c : Bool) : TabOk (if c = true then t else { t with plain := false }) hs := by
  cases c with
  | true => exact T
  | false => exact ⟨T.ris, T.dm, T.sz, T.mok, T.bd, T.reach⟩
section
variable {Pg : Program} {w : World} {A : Around} {E : Value → Shared → Prop} {s : Shared}
theorem tupK_same {h h' : Heap} {k : List Key} {a b : Addr} {o : Obj} {es : Array (Int × Value)} {ep : Nat} {t : SetTable} (hb : TupK Pg w h k b) (ho : h.get? a = some o) (hd : o.data = .set es ep t) (sb : Heap.SameBut a h h') : TupK Pg w h' k b := by
  obtain ⟨o', its, n, q1, q2, q3, q4⟩ := hb
  refine ⟨o', its, n, (sb.2 b fun e => ?_).trans q1, q2, q3, q4⟩
  subst e
  rw [ho] at q1
  cases q1
  rw [hd] at q3
  cases q3
theorem ins_perm {α : Type} (L : List α) (p : Nat) (x : α) : (L.take p ++ x :: L.drop p).Perm (x :: L) := by
  have h : (L.take p ++ x :: L.drop p).Perm (x :: (L.take p ++ L.drop p)) := List.perm_middle
  rwa [List.take_append_drop] at h
/-- the rows in another sequence -/
theorem rowsK_order (L : List Mem) (es : Array (Int × Value)) (od : Array Nat) (hr : es.toList = rowsK Pg w L) (hp : od.toList.Perm (List.range L.length)) :
    ∃ L2, (od.filterMap (es[·]?)).toList = rowsK Pg w L2 ∧ L2.Perm L ∧ (L2.map fun m => hK Pg w m.2) = od.toList.map fun i => (es.map (·.1)).getD i 0 := by
  have sz := rowsK_len hr
  have each : ∀ l : List Nat, (∀ i ∈ l, i < L.length) → l.filterMap (fun i => es[i]?) = rowsK Pg w (l.filterMap fun i => L[i]?) ∧ ((l.filterMap fun i => L[i]?).map fun m => hK Pg w m.2) = l.map fun i => (es.map (·.1)).getD i 0 := by
    intro l
    induction l with
    | nil => intro _; exact ⟨rfl, rfl⟩
    | cons i l ih =>
      intro hl
      have li := hl i List.mem_cons_self
      obtain ⟨e1, e2⟩ := ih fun j hj => hl j (List.mem_cons_of_mem _ hj)
      have gi : L[i]? = some L[i] := List.getElem?_eq_getElem li
      have ei := rowsK_at (Pg := Pg) (w := w) hr gi
      have e4 : (es.map (·.1)).getD i 0 = hK Pg w (L[i]).2 := by
        have e5 : (es.map (·.1))[i]? = some (hK Pg w (L[i]).2) := by rw [Array.getElem?_map, ei]; rfl
        simp [Array.getD_eq_getD_getElem?, e5]
      rw [List.filterMap_cons_some ei, List.filterMap_cons_some gi, e1, List.map_cons, List.map_cons, e2, e4]
      exact ⟨rfl, rfl⟩
  obtain ⟨e1, e2⟩ := each od.toList fun i hi => List.mem_range.mp (hp.mem_iff.mp hi)
  refine ⟨_, by first | (rw [Array.toList_filterMap]; exact e1) | simpa using e1, ?_, e2⟩
  have h1 := hp.filterMap fun i => L[i]?
  have h2 : (List.range L.length).filterMap (fun i => L[i]?) = L := by
    have : ∀ n, n ≤ L.length → (List.range n).filterMap (fun i => L[i]?) = L.take n := by
      intro n
      induction n with
      | zero => intro _; rfl
      | succ n ih =>
        intro hn
        have g := List.getElem?_eq_getElem (l := L) (i := n) hn
        rw [List.range_succ, List.filterMap_append, ih (by omega), List.take_add_one, g, List.filterMap_cons_some g]; rfl
    rw [this L.length (Nat.le_refl _), List.take_length]
  rwa [h2] at h1
variable {a : Addr} {L : List Mem} {es : Array (Int × Value)} {ep : Nat} {t : SetTable}
/-- a larger table -/
theorem growK {o : Obj} (ho : s.heap.get? a = some o) (hex : o.ExactSet) (hd : o.data = .set es ep t) (row : es.toList = rowsK Pg w L) (psz : t.place.size = es.size) (dm : t.dummies = #[]) (fill : es.size ≤ t.mask)
    (dif : (L.map (·.2)).Nodup) (mem : ∀ m ∈ L, TupK Pg w s.heap m.2 m.1) (led : w.params.followText "set-order" = true ∨ t.led = true) (lim : L.length < 64) {want M : Nat}
    (e1 : SetTable.sizeAbove want - 1 = M) (mok : MaskOk M) (e2 : SetTable.sizeAbove want ≤ 128) (spc : L.length * 5 < M * 3) {Q : Unit → Shared → Prop}
    (q : ∀ h' L' es' ep' t', Heap.SameBut a s.heap h' → SetK Pg w h' a L' es' ep' t' → L'.Perm L → Q () { s with heap := h' }) : wpAny (model Pg w) A (setRelay a want) Q E s := by
  have sz := rowsK_len row
  have fits : t.fits es.size = true := by
    unfold SetTable.fits SetTable.fill
    rw [dm, Bool.and_eq_true, beq_iff_eq, decide_eq_true_eq]
    show t.place.size = es.size ∧ t.place.size + 0 ≤ t.mask
    omega
  obtain ⟨t', od, er, hp, T, em, el, epl, ed⟩ := relaid_ok t (hs := es.map (·.1)) (wanted := want) e1 mok (by rw [Array.size_map, sz]; omega)
  rw [Array.size_map, sz] at hp
  obtain ⟨L2, r1, r2, r3⟩ := rowsK_order L es od row hp
  rw [← r3] at T
  have s2 : (od.filterMap (es[·]?)).size = es.size := by rw [rowsK_len r1, r2.length_eq, sz]
  rw [setRelay_eq]
  refine wpAny_bind (wpAny_setState_of ho hd fits ?_)
  dsimp only
  refine wp_if_neg (by rw [sizeLine_eq]; omega) ?_
  try refine wpAny_bind (wpAny_pure ?_)
  rw [er]
  dsimp only
  refine wpAny_bind (wp_if_neg (by rw [s2]; simp) ?_)
  try refine wpAny_bind (wpAny_pure ?_)
  refine wpAny_pure ?_
  dsimp only
  refine wpAny_storeSet_of ho hd ?_ (by rw [s2, sz, sizeLine_eq]; omega)
  have sb : Heap.SameBut a s.heap (s.heap.update a (Obj.putSet (od.filterMap (es[·]?)) t')) := Heap.SameBut.update ..
  exact q _ L2 (od.filterMap (es[·]?)) (ep + 1) t' sb ⟨⟨_, store_at ho hd, ⟨hex.1, hex.2.1, hex.2.2⟩, rfl⟩, r1, T, (r2.map (·.2)).nodup_iff.mpr dif, fun m hm => tupK_same (mem m (r2.mem_iff.mp hm)) ho hd sb, by rw [el]; exact led, by rw [r2.length_eq, em]; exact spc, by rw [r2.length_eq]; exact lim⟩ r2
/-- one more member -/
theorem putK (R : SetK Pg w s.heap a L es ep t) {x : Addr} {k : List Key} (hx : TupK Pg w s.heap k x) (hu : A.units < cLine) (room : L.length + 1 < 64) {Q : Bool → Shared → Prop}
    (q : ∀ b h' L' es' ep' t', Heap.SameBut a s.heap h' → SetK Pg w h' a L' es' ep' t' → (k ∈ L.map (·.2) → L' = L) → (k ∉ L.map (·.2) → L'.Perm ((x, k) :: L)) → Q b { s with heap := h' }) :
    wpAny (model Pg w) A (setAddHashed a (.ref x) (hK Pg w k)) Q E s := by
  obtain ⟨o, ho, hex, hd⟩ := R.obj
  have sz := rowsK_len R.row
  have sp := R.spc
  unfold setAddHashed
  refine wpAny_holding ?_
  rw [show (100000 : Nat) = 99999 + 1 from rfl, setAddHashedIn_succ]
  refine wpAny_bind (wpAny_setState_of ho hd R.fits ?_)
  dsimp only
  refine wp_if_neg (by simp [byScan, Value.scannable]) ?_
  try refine wpAny_bind (wpAny_pure ?_)
  refine wpAny_bind (findK R hx hu (fun inL => ?_) fun N out free full => ?_)
  · dsimp only
    exact wpAny_pure (q false s.heap L es ep t (Heap.SameBut.refl a s.heap) R (fun _ => rfl) fun z => absurd inL z)
  · dsimp only
    refine wpAny_bind (wpAny_setState_of ho hd R.fits ?_)
    dsimp only
    obtain ⟨q1, q2, q3, q4, q5, q6, q7, q8, q9⟩ := R.tbl.put free full
    generalize hpt : t.put (way t.mask (hK Pg w k) N) = pt at q1 q3 q4 q5 q6 q7 q8 q9 ⊢
    obtain ⟨t1, p⟩ := pt
    dsimp only at q1 q3 q4 q5 q6 q7 q8 q9 ⊢
    subst q1
    -- whether the hash is one by value does not matter
    suffices fin : ∀ c : Bool, wpAny (model Pg w) A (do
        storeSet a (SetTable.insertAt es (SetTable.below t.place (way t.mask (hK Pg w k) N)) (hK Pg w k, Value.ref x)) (if c = true then t1 else { t1 with plain := false })
        if (!false && (if c = true then t1 else { t1 with plain := false }).tooFull) = true then do
          setRelay a (SetTable.grown (es.size + 1))
          pure true
        else pure true) Q E s from by
      by_cases pl : t1.plain = true
      · exact wp_if_pos pl (wpAny_bind (hashVal_tup hx fin))
      · exact wp_if_neg pl (wpAny_bind (wpAny_pure (fin true)))
    intro c
    have f1 : (if c = true then t1 else { t1 with plain := false }).mask = t1.mask := by cases c <;> rfl
    have f2 : (if c = true then t1 else { t1 with plain := false }).led = t1.led := by cases c <;> rfl
    have f3 : (if c = true then t1 else { t1 with plain := false }).tooFull = t1.tooFull := by cases c <;> rfl
    replace q3 := tab_off q3 c
    generalize (if c = true then t1 else { t1 with plain := false }) = t2 at q3 f1 f2 f3 ⊢
    generalize hb : SetTable.below t.place (way t.mask (hK Pg w k) N) = p at q2 q3 ⊢
    have pm := ins_perm L p (x, k)
    have len := pm.length_eq
    have row1 : (SetTable.insertAt es p (hK Pg w k, Value.ref x)).toList = rowsK Pg w (L.take p ++ (x, k) :: L.drop p) := by
      rw [SetTable.toList_insertAt, R.row]
      simp [rowsK]
    have hs1 : (L.take p ++ (x, k) :: L.drop p).map (fun m => hK Pg w m.2) = (L.map fun m => hK Pg w m.2).take p ++ hK Pg w k :: (L.map fun m => hK Pg w m.2).drop p := by simp
    rw [← hs1] at q3
    have dif1 : ((L.take p ++ (x, k) :: L.drop p).map (·.2)).Nodup := by
      refine (pm.map (·.2)).nodup_iff.mpr ?_
      rw [List.map_cons]
      exact List.nodup_cons.mpr ⟨out, R.dif⟩
    have sz1 := rowsK_len row1
    generalize SetTable.insertAt es p (hK Pg w k, Value.ref x) = es1 at row1 sz1 ⊢
    generalize L.take p ++ (x, k) :: L.drop p = L1 at pm len q3 dif1 row1 sz1
    rw [List.length_cons] at len
    refine wpAny_bind (wpAny_storeSet_of ho hd ?_ (by rw [sz1, len, sizeLine_eq]; omega))
    have sb : Heap.SameBut a s.heap (s.heap.update a (Obj.putSet es1 t2)) := Heap.SameBut.update ..
    have ho1 := store_at (es' := es1) (t' := t2) ho hd
    generalize s.heap.update a (Obj.putSet es1 t2) = h1 at sb ho1 ⊢
    have mem1 : ∀ m ∈ L1, TupK Pg w h1 m.2 m.1 := fun m hm => by
      rcases List.mem_cons.mp (pm.mem_iff.mp hm) with e | z
      · subst e; exact tupK_same hx ho hd sb
      · exact tupK_same (R.mem m z) ho hd sb
    have led1 : w.params.followText "set-order" = true ∨ t2.led = true := by rw [f2, q5]; exact R.led
    rw [f3]
    by_cases tf : t1.tooFull = true
    · refine wp_if_pos (by simp [tf]) (wpAny_bind ?_)
      have much : (L.length + 1) * 5 ≥ t1.mask * 3 := by
        have := tf
        unfold SetTable.tooFull at this
        rw [decide_eq_true_eq, q9, List.length_map] at this
        exact this
      have psz : t2.place.size = es1.size := by
        have := q3.sz
        rw [List.length_map] at this
        omega
      rw [sz]
      have two : (t.mask = 7 ∧ L.length = 4) ∨ (t.mask = 31 ∧ L.length = 18) := by
        rcases R.tbl.mok with e | e | e
        · left; rw [q4, e] at much; rw [e] at sp; exact ⟨e, by omega⟩
        · right; rw [q4, e] at much; rw [e] at sp; exact ⟨e, by omega⟩
        · exfalso; rw [q4, e] at much; omega
      have go : ∀ M, SetTable.sizeAbove (SetTable.grown (L.length + 1)) - 1 = M → MaskOk M → SetTable.sizeAbove (SetTable.grown (L.length + 1)) ≤ 128 → (L.length + 1) * 5 < M * 3 →
          wpAny (model Pg w) A (setRelay a (SetTable.grown (L.length + 1))) (fun _ s' => wpAny (model Pg w) A (pure true) Q E s') E { s with heap := h1 } := fun M g1 g2 g3 g4 =>
        growK (s := { s with heap := h1 }) ho1 ⟨hex.1, hex.2.1, hex.2.2⟩ rfl row1 psz q3.dm (by rw [sz1, len, f1, q4]; rcases two with ⟨e, e'⟩ | ⟨e, e'⟩ <;> omega) dif1 mem1 led1 (by omega) g1 g2 g3 (by rw [len]; exact g4)
          fun h2 L2 es2 ep2 t3 sb2 R2 pm2 => wpAny_pure (q true h2 L2 es2 ep2 t3 (sb.trans sb2) R2 (fun z => absurd z out) fun _ => pm2.trans pm)
      rcases two with ⟨_, e⟩ | ⟨_, e⟩
      · exact go 31 (by rw [e, size_20]) (.inr (.inl rfl)) (by rw [e, size_20]; decide) (by omega)
      · exact go 127 (by rw [e, size_76]) (.inr (.inr rfl)) (by rw [e, size_76]; decide) (by omega)
    · refine wp_if_neg (by simp [tf]) (wpAny_pure (q true h1 L1 es1 (ep + 1) t2 sb ⟨⟨_, ho1, ⟨hex.1, hex.2.1, hex.2.2⟩, rfl⟩, row1, q3, dif1, mem1, led1, ?_, by omega⟩ (fun z => absurd z out) fun _ => pm))
      have := tf
      unfold SetTable.tooFull at this
      rw [decide_eq_true_eq, q9, List.length_map] at this
      rw [len, f1]; omega
end
end XL
end
section
set_option autoImplicit false
set_option linter.all false
namespace XL
/-- sorted(set(xs)), len(set(xs)): xs a list of tuples of numbers and texts -/
def setOkT (ds : List P) : Bool := ds.all keyOkT && sortOk ds && decide (ds.length < 63)
def uSortedSetT : P → Option R
  | .lst ds => if setOkT ds then some (.frl (sortP (dedupP ds))) else none
  | _ => none
def uLenSetT : P → Option R
  | .lst ds => if setOkT ds then some (.p (.int (dedupP ds).length)) else none
  | _ => none
end XL
end
section
set_option Elab.async false
set_option linter.all false
set_option maxRecDepth 100000
set_option maxHeartbeats 3200000
namespace XL
open PySem L2 PySem.Spec PyProof.Rows
/-- what the set has of the first i -/
structure GotK (ks : List Mem) (i : Nat) (L : List Mem) : Prop where
  sub : ∀ m ∈ L, m ∈ ks.take i
  all : ∀ m ∈ ks.take i, m.2 ∈ L.map (·.2)
  len : L.length ≤ i
theorem GotK.old {ks L : List Mem} {i : Nat} {x : Mem} (g : GotK ks i L) (h : ks[i]? = some x) (hm : x.2 ∈ L.map (·.2)) : GotK ks (i + 1) L := by
  have tk : ks.take (i + 1) = ks.take i ++ [x] := by rw [List.take_add_one, h]; rfl
  refine ⟨fun m q => by rw [tk]; exact List.mem_append_left _ (g.sub m q), fun m q => ?_, Nat.le_succ_of_le g.len⟩
  rw [tk] at q
  rcases List.mem_append.mp q with z | z
  · exact g.all m z
  · cases List.mem_singleton.mp z; exact hm
theorem GotK.new {ks L L' : List Mem} {i : Nat} {x : Mem} (g : GotK ks i L) (h : ks[i]? = some x) (pm : L'.Perm (x :: L)) : GotK ks (i + 1) L' := by
  have tk : ks.take (i + 1) = ks.take i ++ [x] := by rw [List.take_add_one, h]; rfl
  refine ⟨fun m q => ?_, fun m q => ?_, by rw [pm.length_eq]; exact Nat.succ_le_succ g.len⟩
  · rw [tk]
    rcases List.mem_cons.mp (pm.mem_iff.mp q) with e | z
    · subst e; simp
    · exact List.mem_append_left _ (g.sub m z)
  · rw [(pm.map (·.2)).mem_iff, List.map_cons]
    rw [tk] at q
    rcases List.mem_append.mp q with z | z
    · exact List.mem_cons_of_mem _ (g.all m z)
    · cases List.mem_singleton.mp z; exact List.mem_cons_self
section
variable {Pg : Program} {w : World} {A : Around} {E : Value → Shared → Prop} {s : Shared}
theorem SetK.at {h h' : Heap} {a : Addr} {L : List Mem} {es : Array (Int × Value)} {ep : Nat} {t : SetTable} (R : SetK Pg w h a L es ep t) (k : ∀ o, h.get? a = some o → h'.get? a = some o) (hm : ∀ m ∈ L, TupK Pg w h' m.2 m.1) : SetK Pg w h' a L es ep t := by
  obtain ⟨o, ho, r⟩ := R.obj
  exact ⟨⟨o, k o ho, r⟩, R.row, R.tbl, R.dif, hm, R.led, R.spc, R.lim⟩
end
end XL
end
section
set_option Elab.async false
set_option linter.all false
set_option autoImplicit false
set_option maxRecDepth 100000
set_option maxHeartbeats 1000000
namespace XL
/-! ### the order of plain data: numbers, texts, tuples and lists of them -/
mutual
def P.pl : P → Bool
  | .int _ => true
  | .str _ => true
  | .tup ds => P.pls ds
  | .lst ds => P.pls ds
  | _ => false
def P.pls : List P → Bool
  | [] => true
  | d :: ds => P.pl d && P.pls ds
end
theorem natLt_irr : ∀ s, natLt s s = false
  | [] => rfl
  | x :: s => by simp [natLt, natLt_irr s]
theorem natLt_tri : ∀ (s t : List Nat), natLt s t = true ∧ natLt t s = false ∨ s = t ∨ natLt t s = true ∧ natLt s t = false
  | [], [] => .inr (.inl rfl)
  | [], _ :: _ => .inl ⟨rfl, rfl⟩
  | _ :: _, [] => .inr (.inr ⟨rfl, rfl⟩)
  | x :: s, y :: t => by
    by_cases e : x = y
    · subst e
      rcases natLt_tri s t with h | rfl | h
      · left; simp [natLt, h]
      · exact .inr (.inl rfl)
      · right; right; simp [natLt, h]
    · have e' : ¬ y = x := fun q => e q.symm
      by_cases l : x < y
      · left; simp only [natLt, e, e', if_false, decide_eq_true_eq, decide_eq_false_iff_not]; omega
      · right; right; simp only [natLt, e, e', if_false, decide_eq_true_eq, decide_eq_false_iff_not]; omega
theorem natLt_trans : ∀ {s t u : List Nat}, natLt s t = true → natLt t u = true → natLt s u = true
  | [], [], _, h, _ => by cases h
  | [], _ :: _, [], _, h => by cases h
  | [], _ :: _, _ :: _, _, _ => rfl
  | _ :: _, [], _, h, _ => by cases h
  | _ :: _, _ :: _, [], _, h => by cases h
  | x :: s, y :: t, z :: u, h, k => by
    simp only [natLt] at h k ⊢
    by_cases a : x = y
    · subst a
      by_cases b : x = z
      · subst b
        simp only [if_true] at h k ⊢
        exact natLt_trans h k
      · simp only [b, if_false] at k ⊢; exact k
    · simp only [a, if_false, decide_eq_true_eq] at h
      by_cases b : y = z
      · subst b
        rw [if_neg a]; simpa using h
      · simp only [b, if_false, decide_eq_true_eq] at k
        have : ¬ x = z := by omega
        simp only [this, if_false, decide_eq_true_eq]; omega
mutual
theorem pyeq_refl : ∀ (p : P), P.pyeq p p = true
  | .non => by simp [P.pyeq]
  | .bl x => by simp [P.pyeq]
  | .int x => by simp [P.pyeq]
  | .str x => by simp [P.pyeq]
  | .tup xs => by simp [P.pyeq, pyeqs_refl xs]
  | .lst xs => by simp [P.pyeq, pyeqs_refl xs]
theorem pyeqs_refl : ∀ (p : List P), P.pyeqs p p = true
  | [] => by simp [P.pyeqs]
  | x :: xs => by simp [P.pyeqs, pyeq_refl x, pyeqs_refl xs]
end
mutual
theorem pyeq_pl : ∀ (p q : P), P.pl p = true → P.pl q = true → P.pyeq p q = true → p = q
  | .non, q, h, _, _ => by simp [P.pl] at h
  | .bl _, q, h, _, _ => by simp [P.pl] at h
  | .int x, q, _, hq, e => by cases q <;> simp_all [P.pyeq, P.pl]
  | .str x, q, _, hq, e => by cases q <;> simp_all [P.pyeq, P.pl]
  | .tup xs, q, h, hq, e => by
    cases q <;> simp only [P.pyeq] at e <;> try cases e
    rename_i ys
    rw [pyeqs_pl xs ys (by simpa [P.pl] using h) (by simpa [P.pl] using hq) e]
  | .lst xs, q, h, hq, e => by
    cases q <;> simp only [P.pyeq] at e <;> try cases e
    rename_i ys
    rw [pyeqs_pl xs ys (by simpa [P.pl] using h) (by simpa [P.pl] using hq) e]
theorem pyeqs_pl : ∀ (p q : List P), P.pls p = true → P.pls q = true → P.pyeqs p q = true → p = q
  | [], [], _, _, _ => rfl
  | [], _ :: _, _, _, e => by simp [P.pyeqs] at e
  | _ :: _, [], _, _, e => by simp [P.pyeqs] at e
  | x :: xs, y :: ys, h, hq, e => by
    simp only [P.pls, Bool.and_eq_true] at h hq
    simp only [P.pyeqs, Bool.and_eq_true] at e
    rw [pyeq_pl x y h.1 hq.1 e.1, pyeqs_pl xs ys h.2 hq.2 e.2]
end
theorem pyeq_iff {p q : P} (hp : P.pl p = true) (hq : P.pl q = true) : P.pyeq p q = decide (p = q) := by
  by_cases e : p = q
  · subst e; rw [pyeq_refl]; simp
  · rw [decide_eq_false e]
    cases h : P.pyeq p q with
    | false => rfl
    | true => exact absurd (pyeq_pl p q hp hq h) e
mutual
theorem lt_tri : ∀ (p q : P), P.pl p = true → P.pl q = true → P.alike p q = true → P.lt p q = true ∧ P.lt q p = false ∨ p = q ∨ P.lt q p = true ∧ P.lt p q = false
  | .non, q, h, _, _ => by simp [P.pl] at h
  | .bl _, q, h, _, _ => by simp [P.pl] at h
  | .int x, q, _, hq, e => by
    cases q <;> simp only [P.alike] at e <;> try cases e
    rename_i y
    simp only [P.lt, decide_eq_true_eq, decide_eq_false_iff_not, P.int.injEq]; omega
  | .str x, q, _, hq, e => by
    cases q <;> simp only [P.alike] at e <;> try cases e
    rename_i y
    simp only [P.lt, P.str.injEq]; exact natLt_tri x y
  | .tup xs, q, h, hq, e => by
    cases q <;> simp only [P.alike] at e <;> try cases e
    rename_i ys
    simp only [P.lt, P.tup.injEq]; exact lts_tri xs ys (by simpa [P.pl] using h) (by simpa [P.pl] using hq) e
  | .lst xs, q, h, hq, e => by
    cases q <;> simp only [P.alike] at e <;> try cases e
    rename_i ys
    simp only [P.lt, P.lst.injEq]; exact lts_tri xs ys (by simpa [P.pl] using h) (by simpa [P.pl] using hq) e
theorem lts_tri : ∀ (p q : List P), P.pls p = true → P.pls q = true → P.alikes p q = true → P.lts p q = true ∧ P.lts q p = false ∨ p = q ∨ P.lts q p = true ∧ P.lts p q = false
  | [], [], _, _, _ => .inr (.inl rfl)
  | [], _ :: _, _, _, _ => .inl ⟨rfl, rfl⟩
  | _ :: _, [], _, _, _ => .inr (.inr ⟨rfl, rfl⟩)
  | x :: xs, y :: ys, h, hq, e => by
    simp only [P.pls, Bool.and_eq_true] at h hq
    simp only [P.alikes, Bool.and_eq_true] at e
    rcases lt_tri x y h.1 hq.1 e.1 with k | k | k
    · left
      have n1 : P.pyeq x y = false := by
        rw [pyeq_iff h.1 hq.1]; apply decide_eq_false; intro z; subst z; rw [k.1] at k; cases k.2
      have n2 : P.pyeq y x = false := by
        rw [pyeq_iff hq.1 h.1]; apply decide_eq_false; intro z; subst z; rw [k.1] at k; cases k.2
      simp [P.lts, n1, n2, k]
    · subst k
      simp only [P.lts, pyeq_refl, if_true]
      rcases lts_tri xs ys h.2 hq.2 e.2 with k | k | k
      · exact .inl k
      · subst k; exact .inr (.inl rfl)
      · exact .inr (.inr k)
    · right; right
      have n1 : P.pyeq x y = false := by
        rw [pyeq_iff h.1 hq.1]; apply decide_eq_false; intro z; subst z; rw [k.1] at k; cases k.2
      have n2 : P.pyeq y x = false := by
        rw [pyeq_iff hq.1 h.1]; apply decide_eq_false; intro z; subst z; rw [k.1] at k; cases k.2
      simp [P.lts, n1, n2, k]
end
mutual
theorem lt_asymm : ∀ (p q : P), P.pl p = true → P.pl q = true → P.lt p q = true → P.lt q p = false
  | .non, q, h, _, _ => by simp [P.pl] at h
  | .bl _, q, h, _, _ => by simp [P.pl] at h
  | .int x, q, _, hq, a => by
    cases q <;> simp only [P.lt] at a <;> try cases a
    simp only [P.lt, decide_eq_true_eq, decide_eq_false_iff_not] at a ⊢; omega
  | .str x, q, _, hq, a => by
    cases q <;> simp only [P.lt] at a <;> try cases a
    rename_i y
    simp only [P.lt]
    rcases natLt_tri x y with k | k | k
    · exact k.2
    · subst k; rw [natLt_irr] at a; cases a
    · rw [k.2] at a; cases a
  | .tup xs, q, h, hq, a => by
    cases q <;> simp only [P.lt] at a <;> try cases a
    simp only [P.lt]; exact lts_asymm xs _ (by simpa [P.pl] using h) (by simpa [P.pl] using hq) a
  | .lst xs, q, h, hq, a => by
    cases q <;> simp only [P.lt] at a <;> try cases a
    simp only [P.lt]; exact lts_asymm xs _ (by simpa [P.pl] using h) (by simpa [P.pl] using hq) a
theorem lts_asymm : ∀ (p q : List P), P.pls p = true → P.pls q = true → P.lts p q = true → P.lts q p = false
  | [], [], _, _, a => by cases a
  | [], _ :: _, _, _, _ => rfl
  | _ :: _, [], _, _, a => by cases a
  | x :: xs, y :: ys, h, hq, a => by
    simp only [P.pls, Bool.and_eq_true] at h hq
    simp only [P.lts, pyeq_iff h.1 hq.1, pyeq_iff hq.1 h.1, decide_eq_true_eq] at a ⊢
    by_cases e1 : x = y
    · subst e1
      simp only [if_true] at a ⊢
      exact lts_asymm xs ys h.2 hq.2 a
    · simp only [e1, if_false] at a
      rw [if_neg (fun q => e1 q.symm)]
      exact lt_asymm x y h.1 hq.1 a
end
theorem lt_irr {p : P} (h : P.pl p = true) : P.lt p p = false := by
  cases e : P.lt p p with
  | false => rfl
  | true => rw [lt_asymm p p h h e] at e; cases e
mutual
theorem lt_trans' : ∀ (p q r : P), P.pl p = true → P.pl q = true → P.pl r = true → P.lt p q = true → P.lt q r = true → P.lt p r = true
  | .non, q, r, h, _, _, _, _ => by simp [P.pl] at h
  | .bl _, q, r, h, _, _, _, _ => by simp [P.pl] at h
  | .int x, q, r, _, hq, hr, a, b => by
    cases q <;> simp only [P.lt] at a <;> try cases a
    cases r <;> simp only [P.lt] at b <;> try cases b
    simp only [P.lt, decide_eq_true_eq] at a b ⊢; omega
  | .str x, q, r, _, hq, hr, a, b => by
    cases q <;> simp only [P.lt] at a <;> try cases a
    cases r <;> simp only [P.lt] at b <;> try cases b
    simp only [P.lt]; exact natLt_trans a b
  | .tup xs, q, r, h, hq, hr, a, b => by
    cases q <;> simp only [P.lt] at a <;> try cases a
    cases r <;> simp only [P.lt] at b <;> try cases b
    simp only [P.lt]; exact lts_trans' xs _ _ (by simpa [P.pl] using h) (by simpa [P.pl] using hq) (by simpa [P.pl] using hr) a b
  | .lst xs, q, r, h, hq, hr, a, b => by
    cases q <;> simp only [P.lt] at a <;> try cases a
    cases r <;> simp only [P.lt] at b <;> try cases b
    simp only [P.lt]; exact lts_trans' xs _ _ (by simpa [P.pl] using h) (by simpa [P.pl] using hq) (by simpa [P.pl] using hr) a b
theorem lts_trans' : ∀ (p q r : List P), P.pls p = true → P.pls q = true → P.pls r = true → P.lts p q = true → P.lts q r = true → P.lts p r = true
  | [], [], _, _, _, _, a, _ => by cases a
  | [], _ :: _, [], _, _, _, _, b => by cases b
  | [], _ :: _, _ :: _, _, _, _, _, _ => rfl
  | _ :: _, [], _, _, _, _, a, _ => by cases a
  | _ :: _, _ :: _, [], _, _, _, _, b => by cases b
  | x :: xs, y :: ys, z :: zs, h, hq, hr, a, b => by
    simp only [P.pls, Bool.and_eq_true] at h hq hr
    simp only [P.lts, pyeq_iff h.1 hq.1, pyeq_iff hq.1 hr.1, pyeq_iff h.1 hr.1, decide_eq_true_eq] at a b ⊢
    by_cases e1 : x = y
    · subst e1
      simp only [if_true] at a
      by_cases e2 : x = z
      · subst e2
        simp only [if_true] at b ⊢
        exact lts_trans' xs ys zs h.2 hq.2 hr.2 a b
      · simp only [e2, if_false] at b ⊢; exact b
    · simp only [e1, if_false] at a
      by_cases e2 : y = z
      · subst e2
        rw [if_neg e1]; exact a
      · simp only [e2, if_false] at b
        have c := lt_trans' x y z h.1 hq.1 hr.1 a b
        have ne : ¬ x = z := fun q => by
          subst q
          rw [lt_asymm x y h.1 hq.1 a] at b; cases b
        rw [if_neg ne]; exact c
end
/-! ### sorted lists -/
def AscP (L : List P) : Prop := L.Pairwise fun a b => P.lt a b = true
theorem mem_insP {x y : P} : ∀ {l : List P}, y ∈ insP x l ↔ y = x ∨ y ∈ l
  | [] => by simp [insP]
  | z :: l => by
    unfold insP
    split
    · simp only [List.mem_cons, mem_insP (l := l)]
      constructor
      · rintro (h | h | h) <;> simp [h]
      · rintro (h | h | h) <;> simp [h]
    · simp
theorem mem_sortP {y : P} : ∀ {l : List P}, y ∈ sortP l ↔ y ∈ l
  | [] => by simp [sortP]
  | z :: l => by unfold sortP; rw [mem_insP, mem_sortP]; simp
theorem insP_len {x : P} : ∀ {l : List P}, (insP x l).length = l.length + 1
  | [] => rfl
  | z :: l => by
    unfold insP
    split
    · simp [insP_len (l := l)]
    · simp
theorem sortP_length : ∀ {l : List P}, (sortP l).length = l.length
  | [] => rfl
  | z :: l => by unfold sortP; rw [insP_len, sortP_length]; rfl
/-- things that can be compared -/
def Cmp (L : List P) : Prop := (∀ a ∈ L, P.pl a = true) ∧ ∀ a ∈ L, ∀ b ∈ L, P.alike a b = true
theorem insP_asc {x : P} : ∀ {l : List P}, Cmp (x :: l) → x ∉ l → AscP l → AscP (insP x l)
  | [], _, _, _ => by simp [insP, AscP]
  | z :: l, hc, hx, ha => by
    unfold AscP at ha
    rw [List.pairwise_cons] at ha
    unfold insP
    have px := hc.1 x (by simp)
    have pz := hc.1 z (by simp)
    split
    · rename_i h
      have ih := insP_asc (x := x) (l := l) ⟨fun a q => hc.1 a (by simp at q ⊢; rcases q with q | q <;> simp [q]), fun a q b r => hc.2 a (by simp at q ⊢; rcases q with q | q <;> simp [q]) b (by simp at r ⊢; rcases r with r | r <;> simp [r])⟩ (fun q => hx (by simp [q])) ha.2
      unfold AscP
      rw [List.pairwise_cons]
      refine ⟨fun y hy => ?_, ih⟩
      rcases mem_insP.mp hy with q | q
      · subst q; exact h
      · exact ha.1 y q
    · rename_i h
      have lxz : P.lt x z = true := by
        rcases lt_tri x z px pz (hc.2 x (by simp) z (by simp)) with k | k | k
        · exact k.1
        · subst k; simp at hx
        · exact absurd k.1 h
      unfold AscP
      rw [List.pairwise_cons]
      refine ⟨fun y hy => ?_, by rw [List.pairwise_cons]; exact ha⟩
      rcases List.mem_cons.mp hy with q | q
      · subst q; exact lxz
      · exact lt_trans' x z y px pz (hc.1 y (by simp [q])) lxz (ha.1 y q)
theorem sortP_asc : ∀ {l : List P}, Cmp l → l.Nodup → AscP (sortP l)
  | [], _, _ => by simp [sortP, AscP]
  | z :: l, hc, hn => by
    rw [List.nodup_cons] at hn
    have sub : Cmp l := ⟨fun a q => hc.1 a (by simp [q]), fun a q b r => hc.2 a (by simp [q]) b (by simp [r])⟩
    unfold sortP
    refine insP_asc ⟨fun a q => ?_, fun a q b r => ?_⟩ (fun q => hn.1 (mem_sortP.mp q)) (sortP_asc sub hn.2)
    · rcases List.mem_cons.mp q with q | q
      · subst q; exact hc.1 _ (by simp)
      · exact hc.1 a (by simp [mem_sortP.mp q])
    · have f : ∀ {a : P}, a ∈ z :: sortP l → a ∈ z :: l := fun {a} q => by
        rcases List.mem_cons.mp q with q | q
        · simp [q]
        · simp [mem_sortP.mp q]
      exact hc.2 a (f q) b (f r)
theorem AscP.nodup {l : List P} (hp : ∀ a ∈ l, P.pl a = true) (h : AscP l) : l.Nodup := by
  unfold AscP at h
  induction l with
  | nil => simp
  | cons x l ih =>
    rw [List.pairwise_cons] at h
    rw [List.nodup_cons]
    refine ⟨fun q => ?_, ih (fun a r => hp a (by simp [r])) h.2⟩
    have := h.1 x q
    rw [lt_irr (hp x (by simp))] at this; cases this
theorem sortOk_of {l : List P} (hc : Cmp l) (hf : ∀ a ∈ l, P.fit 60 a = true) (ht : ∀ a ∈ l, fullTup a = true) (hl : l.length ≤ 1000000) : sortOk l = true := by
  have al : allAlike l = true := by
    clear hf ht hl
    induction l with
    | nil => rfl
    | cons x l ih =>
      simp only [allAlike, Bool.and_eq_true, List.all_eq_true]
      exact ⟨⟨hc.2 x (by simp) x (by simp), fun y hy => ⟨hc.2 x (by simp) y (by simp [hy]), hc.2 y (by simp [hy]) x (by simp)⟩⟩, ih ⟨fun a q => hc.1 a (by simp [q]), fun a q b r => hc.2 a (by simp [q]) b (by simp [r])⟩⟩
  have h1 : l.all (P.fit 60) = true := List.all_eq_true.mpr hf
  have h2 : l.all fullTup = true := List.all_eq_true.mpr ht
  simp only [sortOk, al, h1, h2, Bool.true_or, Bool.and_true, Bool.true_and, decide_eq_true_eq]
  exact hl
theorem sorted_of {l : List P} (hc : Cmp l) (hf : ∀ a ∈ l, P.fit 60 a = true) (ht : ∀ a ∈ l, fullTup a = true) (hl : l.length ≤ 1000000) : cSorted [.lst l] = some (.frl (sortP l)) := by
  simp only [cSorted]; rw [if_pos (sortOk_of hc hf ht hl)]
end XL
end
section
set_option Elab.async false
set_option linter.all false
set_option maxRecDepth 100000
set_option maxHeartbeats 1000000
namespace XL
open PySem L2 PyProof.Rows PySem.W
section
variable {X : Cx} {a : Expr} {xa : XE} {p p2 q pos : Pos}
end
end XL
end
section
set_option autoImplicit false
set_option linter.all false
namespace XL
end XL
end
section
set_option Elab.async false
set_option linter.all false
set_option maxRecDepth 100000
set_option maxHeartbeats 1000000
namespace XL
open PySem L2 PyProof.Rows PySem.W
mutual
theorem toPD_inj : ∀ (a b : P), toPD a = toPD b → a = b
  | .non, b, h => by cases b <;> simp_all [toPD]
  | .bl _, b, h => by cases b <;> simp_all [toPD]
  | .int _, b, h => by cases b <;> simp_all [toPD]
  | .str _, b, h => by cases b <;> simp_all [toPD]
  | .tup xs, b, h => by
    cases b <;> simp only [toPD] at h <;> first | cases h | skip
    rename_i ys
    rw [toPDs_inj xs ys (by injection h)]
  | .lst xs, b, h => by
    cases b <;> simp only [toPD] at h <;> first | cases h | skip
    rename_i ys
    rw [toPDs_inj xs ys (by injection h)]
theorem toPDs_inj : ∀ (a b : List P), toPDs a = toPDs b → a = b
  | [], b, h => by cases b <;> simp_all [toPDs]
  | x :: xs, b, h => by
    cases b with
    | nil => simp [toPDs] at h
    | cons y ys =>
      simp only [toPDs, List.cons.injEq] at h
      rw [toPD_inj x y h.1, toPDs_inj xs ys h.2]
end
end XL
end
section
set_option autoImplicit false
set_option linter.all false
namespace XL
/-! ### a dict of dicts, by value: what found_least makes of the closed ways -/
/-- the pairs, with the letters in the sequence in which they were put in -/
abbrev DD := List (P × List P)
def ddGet (F : DD) (k : P) : Option (List P) := (F.find? fun e => decide (e.1 = k)).map (·.2)
def ddAdd (F : DD) (k l : P) : DD := F.map fun e => if e.1 = k then (e.1, if l ∈ e.2 then e.2 else e.2 ++ [l]) else e
/-- the letters of a form, put in -/
def ddForm (fl : XF) (fm : List P) : List P → DD → Option DD
  | [], F => some F
  | k :: ks, F => match k with
    | .tup [.int i, .int j] => match pIx (.tup fm) (.int i), pIx (.tup fm) (.int j) with
      | some (.p a), some (.p b) => match fl [.p a, .p b] [], ddGet F (.tup [.int i, .int j]) with
        | some (.p (.str [c]), _), some ls => if ls.length < 64 then ddForm fl fm ks (ddAdd F (.tup [.int i, .int j]) (.str [c])) else none
        | _, _ => none
      | _, _ => none
    | _ => none
def leastTurn (fp fl : XF) (sp : P) (kvs : List (P × P)) (k l : P) (F : DD) : Option DD :=
  match ddGet F k with
  | some ls => if l ∈ ls then some F else
    match fp [.p sp, .ref 0] [.dct false true (putD kvs k l)] with
    | some (.p .non, _) => some F
    | some (.p (.tup fm), _) => ddForm fl fm (kvs.map (·.1)) F
    | _ => none
  | none => none
def leastIn (fp fl : XF) (sp : P) (kvs : List (P × P)) (k : P) : List P → DD → Option DD
  | [], F => some F
  | l :: ls, F => (leastTurn fp fl sp kvs k l F).bind fun F' => leastIn fp fl sp kvs k ls F'
def leastAll (fp fl : XF) (sp : P) (kvs : List (P × P)) : List P → DD → Option DD
  | [], F => some F
  | k :: ks, F => match lookD kvs k with
    | some (.str s) => (leastIn fp fl sp kvs k (s.map fun c => .str [c]) F).bind fun F' => leastAll fp fl sp kvs ks F'
    | _ => none
/-- the rows of the new dict -/
def ddOut (F : DD) : List P → Option (List P)
  | [] => some []
  | k :: ks => match ddGet F k with
    | some ls => if ls.all isStrP && decide (ls.length < 64) then match mJoin (.str []) [.lst (sortP ls)] with
      | some (.p d) => (ddOut F ks).map fun r => .tup [k, d] :: r
      | _ => none
      else none
    | none => none
def leastOf (fp fl : XF) (sp : P) (kvs : List (P × P)) : Option R :=
  if ((kvs.map (·.1)).all fun k => decide (k ∈ pairs10)) && decide ((kvs.map (·.1)).Nodup) then
    (leastAll fp fl sp kvs (kvs.map (·.1)) ((kvs.map (·.1)).map fun k => (k, []))).bind fun F => (ddOut F (kvs.map (·.1))).bind fun rs => cDictP [.lst rs]
  else none
/-- the end of found_least: slots web known found pair letter narrow form i j; known is locked -/
def xLeast (fp fl : XF) : XS := fun ρ S => match ρ with
  | [some (.p (.tup (sp :: rest))), some (.ref l), _, _, _, _, _, _, _] => match S[l]? with
    | some (.dct true true kvs) => (leastOf fp fl sp kvs).map fun r => (.rt r, S)
    | _ => none
  | _ => none
end XL
end
section
set_option Elab.async false
set_option linter.all false
set_option autoImplicit false
set_option maxRecDepth 100000
set_option maxHeartbeats 1000000
namespace XL
/-! ### what a def does to its own cells it does among others as well -/
/-- n cells of a small store, put among m cells of a greater one -/
structure Fm where
  n : Nat
  m : Nat
  io : Nat → Nat
  S0 : Sto
  lt : ∀ l, l < n → io l < m
  inj : ∀ l l', l < n → l' < n → io l = io l' → l = l'
def Fm.rn (F : Fm) (l : Nat) : Nat := if l < F.n then F.io l else l - F.n + F.m
def D.rn (F : Fm) : D → D
  | .p d => .p d
  | .ref l => .ref (F.rn l)
def R.rn (F : Fm) : R → R
  | .p d => .p d
  | .ref l => .ref (F.rn l)
  | .frl ds => .frl ds
  | .frd t k => .frd t k
def Env.rn (F : Fm) (ρ : Env) : Env := ρ.map (Option.map (D.rn F))
def Fl.rn (F : Fm) : Fl → Fl
  | .nx ρ => .nx (Env.rn F ρ)
  | .rt r => .rt (r.rn F)
  | .bk ρ => .bk (Env.rn F ρ)
  | .ct ρ => .ct (Env.rn F ρ)
structure SimS (F : Fm) (S T : Sto) : Prop where
  le : F.n ≤ S.length
  len : T.length = F.m + (S.length - F.n)
  cell : ∀ l, l < S.length → T[F.rn l]? = S[l]?
  out : ∀ j, j < F.m → (∀ l, l < F.n → F.io l ≠ j) → T[j]? = F.S0[j]?
def WfD (k : Nat) : D → Prop
  | .p _ => True
  | .ref l => l < k
def WfR (k : Nat) : R → Prop
  | .ref l => l < k
  | _ => True
def WfE (k : Nat) (ρ : Env) : Prop := ∀ d, some d ∈ ρ → WfD k d
def WfF (k : Nat) : Fl → Prop
  | .nx ρ => WfE k ρ
  | .rt r => WfR k r
  | .bk ρ => WfE k ρ
  | .ct ρ => WfE k ρ
theorem WfD.mono {k k' : Nat} (h : k ≤ k') : ∀ {d : D}, WfD k d → WfD k' d
  | .p _, _ => trivial
  | .ref l, w => Nat.lt_of_lt_of_le w h
theorem WfR.mono {k k' : Nat} (h : k ≤ k') : ∀ {r : R}, WfR k r → WfR k' r
  | .p _, _ => trivial
  | .frl _, _ => trivial
  | .frd _ _, _ => trivial
  | .ref l, w => Nat.lt_of_lt_of_le w h
theorem WfE.mono {k k' : Nat} (h : k ≤ k') {ρ : Env} (w : WfE k ρ) : WfE k' ρ := fun d hd => (w d hd).mono h
theorem Fm.rn_inj (F : Fm) {l l' : Nat} (h : F.rn l = F.rn l') : l = l' := by
  unfold Fm.rn at h
  split at h <;> split at h
  · rename_i a b; exact F.inj _ _ a b h
  · rename_i a b; have := F.lt l a; omega
  · rename_i a b; have := F.lt l' b; omega
  · omega
theorem Fm.rn_ge (F : Fm) {l : Nat} (h : F.n ≤ l) : F.rn l = F.m + (l - F.n) := by
  unfold Fm.rn; rw [if_neg (by omega)]; omega
theorem SimS.rn_lt {F : Fm} {S T : Sto} (s : SimS F S T) {l : Nat} (h : l < S.length) : F.rn l < T.length := by
  rw [s.len]; unfold Fm.rn
  split
  · rename_i a; have := F.lt l a; omega
  · have := s.le; omega
theorem rn_le {F : Fm} {n0 l : Nat} (h : F.n ≤ n0) : n0 ≤ l ↔ F.m + (n0 - F.n) ≤ F.rn l := by
  unfold Fm.rn
  split
  · rename_i a; have := F.lt l a; omega
  · omega
theorem SimS.app {F : Fm} {S T : Sto} (s : SimS F S T) (X : Sto) : SimS F (S ++ X) (T ++ X) := by
  refine ⟨by rw [List.length_append]; have := s.le; omega, by rw [List.length_append, List.length_append, s.len]; have := s.le; omega, fun l h => ?_, fun j hj ho => ?_⟩
  · by_cases c : l < S.length
    · rw [List.getElem?_append_left c, List.getElem?_append_left (s.rn_lt c), s.cell l c]
    · have e := F.rn_ge (l := l) (by have := s.le; omega)
      have hl := s.len
      have hle := s.le
      rw [List.getElem?_append_right (by omega), List.getElem?_append_right (by omega), e, hl]
      congr 1; omega
  · rw [List.getElem?_append_left (by rw [s.len]; omega), s.out j hj ho]
theorem SimS.put {F : Fm} {S T : Sto} (s : SimS F S T) {l : Nat} (h : l < S.length) (c : Cell) : SimS F (S.set l c) (T.set (F.rn l) c) := by
  refine ⟨by rw [List.length_set]; exact s.le, by rw [List.length_set, List.length_set]; exact s.len, fun k hk => ?_, fun j hj ho => ?_⟩
  · rw [List.length_set] at hk
    by_cases e : k = l
    · subst e
      rw [List.getElem?_set_self h, List.getElem?_set_self (s.rn_lt h)]
    · rw [List.getElem?_set_ne (fun q => e q.symm), List.getElem?_set_ne (fun q => e (F.rn_inj q).symm), s.cell k hk]
  · rw [List.getElem?_set_ne ?_, s.out j hj ho]
    intro q
    unfold Fm.rn at q
    split at q
    · rename_i a; exact ho l a q
    · omega
theorem SimS.cut {F : Fm} {S T : Sto} (s : SimS F S T) {b : Nat} (h : F.n ≤ b) (hb : b ≤ S.length) : SimS F (S.take b) (T.take (F.m + (b - F.n))) := by
  have hl := s.len
  have hle := s.le
  have e1 : (S.take b).length = b := by rw [List.length_take]; omega
  refine ⟨by rw [e1]; exact h, by rw [e1, List.length_take]; omega, fun k hk => ?_, fun j hj ho => ?_⟩
  · rw [e1] at hk
    have hr : F.rn k < F.m + (b - F.n) := by
      have := (rn_le (F := F) (n0 := b) (l := k) h); omega
    rw [List.getElem?_take_of_lt hr, List.getElem?_take_of_lt hk, s.cell k (by omega)]
  · rw [List.getElem?_take_of_lt (by omega), s.out j hj ho]
theorem SimS.rd {F : Fm} {S T : Sto} (s : SimS F S T) : ∀ {r : R} {p : P}, r.rd S = some p → (r.rn F).rd T = some p
  | .p d, p, h => h
  | .frl ds, p, h => h
  | .frd _ _, p, h => by cases h
  | .ref l, p, h => by
    simp only [R.rd] at h
    split at h
    · rename_i ds e
      have hl := (List.getElem?_eq_some_iff.mp e).1
      cases h
      show R.rd T (.ref (F.rn l)) = _
      unfold R.rd
      simp only [s.cell l hl, e]
    · cases h
theorem rn_fz {F : Fm} {r : R} : (r.rn F).fz = r.fz := by cases r <;> rfl
theorem SimS.rds {F : Fm} {S T : Sto} (s : SimS F S T) : ∀ {rs : List R} {ps : List P}, XL.rds S rs = some ps → XL.rds T (rs.map (R.rn F)) = some ps
  | [], ps, h => h
  | r :: rs, ps, h => by
    simp only [XL.rds, Option.bind_eq_some_iff, Option.map_eq_some_iff] at h
    obtain ⟨d, h1, ds, h2, rfl⟩ := h
    simp [XL.rds, s.rd h1, s.rds h2]
theorem rn_fzs {F : Fm} : ∀ {rs : List R}, fzs (rs.map (R.rn F)) = fzs rs
  | [] => rfl
  | r :: rs => by simp only [List.map_cons, fzs, rn_fz, rn_fzs (rs := rs)]
theorem SimS.box {F : Fm} {S T : Sto} (s : SimS F S T) {r : R} (w : WfR S.length r) : (r.rn F).box T = ((r.box S).1.rn F, ((r.rn F).box T).2) ∧ SimS F (r.box S).2 ((r.rn F).box T).2 ∧ WfD (r.box S).2.length (r.box S).1 ∧ S.length ≤ (r.box S).2.length := by
  have hT : T.length = F.rn S.length := by rw [F.rn_ge s.le]; exact s.len
  cases r with
  | p d => exact ⟨rfl, s, trivial, Nat.le_refl _⟩
  | ref l => exact ⟨rfl, s, w, Nat.le_refl _⟩
  | frl ds =>
    refine ⟨?_, s.app _, ?_, ?_⟩
    · exact Prod.ext (congrArg D.ref hT) rfl
    · show S.length < (S ++ _).length; simp
    · show S.length ≤ (S ++ _).length; simp
  | frd t kv =>
    refine ⟨?_, s.app _, ?_, ?_⟩
    · exact Prod.ext (congrArg D.ref hT) rfl
    · show S.length < (S ++ _).length; simp
    · show S.length ≤ (S ++ _).length; simp
theorem SimS.arg {F : Fm} {S T : Sto} (s : SimS F S T) {r : R} (w : WfR S.length r) : (r.rn F).arg T = ((r.arg S).1.rn F, ((r.rn F).arg T).2) ∧ SimS F (r.arg S).2 ((r.rn F).arg T).2 ∧ WfD (r.arg S).2.length (r.arg S).1 ∧ S.length ≤ (r.arg S).2.length := by
  cases r with
  | p d => exact s.box w
  | ref l => exact s.box w
  | frl ds => exact ⟨rfl, s, trivial, Nat.le_refl _⟩
  | frd t kv => exact s.box w
theorem rn_get {F : Fm} {ρ : Env} {i : Nat} : (Env.rn F ρ)[i]? = ρ[i]?.map (Option.map (D.rn F)) := by simp [Env.rn]
theorem rn_set {F : Fm} {ρ : Env} {i : Nat} {d : Option D} : Env.rn F (ρ.set i d) = (Env.rn F ρ).set i (d.map (D.rn F)) := by simp [Env.rn, List.map_set]
theorem WfE.put {k : Nat} {ρ : Env} {i : Nat} {d : Option D} (w : WfE k ρ) (h : ∀ x, d = some x → WfD k x) : WfE k (ρ.set i d) := fun x hx => by
  rcases List.mem_or_eq_of_mem_set hx with a | a
  · exact w x a
  · exact h x a.symm
/-! the classes -/
class LocE (x : XE) : Prop where
  loc : ∀ {F : Fm} {S T : Sto} {ρ : Env} {r : R} {S' : Sto}, SimS F S T → WfE S.length ρ → x ρ S = some (r, S') → ∃ T', x (Env.rn F ρ) T = some (r.rn F, T') ∧ SimS F S' T' ∧ WfR S'.length r ∧ S.length ≤ S'.length
class LocT (x : XT) : Prop where
  loc : ∀ {F : Fm} {S T : Sto} {ρ : Env} {r : Bool} {S' : Sto}, SimS F S T → WfE S.length ρ → x ρ S = some (r, S') → ∃ T', x (Env.rn F ρ) T = some (r, T') ∧ SimS F S' T' ∧ S.length ≤ S'.length
class LocA (x : XA) : Prop where
  loc : ∀ {F : Fm} {S T : Sto} {ρ : Env} {r : List R} {S' : Sto}, SimS F S T → WfE S.length ρ → x ρ S = some (r, S') → ∃ T', x (Env.rn F ρ) T = some (r.map (R.rn F), T') ∧ SimS F S' T' ∧ (∀ q ∈ r, WfR S'.length q) ∧ S.length ≤ S'.length
class LocD (x : XD) : Prop where
  loc : ∀ {F : Fm} {S T : Sto} {ρ : Env} {r : List D} {S' : Sto}, SimS F S T → WfE S.length ρ → x ρ S = some (r, S') → ∃ T', x (Env.rn F ρ) T = some (r.map (D.rn F), T') ∧ SimS F S' T' ∧ (∀ q ∈ r, WfD S'.length q) ∧ S.length ≤ S'.length
class LocI (x : XI) : Prop where
  loc : ∀ {F : Fm} {S T : Sto} {ρ : Env} {r : List P} {l : Option Nat} {S' : Sto}, SimS F S T → WfE S.length ρ → x ρ S = some (r, l, S') → ∃ T', x (Env.rn F ρ) T = some (r, l.map F.rn, T') ∧ SimS F S' T' ∧ (∀ k, l = some k → k < S'.length) ∧ S.length ≤ S'.length
class LocS (x : XS) : Prop where
  loc : ∀ {F : Fm} {S T : Sto} {ρ : Env} {r : Fl} {S' : Sto}, SimS F S T → WfE S.length ρ → x ρ S = some (r, S') → ∃ T', x (Env.rn F ρ) T = some (r.rn F, T') ∧ SimS F S' T' ∧ WfF S'.length r ∧ S.length ≤ S'.length
class LocF (f : XF) : Prop where
  loc : ∀ {F : Fm} {S T : Sto} {as : List D} {r : R} {S' : Sto}, SimS F S T → (∀ d ∈ as, WfD S.length d) → f as S = some (r, S') → ∃ T', f (as.map (D.rn F)) T = some (r.rn F, T') ∧ SimS F S' T' ∧ WfR S'.length r ∧ S.length = S'.length
/-! expressions -/
instance {i : Nat} : LocE (xVar i) := ⟨fun {F S T ρ r S'} s w h => by
  unfold xVar at h
  split at h
  · rename_i d e; cases h
    exact ⟨T, by simp [xVar, rn_get, e, D.rn, R.rn], s, trivial, Nat.le_refl _⟩
  · rename_i l e; cases h
    exact ⟨T, by simp [xVar, rn_get, e, D.rn, R.rn], s, w _ (List.mem_of_getElem? e), Nat.le_refl _⟩
  · cases h⟩
instance {d : P} : LocE (xC d) := ⟨fun {F S T ρ r S'} s w h => by cases h; exact ⟨T, rfl, s, trivial, Nat.le_refl _⟩⟩
theorem rn_new {F : Fm} {k : Nat} {r : R} (h : ∀ l, r ≠ .ref l) : r.rn F = r ∧ WfR k r := by
  cases r with
  | ref l => exact absurd rfl (h l)
  | _ => exact ⟨rfl, trivial⟩
class NewB (f : P → P → Option R) : Prop where
  new : ∀ p q r, f p q = some r → ∀ l, r ≠ .ref l
class NewU (f : P → Option R) : Prop where
  new : ∀ p r, f p = some r → ∀ l, r ≠ .ref l
class NewC (f : List P → Option R) : Prop where
  new : ∀ p r, f p = some r → ∀ l, r ≠ .ref l
class NewM (f : P → List P → Option R) : Prop where
  new : ∀ p q r, f p q = some r → ∀ l, r ≠ .ref l
instance {f : P → P → Option R} {a b : XE} [N : NewB f] [A : LocE a] [B : LocE b] : LocE (xBin f a b) := ⟨fun {F S T ρ r S'} s w h => by
  simp only [xBin, Option.bind_eq_some_iff, Option.map_eq_some_iff, Prod.mk.injEq] at h
  obtain ⟨⟨x, S1⟩, h1, ⟨y, S2⟩, h2, p, hp, q, hq, r', hf, rfl, rfl⟩ := h
  obtain ⟨T1, a1, s1, w1, l1⟩ := A.loc s w h1
  obtain ⟨T2, a2, s2, w2, l2⟩ := B.loc s1 (w.mono l1) h2
  obtain ⟨e, we⟩ := rn_new (F := F) (k := S2.length) (N.new _ _ _ hf)
  refine ⟨T2, ?_, s2, we, Nat.le_trans l1 l2⟩
  simp [xBin, a1, a2, s2.rd hp, s2.rd hq, hf, e]⟩
instance {f : P → Option R} {a : XE} [N : NewU f] [A : LocE a] : LocE (xUn f a) := ⟨fun {F S T ρ r S'} s w h => by
  simp only [xUn, Option.bind_eq_some_iff, Option.map_eq_some_iff, Prod.mk.injEq] at h
  obtain ⟨⟨x, S1⟩, h1, p, hp, r', hf, rfl, rfl⟩ := h
  obtain ⟨T1, a1, s1, w1, l1⟩ := A.loc s w h1
  obtain ⟨e, we⟩ := rn_new (F := F) (k := S1.length) (N.new _ _ hf)
  refine ⟨T1, ?_, s1, we, l1⟩
  simp [xUn, a1, s1.rd hp, hf, e]⟩
instance {f g : P → P → Option R} {a b c : XE} [N : NewB g] [A : LocE a] [B : LocE b] [C : LocE c] : LocE (xChain f g a b c) := ⟨fun {F S T ρ r S'} s w h => by
  simp only [xChain, Option.bind_eq_some_iff] at h
  obtain ⟨⟨x, S1⟩, h1, ⟨y, S2⟩, h2, p, hp, q, hq, r', hf, h⟩ := h
  obtain ⟨T1, a1, s1, w1, l1⟩ := A.loc s w h1
  obtain ⟨T2, a2, s2, w2, l2⟩ := B.loc s1 (w.mono l1) h2
  split at h
  · simp only [Option.bind_eq_some_iff, Option.map_eq_some_iff, Prod.mk.injEq] at h
    obtain ⟨⟨z, S3⟩, h3, q', hq', v, hv, r2, hg, rfl, rfl⟩ := h
    obtain ⟨T3, a3, s3, w3, l3⟩ := C.loc s2 (w.mono (Nat.le_trans l1 l2)) h3
    obtain ⟨e, we⟩ := rn_new (F := F) (k := S3.length) (N.new _ _ _ hg)
    refine ⟨T3, ?_, s3, we, by simp only at *; omega⟩
    simp [xChain, a1, a2, s2.rd hp, s2.rd hq, hf, a3, s3.rd hq', s3.rd hv, hg, e]
  · cases h
    refine ⟨T2, ?_, s2, trivial, by simp only at *; omega⟩
    have q1 := s2.rd hp
    have q2 := s2.rd hq
    simp only [xChain, a1, a2, Option.bind_some, q1, q2, hf]
    rfl
  · cases h⟩
instance {a b : XE} [A : LocE a] [B : LocE b] : LocE (xAnd a b) := ⟨fun {F S T ρ r S'} s w h => by
  simp only [xAnd, Option.bind_eq_some_iff] at h
  obtain ⟨⟨x, S1⟩, h1, h⟩ := h
  obtain ⟨T1, a1, s1, w1, l1⟩ := A.loc s w h1
  simp only at h
  split at h
  · obtain ⟨T2, a2, s2, w2, l2⟩ := B.loc s1 (w.mono l1) h
    exact ⟨T2, by simp [xAnd, a1, R.rn, a2], s2, w2, by omega⟩
  · cases h
    exact ⟨T1, by simp [xAnd, a1, R.rn], s1, trivial, l1⟩
  · cases h⟩
instance {a b : XE} [A : LocE a] [B : LocE b] : LocE (xOr a b) := ⟨fun {F S T ρ r S'} s w h => by
  simp only [xOr, Option.bind_eq_some_iff] at h
  obtain ⟨⟨x, S1⟩, h1, h⟩ := h
  obtain ⟨T1, a1, s1, w1, l1⟩ := A.loc s w h1
  simp only at h
  split at h
  · cases h
    exact ⟨T1, by simp [xOr, a1, R.rn], s1, trivial, l1⟩
  · obtain ⟨T2, a2, s2, w2, l2⟩ := B.loc s1 (w.mono l1) h
    exact ⟨T2, by simp [xOr, a1, R.rn, a2], s2, w2, by omega⟩
  · cases h⟩
instance {a : XE} [A : LocE a] : LocE (xNot a) := ⟨fun {F S T ρ r S'} s w h => by
  simp only [xNot, Option.bind_eq_some_iff] at h
  obtain ⟨⟨x, S1⟩, h1, h⟩ := h
  obtain ⟨T1, a1, s1, w1, l1⟩ := A.loc s w h1
  simp only at h
  split at h
  · cases h
    exact ⟨T1, by simp [xNot, a1, R.rn], s1, trivial, l1⟩
  · cases h⟩
instance {t : XT} {a b : XE} [C : LocT t] [A : LocE a] [B : LocE b] : LocE (xIf t a b) := ⟨fun {F S T ρ r S'} s w h => by
  simp only [xIf, Option.bind_eq_some_iff] at h
  obtain ⟨⟨x, S1⟩, h1, h⟩ := h
  obtain ⟨T1, a1, s1, l1⟩ := C.loc s w h1
  cases x with
  | true =>
    obtain ⟨T2, a2, s2, w2, l2⟩ := A.loc s1 (w.mono l1) h
    exact ⟨T2, by simp [xIf, a1, a2], s2, w2, by omega⟩
  | false =>
    obtain ⟨T2, a2, s2, w2, l2⟩ := B.loc s1 (w.mono l1) h
    exact ⟨T2, by simp [xIf, a1, a2], s2, w2, by omega⟩⟩
instance {a : XE} [A : LocE a] : LocT (xB a) := ⟨fun {F S T ρ r S'} s w h => by
  simp only [xB, Option.bind_eq_some_iff] at h
  obtain ⟨⟨x, S1⟩, h1, h⟩ := h
  obtain ⟨T1, a1, s1, w1, l1⟩ := A.loc s w h1
  simp only at h
  split at h
  · cases h
    exact ⟨T1, by simp [xB, a1, R.rn], s1, l1⟩
  · cases h⟩
instance {a b : XT} [A : LocT a] [B : LocT b] : LocT (xTand a b) := ⟨fun {F S T ρ r S'} s w h => by
  simp only [xTand, Option.bind_eq_some_iff] at h
  obtain ⟨⟨x, S1⟩, h1, h⟩ := h
  obtain ⟨T1, a1, s1, l1⟩ := A.loc s w h1
  cases x with
  | true =>
    obtain ⟨T2, a2, s2, l2⟩ := B.loc s1 (w.mono l1) h
    exact ⟨T2, by simp [xTand, a1, a2], s2, by omega⟩
  | false => cases h; exact ⟨T1, by simp [xTand, a1], s1, l1⟩⟩
instance {a b : XT} [A : LocT a] [B : LocT b] : LocT (xTor a b) := ⟨fun {F S T ρ r S'} s w h => by
  simp only [xTor, Option.bind_eq_some_iff] at h
  obtain ⟨⟨x, S1⟩, h1, h⟩ := h
  obtain ⟨T1, a1, s1, l1⟩ := A.loc s w h1
  cases x with
  | false =>
    obtain ⟨T2, a2, s2, l2⟩ := B.loc s1 (w.mono l1) h
    exact ⟨T2, by simp [xTor, a1, a2], s2, by omega⟩
  | true => cases h; exact ⟨T1, by simp [xTor, a1], s1, l1⟩⟩
instance {a : XT} [A : LocT a] : LocT (xTnot a) := ⟨fun {F S T ρ r S'} s w h => by
  simp only [xTnot, Option.map_eq_some_iff] at h
  obtain ⟨⟨x, S1⟩, h1, h⟩ := h
  obtain ⟨T1, a1, s1, l1⟩ := A.loc s w h1
  cases h
  exact ⟨T1, by simp [xTnot, a1], s1, l1⟩⟩
instance : LocT xTyes := ⟨fun {F S T ρ r S'} s w h => by cases h; exact ⟨T, rfl, s, Nat.le_refl _⟩⟩
instance : LocA xNil := ⟨fun {F S T ρ r S'} s w h => by cases h; exact ⟨T, rfl, s, by simp, Nat.le_refl _⟩⟩
instance {a : XE} {b : XA} [A : LocE a] [B : LocA b] : LocA (xCons a b) := ⟨fun {F S T ρ r S'} s w h => by
  simp only [xCons, Option.bind_eq_some_iff, Option.map_eq_some_iff, Prod.mk.injEq] at h
  obtain ⟨⟨x, S1⟩, h1, ⟨y, S2⟩, h2, rfl, rfl⟩ := h
  obtain ⟨T1, a1, s1, w1, l1⟩ := A.loc s w h1
  obtain ⟨T2, a2, s2, w2, l2⟩ := B.loc s1 (w.mono l1) h2
  refine ⟨T2, by simp [xCons, a1, a2], s2, fun q hq => ?_, by simp only at *; omega⟩
  rcases List.mem_cons.mp hq with e | e
  · subst e; exact w1.mono l2
  · exact w2 q e⟩
instance {a : XA} [A : LocA a] : LocE (xTup a) := ⟨fun {F S T ρ r S'} s w h => by
  simp only [xTup, Option.bind_eq_some_iff] at h
  obtain ⟨⟨x, S1⟩, h1, ds, h2, h⟩ := h
  obtain ⟨T1, a1, s1, w1, l1⟩ := A.loc s w h1
  split at h
  · rename_i hb; cases h
    exact ⟨T1, by simp only [xTup, a1, Option.bind_some, rn_fzs, h2, hb, if_true, R.rn], s1, trivial, l1⟩
  · cases h⟩
instance {a : XA} [A : LocA a] : LocE (xLst a) := ⟨fun {F S T ρ r S'} s w h => by
  simp only [xLst, Option.bind_eq_some_iff] at h
  obtain ⟨⟨x, S1⟩, h1, ds, h2, h⟩ := h
  obtain ⟨T1, a1, s1, w1, l1⟩ := A.loc s w h1
  split at h
  · rename_i hb; cases h
    exact ⟨T1, by simp only [xLst, a1, Option.bind_some, rn_fzs, h2, hb, if_true, R.rn], s1, trivial, l1⟩
  · cases h⟩
instance {f : List P → Option R} {a : XA} [N : NewC f] [A : LocA a] : LocE (xCall f a) := ⟨fun {F S T ρ r S'} s w h => by
  simp only [xCall, Option.bind_eq_some_iff, Option.map_eq_some_iff, Prod.mk.injEq] at h
  obtain ⟨⟨x, S1⟩, h1, ds, h2, r', hf, rfl, rfl⟩ := h
  obtain ⟨T1, a1, s1, w1, l1⟩ := A.loc s w h1
  obtain ⟨e, we⟩ := rn_new (F := F) (k := S1.length) (N.new _ _ hf)
  exact ⟨T1, by simp only [xCall, a1, Option.bind_some, s1.rds h2, hf, Option.map_some, e], s1, we, l1⟩⟩
instance : LocD xNilD := ⟨fun {F S T ρ r S'} s w h => by cases h; exact ⟨T, rfl, s, by simp, Nat.le_refl _⟩⟩
instance {a : XE} {b : XD} [A : LocE a] [B : LocD b] : LocD (xConsB a b) := ⟨fun {F S T ρ r S'} s w h => by
  simp only [xConsB, Option.bind_eq_some_iff, Option.map_eq_some_iff, Prod.mk.injEq] at h
  obtain ⟨⟨x, S1⟩, h1, ⟨y, S2⟩, h2, rfl, rfl⟩ := h
  obtain ⟨T1, a1, s1, w1, l1⟩ := A.loc s w h1
  obtain ⟨e, s1', w1', l1'⟩ := s1.box w1
  obtain ⟨T2, a2, s2, w2, l2⟩ := B.loc s1' (w.mono (Nat.le_trans l1 l1')) h2
  refine ⟨T2, ?_, s2, fun q hq => ?_, by simp only at *; omega⟩
  · have e1 : ((x.rn F).box T1).1 = (x.box S1).1.rn F := by rw [e]
    simp only [xConsB, a1, Option.bind_some, a2, Option.map_some, List.map_cons, e1]
  · rcases List.mem_cons.mp hq with e | e
    · subst e; exact w1'.mono l2
    · exact w2 q e⟩
instance {a : XE} {b : XD} [A : LocE a] [B : LocD b] : LocD (xConsD a b) := ⟨fun {F S T ρ r S'} s w h => by
  simp only [xConsD, Option.bind_eq_some_iff, Option.map_eq_some_iff, Prod.mk.injEq] at h
  obtain ⟨⟨x, S1⟩, h1, ⟨y, S2⟩, h2, rfl, rfl⟩ := h
  obtain ⟨T1, a1, s1, w1, l1⟩ := A.loc s w h1
  obtain ⟨e, s1', w1', l1'⟩ := s1.arg w1
  obtain ⟨T2, a2, s2, w2, l2⟩ := B.loc s1' (w.mono (Nat.le_trans l1 l1')) h2
  refine ⟨T2, ?_, s2, fun q hq => ?_, by simp only at *; omega⟩
  · have e1 : ((x.rn F).arg T1).1 = (x.arg S1).1.rn F := by rw [e]
    simp only [xConsD, a1, Option.bind_some, a2, Option.map_some, List.map_cons, e1]
  · rcases List.mem_cons.mp hq with e | e
    · subst e; exact w1'.mono l2
    · exact w2 q e⟩
instance {f : XF} {a : XD} [N : LocF f] [A : LocD a] : LocE (xDef f a) := ⟨fun {F S T ρ r S'} s w h => by
  simp only [xDef, Option.bind_eq_some_iff] at h
  obtain ⟨⟨x, S1⟩, h1, h⟩ := h
  obtain ⟨T1, a1, s1, w1, l1⟩ := A.loc s w h1
  obtain ⟨T2, a2, s2, w2, l2⟩ := N.loc s1 w1 h
  exact ⟨T2, by simp only [xDef, a1, Option.bind_some, a2], s2, w2, by simp only at *; omega⟩⟩
/-! statements -/
instance {i : Nat} {a : XE} [A : LocE a] : LocS (xSet i a) := ⟨fun {F S T ρ r S'} s w h => by
  simp only [xSet, Option.map_eq_some_iff, Prod.mk.injEq] at h
  obtain ⟨⟨x, S1⟩, h1, rfl, rfl⟩ := h
  obtain ⟨T1, a1, s1, w1, l1⟩ := A.loc s w h1
  obtain ⟨e, s1', w1', l1'⟩ := s1.box w1
  refine ⟨_, ?_, s1', (w.mono (Nat.le_trans l1 l1')).put (fun x hx => by cases hx; exact w1'), by simp only at *; omega⟩
  have e1 : ((x.rn F).box T1).1 = (x.box S1).1.rn F := by rw [e]
  simp only [xSet, a1, Option.map_some, Fl.rn, rn_set, e1]⟩
theorem setAll_rn {F : Fm} {k : Nat} : ∀ {is : List Nat} {ds : List P} {ρ ρ' : Env}, WfE k ρ → setAll is ds ρ = some ρ' → setAll is ds (Env.rn F ρ) = some (Env.rn F ρ') ∧ WfE k ρ'
  | [], [], ρ, ρ', w, h => by cases h; exact ⟨rfl, w⟩
  | [], _ :: _, ρ, ρ', w, h => by cases h
  | _ :: _, [], ρ, ρ', w, h => by cases h
  | i :: is, d :: ds, ρ, ρ', w, h => by
    have := setAll_rn (F := F) (w.put (i := i) (d := some (.p d)) (fun x hx => by cases hx; trivial)) h
    rw [rn_set] at this
    exact this
theorem put_rn {F : Fm} {k : Nat} {t : Tg} {d : P} {ρ ρ' : Env} (w : WfE k ρ) (h : t.put d ρ = some ρ') : t.put d (Env.rn F ρ) = some (Env.rn F ρ') ∧ WfE k ρ' := by
  cases t with
  | nm i => cases h; exact ⟨by simp [Tg.put, rn_set, D.rn], w.put (fun x hx => by cases hx; trivial)⟩
  | tp is =>
    cases d with
    | tup ds => exact setAll_rn w h
    | _ => cases h
instance {is : List Nat} {a : XE} [A : LocE a] : LocS (xUnp is a) := ⟨fun {F S T ρ r S'} s w h => by
  simp only [xUnp, Option.bind_eq_some_iff, Option.map_eq_some_iff, Prod.mk.injEq] at h
  obtain ⟨⟨x, S1⟩, h1, d, hd, ρ', hp, rfl, rfl⟩ := h
  obtain ⟨T1, a1, s1, w1, l1⟩ := A.loc s w h1
  obtain ⟨e, we⟩ := put_rn (F := F) (w.mono l1) hp
  exact ⟨T1, by simp only [xUnp, a1, Option.bind_some, s1.rd hd, e, Option.map_some, Fl.rn], s1, we, l1⟩⟩
instance {is : List Nat} {a : XE} [A : LocE a] : LocS (xUnpL is a) := ⟨fun {F S T ρ r S'} s w h => by
  simp only [xUnpL, Option.bind_eq_some_iff] at h
  obtain ⟨⟨x, S1⟩, h1, d, hd, h⟩ := h
  obtain ⟨T1, a1, s1, w1, l1⟩ := A.loc s w h1
  split at h
  · simp only [Option.map_eq_some_iff, Prod.mk.injEq] at h
    obtain ⟨ρ', hp, rfl, rfl⟩ := h
    obtain ⟨e, we⟩ := setAll_rn (F := F) (w.mono l1) hp
    exact ⟨T1, by simp only [xUnpL, a1, Option.bind_some, s1.rd hd, e, Option.map_some, Fl.rn], s1, we, l1⟩
  · cases h⟩
theorem setAllD_rn {F : Fm} {k : Nat} : ∀ {is : List Nat} {ds : List D} {ρ ρ' : Env}, WfE k ρ → (∀ d ∈ ds, WfD k d) → setAllD is ds ρ = some ρ' → setAllD is (ds.map (D.rn F)) (Env.rn F ρ) = some (Env.rn F ρ') ∧ WfE k ρ'
  | [], [], ρ, ρ', w, _, h => by cases h; exact ⟨rfl, w⟩
  | [], _ :: _, ρ, ρ', w, _, h => by cases h
  | _ :: _, [], ρ, ρ', w, _, h => by cases h
  | i :: is, d :: ds, ρ, ρ', w, hd, h => by
    have := setAllD_rn (F := F) (w.put (i := i) (d := some d) (fun x hx => by cases hx; exact hd _ List.mem_cons_self)) (fun x hx => hd x (List.mem_cons_of_mem _ hx)) h
    rw [rn_set] at this
    exact this
instance {is : List Nat} {a : XD} [A : LocD a] : LocS (xPar is a) := ⟨fun {F S T ρ r S'} s w h => by
  simp only [xPar, Option.bind_eq_some_iff, Option.map_eq_some_iff, Prod.mk.injEq] at h
  obtain ⟨⟨x, S1⟩, h1, ρ', hp, rfl, rfl⟩ := h
  obtain ⟨T1, a1, s1, w1, l1⟩ := A.loc s w h1
  obtain ⟨e, we⟩ := setAllD_rn (F := F) (w.mono l1) w1 hp
  exact ⟨T1, by simp only [xPar, a1, Option.bind_some, e, Option.map_some, Fl.rn], s1, we, l1⟩⟩
instance {a : XE} [A : LocE a] : LocS (xDrop a) := ⟨fun {F S T ρ r S'} s w h => by
  simp only [xDrop, Option.map_eq_some_iff, Prod.mk.injEq] at h
  obtain ⟨⟨x, S1⟩, h1, rfl, rfl⟩ := h
  obtain ⟨T1, a1, s1, w1, l1⟩ := A.loc s w h1
  exact ⟨T1, by simp only [xDrop, a1, Option.map_some, Fl.rn], s1, w.mono l1, l1⟩⟩
instance {a : XE} [A : LocE a] : LocS (xRet a) := ⟨fun {F S T ρ r S'} s w h => by
  simp only [xRet, Option.map_eq_some_iff, Prod.mk.injEq] at h
  obtain ⟨⟨x, S1⟩, h1, rfl, rfl⟩ := h
  obtain ⟨T1, a1, s1, w1, l1⟩ := A.loc s w h1
  exact ⟨T1, by simp only [xRet, a1, Option.map_some, Fl.rn], s1, w1, l1⟩⟩
instance : LocS xRetN := ⟨fun {F S T ρ r S'} s w h => by cases h; exact ⟨T, rfl, s, trivial, Nat.le_refl _⟩⟩
instance : LocS xPass := ⟨fun {F S T ρ r S'} s w h => by cases h; exact ⟨T, rfl, s, w, Nat.le_refl _⟩⟩
instance : LocS xNever := ⟨fun {F S T ρ r S'} s w h => by cases h⟩
instance {a b : XS} [A : LocS a] [B : LocS b] : LocS (xSeq a b) := ⟨fun {F S T ρ r S'} s w h => by
  simp only [xSeq, Option.bind_eq_some_iff] at h
  obtain ⟨⟨x, S1⟩, h1, h⟩ := h
  obtain ⟨T1, a1, s1, w1, l1⟩ := A.loc s w h1
  cases x with
  | nx ρ' =>
    obtain ⟨T2, a2, s2, w2, l2⟩ := B.loc s1 w1 h
    exact ⟨T2, by simp only [xSeq, a1, Option.bind_some, Fl.rn, a2], s2, w2, by simp only at *; omega⟩
  | rt r' => cases h; exact ⟨T1, by simp only [xSeq, a1, Option.bind_some, Fl.rn], s1, w1, l1⟩
  | bk r' => cases h; exact ⟨T1, by simp only [xSeq, a1, Option.bind_some, Fl.rn], s1, w1, l1⟩
  | ct r' => cases h; exact ⟨T1, by simp only [xSeq, a1, Option.bind_some, Fl.rn], s1, w1, l1⟩⟩
instance {t : XT} {a b : XS} [C : LocT t] [A : LocS a] [B : LocS b] : LocS (xIfS t a b) := ⟨fun {F S T ρ r S'} s w h => by
  simp only [xIfS, Option.bind_eq_some_iff] at h
  obtain ⟨⟨x, S1⟩, h1, h⟩ := h
  obtain ⟨T1, a1, s1, l1⟩ := C.loc s w h1
  cases x with
  | true =>
    obtain ⟨T2, a2, s2, w2, l2⟩ := A.loc s1 (w.mono l1) h
    exact ⟨T2, by simp [xIfS, a1, a2], s2, w2, by omega⟩
  | false =>
    obtain ⟨T2, a2, s2, w2, l2⟩ := B.loc s1 (w.mono l1) h
    exact ⟨T2, by simp [xIfS, a1, a2], s2, w2, by omega⟩⟩
end XL
end
section
set_option Elab.async false
set_option linter.all false
set_option autoImplicit false
set_option maxRecDepth 100000
set_option maxHeartbeats 1000000
namespace XL
/-! the drop behind a turn -/
theorem slots_ge {n0 : Nat} : ∀ {ρ : Env} {l : Nat}, l ∈ slotRefs n0 ρ → n0 ≤ l ∧ some (D.ref l) ∈ ρ
  | [], l, h => by simp [slotRefs] at h
  | none :: ρ, l, h => by
    have := slots_ge (ρ := ρ) (l := l) h
    exact ⟨this.1, List.mem_cons_of_mem _ this.2⟩
  | some (.p d) :: ρ, l, h => by
    have := slots_ge (ρ := ρ) (l := l) h
    exact ⟨this.1, List.mem_cons_of_mem _ this.2⟩
  | some (.ref k) :: ρ, l, h => by
    unfold slotRefs at h
    split at h
    · rename_i c
      rcases List.mem_cons.mp h with e | e
      · subst e; exact ⟨c.1, List.mem_cons_self⟩
      · have := slots_ge (ρ := ρ) (l := l) e
        exact ⟨this.1, List.mem_cons_of_mem _ this.2⟩
    · have := slots_ge (ρ := ρ) (l := l) h
      exact ⟨this.1, List.mem_cons_of_mem _ this.2⟩
theorem slots_mem {n0 : Nat} : ∀ {ρ : Env} {l : Nat}, n0 ≤ l → some (D.ref l) ∈ ρ → l ∈ slotRefs n0 ρ
  | [], l, _, h => by cases h
  | none :: ρ, l, h0, h => by
    rcases List.mem_cons.mp h with e | e
    · cases e
    · exact slots_mem (ρ := ρ) h0 e
  | some (.p d) :: ρ, l, h0, h => by
    rcases List.mem_cons.mp h with e | e
    · cases e
    · exact slots_mem (ρ := ρ) h0 e
  | some (.ref k) :: ρ, l, h0, h => by
    unfold slotRefs
    split
    · rcases List.mem_cons.mp h with e | e
      · cases e; exact List.mem_cons_self
      · exact List.mem_cons_of_mem _ (slots_mem (ρ := ρ) h0 e)
    · rename_i c
      rcases List.mem_cons.mp h with e | e
      · cases e
        exact Classical.byContradiction fun q => c ⟨h0, q⟩
      · exact slots_mem (ρ := ρ) h0 e
theorem mem_map_rn {F : Fm} {l : Nat} {ks : List Nat} : F.rn l ∈ ks.map F.rn ↔ l ∈ ks := by
  constructor
  · intro h
    obtain ⟨k, hk, e⟩ := List.mem_map.mp h
    rw [← F.rn_inj e]; exact hk
  · exact fun h => List.mem_map_of_mem h
theorem slots_rn {F : Fm} {n0 : Nat} (hn : F.n ≤ n0) : ∀ (ρ : Env), slotRefs (F.m + (n0 - F.n)) (Env.rn F ρ) = (slotRefs n0 ρ).map F.rn
  | [] => rfl
  | none :: ρ => slots_rn hn ρ
  | some (.p d) :: ρ => slots_rn hn ρ
  | some (.ref k) :: ρ => by
    show slotRefs _ (some (D.ref (F.rn k)) :: Env.rn F ρ) = _
    unfold slotRefs
    rw [slots_rn hn ρ]
    by_cases c : n0 ≤ k ∧ k ∉ slotRefs n0 ρ
    · rw [if_pos c, if_pos ⟨(rn_le hn).mp c.1, fun q => c.2 (mem_map_rn.mp q)⟩]; rfl
    · rw [if_neg c, if_neg (fun q => c ⟨(rn_le hn).mpr q.1, fun z => q.2 (mem_map_rn.mpr z)⟩)]
theorem idx_rn {F : Fm} {l : Nat} : ∀ (ks : List Nat), (ks.map F.rn).idxOf (F.rn l) = ks.idxOf l
  | [] => rfl
  | k :: ks => by
    rw [List.map_cons, List.idxOf_cons, List.idxOf_cons, idx_rn ks]
    by_cases c : k = l
    · subst c; simp
    · have : (F.rn k == F.rn l) = false := by simpa using fun q => c (F.rn_inj q)
      have h2 : (k == l) = false := by simpa using c
      rw [this, h2]
theorem gc_rn {F : Fm} {n0 : Nat} (hn : F.n ≤ n0) {ρ : Env} {S T : Sto} (s : SimS F S T) (w : WfE S.length ρ) (hS : n0 ≤ S.length) :
    gc (F.m + (n0 - F.n)) (Env.rn F ρ) T = (Env.rn F (gc n0 ρ S).1, (gc (F.m + (n0 - F.n)) (Env.rn F ρ) T).2) ∧ SimS F (gc n0 ρ S).2 (gc (F.m + (n0 - F.n)) (Env.rn F ρ) T).2 ∧ WfE (gc n0 ρ S).2.length (gc n0 ρ S).1 ∧ n0 ≤ (gc n0 ρ S).2.length := by
  have hl := s.len
  have hle := s.le
  by_cases c : S.length ≤ n0
  · have c' : T.length ≤ F.m + (n0 - F.n) := by omega
    unfold gc
    rw [if_pos c, if_pos c']
    exact ⟨rfl, s, w, hS⟩
  · have c' : ¬ T.length ≤ F.m + (n0 - F.n) := by omega
    unfold gc
    rw [if_neg c, if_neg c']
    simp only [slots_rn hn]
    have hk : keptCells T ((slotRefs n0 ρ).map F.rn) = keptCells S (slotRefs n0 ρ) := by
      unfold keptCells
      rw [List.map_map]
      refine List.map_congr_left fun k hk => ?_
      have := w _ (slots_ge hk).2
      show T.getD (F.rn k) _ = S.getD k _
      rw [List.getD_eq_getElem?_getD, List.getD_eq_getElem?_getD, s.cell k this]
    rw [hk]
    refine ⟨?_, (s.cut hn hS).app _, fun d hd => ?_, ?_⟩
    · refine Prod.ext ?_ rfl
      show (Env.rn F ρ).map _ = Env.rn F (ρ.map _)
      unfold Env.rn
      rw [List.map_map, List.map_map]
      refine List.map_congr_left fun d hd => ?_
      cases d with
      | none => rfl
      | some d =>
        cases d with
        | p d => rfl
        | ref l =>
          show some (D.ref (renRef _ _ (F.rn l))) = some (D.ref (F.rn (renRef n0 _ l)))
          congr 2
          unfold renRef
          have := rn_le (F := F) (l := l) hn
          by_cases q : l < n0
          · rw [if_pos q, if_pos (by omega)]
          · rw [if_neg q, if_neg (by omega), idx_rn, F.rn_ge (by omega)]; omega
    · obtain ⟨x, hx, e⟩ := List.mem_map.mp hd
      have hlen : (S.take n0 ++ keptCells S (slotRefs n0 ρ)).length = n0 + (slotRefs n0 ρ).length := by
        rw [List.length_append, List.length_take, keptCells, List.length_map]; omega
      cases x with
      | none => cases e
      | some x =>
        cases x with
        | p y => cases e; trivial
        | ref l =>
          cases e
          show renRef n0 _ l < _
          rw [hlen]
          unfold renRef
          split
          · omega
          · have := List.idxOf_lt_length_of_mem (slots_mem (n0 := n0) (ρ := ρ) (l := l) (by omega) hx)
            omega
    · rw [List.length_append, List.length_take]; omega
theorem cellOk_rn {F : Fm} {S T S0 T0 : Sto} {l : Option Nat} (s : SimS F S T) (s0 : SimS F S0 T0) (h : ∀ k, l = some k → k < S0.length) (hl : S0.length ≤ S.length) : cellOk (l.map F.rn) T0 T = cellOk l S0 S := by
  cases l with
  | none => rfl
  | some k =>
    have hk := h k rfl
    show decide (T[F.rn k]? = T0[F.rn k]?) = decide (S[k]? = S0[k]?)
    rw [s.cell k (by omega), s0.cell k hk]
theorem forGo_rn {F : Fm} {n0 : Nat} {l : Option Nat} {S0 T0 : Sto} {t : Tg} {b : XS} [B : LocS b] (s0 : SimS F S0 T0) (hn0 : n0 = S0.length) (hl : ∀ k, l = some k → k < S0.length) : ∀ {ds : List P} {ρ : Env} {S T : Sto} {r : Fl} {S' : Sto}, SimS F S T → WfE S.length ρ → n0 ≤ S.length → forGo n0 l S0 t b ds ρ S = some (r, S') →
    ∃ T', forGo (F.m + (n0 - F.n)) (l.map F.rn) T0 t b ds (Env.rn F ρ) T = some (r.rn F, T') ∧ SimS F S' T' ∧ WfF S'.length r ∧ n0 ≤ S'.length
  | [], ρ, S, T, r, S', s, w, hS, h => by cases h; exact ⟨T, rfl, s, w, hS⟩
  | d :: ds, ρ, S, T, r, S', s, w, hS, h => by
    have hn : F.n ≤ n0 := by rw [hn0]; exact s0.le
    simp only [forGo, Option.bind_eq_some_iff] at h
    obtain ⟨ρ1, h1, ⟨x, S1⟩, h2, h⟩ := h
    obtain ⟨e1, w1⟩ := put_rn (F := F) w h1
    obtain ⟨T1, a1, s1, w2, l1⟩ := B.loc s w1 h2
    have hS1 : n0 ≤ S1.length := Nat.le_trans hS l1
    cases x with
    | nx ρ2 =>
      obtain ⟨g1, g2, g3, g4⟩ := gc_rn hn s1 w2 hS1
      simp only at h
      split at h
      · rename_i c
        obtain ⟨T2, a2, s2, w3, l2⟩ := forGo_rn s0 hn0 hl (ds := ds) g2 g3 g4 h
        refine ⟨T2, ?_, s2, w3, l2⟩
        have ce := cellOk_rn g2 s0 hl (by rw [← hn0]; exact g4)
        simp only [forGo, e1, Option.bind_some]
        rw [a1]
        show (if cellOk _ _ (gc _ (Env.rn F ρ2) T1).2 = true then forGo _ _ _ _ _ _ (gc _ (Env.rn F ρ2) T1).1 (gc _ (Env.rn F ρ2) T1).2 else none) = _
        rw [ce, if_pos c, g1]
        exact a2
      · cases h
    | ct ρ2 =>
      obtain ⟨g1, g2, g3, g4⟩ := gc_rn hn s1 w2 hS1
      simp only at h
      split at h
      · rename_i c
        obtain ⟨T2, a2, s2, w3, l2⟩ := forGo_rn s0 hn0 hl (ds := ds) g2 g3 g4 h
        refine ⟨T2, ?_, s2, w3, l2⟩
        have ce := cellOk_rn g2 s0 hl (by rw [← hn0]; exact g4)
        simp only [forGo, e1, Option.bind_some]
        rw [a1]
        show (if cellOk _ _ (gc _ (Env.rn F ρ2) T1).2 = true then forGo _ _ _ _ _ _ (gc _ (Env.rn F ρ2) T1).1 (gc _ (Env.rn F ρ2) T1).2 else none) = _
        rw [ce, if_pos c, g1]
        exact a2
      · cases h
    | bk ρ2 => cases h; exact ⟨T1, by simp only [forGo, e1, Option.bind_some, a1, Fl.rn], s1, w2, hS1⟩
    | rt r => cases h; exact ⟨T1, by simp only [forGo, e1, Option.bind_some, a1, Fl.rn], s1, w2, hS1⟩
instance {it : XI} {t : Tg} {b : XS} [I : LocI it] [B : LocS b] : LocS (xFor it t b) := ⟨fun {F S T ρ r S'} s w h => by
  simp only [xFor, Option.bind_eq_some_iff] at h
  obtain ⟨⟨ds, l, S1⟩, h1, h⟩ := h
  obtain ⟨T1, a1, s1, w1, l1⟩ := I.loc s w h1
  simp only at h
  obtain ⟨T2, a2, s2, w2, l2⟩ := forGo_rn (B := B) s1 rfl w1 s1 (w.mono l1) (Nat.le_refl _) h
  refine ⟨T2, ?_, s2, w2, Nat.le_trans l1 l2⟩
  simp only [xFor, a1, Option.bind_some]
  rw [s1.len]; exact a2⟩
theorem whGo_rn {F : Fm} {n0 : Nat} {t : XT} {b : XS} [C : LocT t] [B : LocS b] (hn : F.n ≤ n0) : ∀ {k : Nat} {ρ : Env} {S T : Sto} {r : Fl} {S' : Sto}, SimS F S T → WfE S.length ρ → n0 ≤ S.length → whGo n0 t b k ρ S = some (r, S') →
    ∃ T', whGo (F.m + (n0 - F.n)) t b k (Env.rn F ρ) T = some (r.rn F, T') ∧ SimS F S' T' ∧ WfF S'.length r ∧ n0 ≤ S'.length
  | 0, ρ, S, T, r, S', s, w, hS, h => by cases h
  | k + 1, ρ, S, T, r, S', s, w, hS, h => by
    simp only [whGo, Option.bind_eq_some_iff] at h
    obtain ⟨⟨c, S0⟩, h0, h⟩ := h
    obtain ⟨T0, a0, s0, l0⟩ := C.loc s w h0
    cases c with
    | false => cases h; exact ⟨T0, by simp [whGo, a0, Fl.rn], s0, w.mono l0, Nat.le_trans hS l0⟩
    | true =>
      simp only [if_true, Option.bind_eq_some_iff] at h
      obtain ⟨⟨x, S1⟩, h2, h⟩ := h
      obtain ⟨T1, a1, s1, w2, l1⟩ := B.loc s0 (w.mono l0) h2
      have hS1 : n0 ≤ S1.length := Nat.le_trans hS (Nat.le_trans l0 l1)
      cases x with
      | nx ρ2 =>
        obtain ⟨g1, g2, g3, g4⟩ := gc_rn hn s1 w2 hS1
        obtain ⟨T2, a2, s2, w3, l2⟩ := whGo_rn hn (k := k) g2 g3 g4 h
        refine ⟨T2, ?_, s2, w3, l2⟩
        simp only [whGo, a0, Option.bind_some, a1, Fl.rn, if_true]
        rw [g1]
        exact a2
      | ct ρ2 =>
        obtain ⟨g1, g2, g3, g4⟩ := gc_rn hn s1 w2 hS1
        obtain ⟨T2, a2, s2, w3, l2⟩ := whGo_rn hn (k := k) g2 g3 g4 h
        refine ⟨T2, ?_, s2, w3, l2⟩
        simp only [whGo, a0, Option.bind_some, a1, Fl.rn, if_true]
        rw [g1]
        exact a2
      | bk ρ2 => cases h; exact ⟨T1, by simp only [whGo, a0, Option.bind_some, a1, Fl.rn, if_true], s1, w2, hS1⟩
      | rt r => cases h; exact ⟨T1, by simp only [whGo, a0, Option.bind_some, a1, Fl.rn, if_true], s1, w2, hS1⟩
instance {n : Nat} {t : XT} {b : XS} [C : LocT t] [B : LocS b] : LocS (xWhile n t b) := ⟨fun {F S T ρ r S'} s w h => by
  obtain ⟨T2, a2, s2, w2, l2⟩ := whGo_rn (C := C) (B := B) s.le s w (Nat.le_refl _) h
  refine ⟨T2, ?_, s2, w2, l2⟩
  unfold xWhile
  rw [s.len]; exact a2⟩
/-! what is walked -/
instance {a : XE} [A : LocE a] : LocI (xIt a) := ⟨fun {F S T ρ r l S'} s w h => by
  simp only [xIt, Option.bind_eq_some_iff] at h
  obtain ⟨⟨x, S1⟩, h1, h⟩ := h
  obtain ⟨T1, a1, s1, w1, l1⟩ := A.loc s w h1
  simp only at h
  split at h
  · cases h; exact ⟨T1, by simp [xIt, a1, R.rn], s1, (fun _ z => nomatch z), l1⟩
  · cases h; exact ⟨T1, by simp [xIt, a1, R.rn], s1, (fun _ z => nomatch z), l1⟩
  · cases h; exact ⟨T1, by simp [xIt, a1, R.rn], s1, (fun _ z => nomatch z), l1⟩
  · rename_i k
    split at h
    · rename_i ds e
      cases h
      have hk := (List.getElem?_eq_some_iff.mp e).1
      exact ⟨T1, by simp [xIt, a1, R.rn, s1.cell k hk, e], s1, fun _ z => by cases z; exact hk, l1⟩
    · cases h
  · cases h⟩
instance {a : XE} [A : LocE a] : LocI (xItS a) := ⟨fun {F S T ρ r l S'} s w h => by
  simp only [xItS, Option.bind_eq_some_iff] at h
  obtain ⟨⟨x, S1⟩, h1, h⟩ := h
  obtain ⟨T1, a1, s1, w1, l1⟩ := A.loc s w h1
  simp only at h
  split at h
  · cases h; exact ⟨T1, by simp [xItS, a1, R.rn], s1, (fun _ z => nomatch z), l1⟩
  · cases h⟩
instance {a : XE} [A : LocE a] : LocI (xItA a) := ⟨fun {F S T ρ r l S'} s w h => by
  unfold xItA at h
  split at h
  · rename_i st S1 e
    obtain ⟨T1, a1, s1, w1, l1⟩ := LocI.loc (x := xItS a) s w h
    obtain ⟨T2, a2, _⟩ := A.loc s w e
    exact ⟨T1, by simp only [xItA, a2, R.rn, a1], s1, w1, l1⟩
  · rename_i ne
    have h0 := h
    simp only [xIt, Option.bind_eq_some_iff] at h0
    obtain ⟨⟨x, S1⟩, h1, _⟩ := h0
    obtain ⟨T1, a1, s1, w1, l1⟩ := LocI.loc (x := xIt a) s w h
    obtain ⟨T2, a2, _⟩ := A.loc s w h1
    refine ⟨T1, ?_, s1, w1, l1⟩
    unfold xItA
    split
    · rename_i st S2 e
      rw [a2] at e
      cases x with
      | p d => cases e; exact absurd h1 (ne _ _)
      | ref _ => cases e
      | frl _ => cases e
      | frd _ _ => cases e
    · exact a1⟩
instance {a : XE} [A : LocE a] : LocI (xRng1 a) := ⟨fun {F S T ρ r l S'} s w h => by
  simp only [xRng1, Option.bind_eq_some_iff] at h
  obtain ⟨⟨x, S1⟩, h1, h⟩ := h
  obtain ⟨T1, a1, s1, w1, l1⟩ := A.loc s w h1
  simp only at h
  split at h
  · split at h
    · rename_i c; cases h; exact ⟨T1, by simp [xRng1, a1, R.rn, c], s1, (fun _ z => nomatch z), l1⟩
    · cases h
  · cases h⟩
instance {a b : XE} [A : LocE a] [B : LocE b] : LocI (xRng2 a b) := ⟨fun {F S T ρ r l S'} s w h => by
  simp only [xRng2, Option.bind_eq_some_iff] at h
  obtain ⟨⟨x, S1⟩, h1, ⟨y, S2⟩, h2, h⟩ := h
  obtain ⟨T1, a1, s1, w1, l1⟩ := A.loc s w h1
  obtain ⟨T2, a2, s2, w2, l2⟩ := B.loc s1 (w.mono l1) h2
  simp only at h
  split at h
  · split at h
    · rename_i c; cases h
      exact ⟨T2, by simp only [xRng2, a1, a2, Option.bind_some, R.rn]; rw [if_pos c]; rfl, s2, (fun _ z => nomatch z), by (try simp only at *); omega⟩
    · cases h
  · cases h⟩
instance {i : Nat} : LocI (xItL i) := ⟨fun {F S T ρ r l S'} s w h => by
  unfold xItL at h
  split at h
  · rename_i k e
    split at h
    · rename_i t kvs c
      cases h
      have hk := (List.getElem?_eq_some_iff.mp c).1
      exact ⟨T, by simp [xItL, rn_get, e, D.rn, s.cell k hk, c], s, fun _ z => by cases z; exact hk, Nat.le_refl _⟩
    · cases h
  · cases h⟩
/-! comprehensions -/
theorem wipe_rn {F : Fm} {ρ : Env} : ∀ {vs : List Nat}, wipeE (Env.rn F ρ) vs = Env.rn F (wipeE ρ vs)
  | [] => rfl
  | v :: vs => by show (wipeE _ vs).set v none = Env.rn F ((wipeE ρ vs).set v none); rw [wipe_rn (vs := vs), rn_set]; rfl
theorem WfE.wipe {k : Nat} {ρ : Env} (w : WfE k ρ) : ∀ {vs : List Nat}, WfE k (wipeE ρ vs)
  | [] => w
  | v :: vs => (w.wipe (vs := vs)).put (fun x hx => by cases hx)
theorem lcGo_rn {F : Fm} {l : Option Nat} {S0 T0 : Sto} {t : Tg} {c : XT} {e : XE} [C : LocT c] [E : LocE e] (s0 : SimS F S0 T0) (hl : ∀ k, l = some k → k < S0.length) : ∀ {ds acc : List P} {ρ : Env} {S T : Sto} {r : List P} {S' : Sto}, SimS F S T → WfE S.length ρ → S0.length ≤ S.length → lcGo l S0 t c e ρ ds acc S = some (r, S') →
    ∃ T', lcGo (l.map F.rn) T0 t c e (Env.rn F ρ) ds acc T = some (r, T') ∧ SimS F S' T' ∧ S.length ≤ S'.length
  | [], acc, ρ, S, T, r, S', s, w, hS, h => by cases h; exact ⟨T, rfl, s, Nat.le_refl _⟩
  | d :: ds, acc, ρ, S, T, r, S', s, w, hS, h => by
    simp only [lcGo, Option.bind_eq_some_iff] at h
    obtain ⟨ρ1, h1, ⟨x, S1⟩, h2, h⟩ := h
    obtain ⟨e1, w1⟩ := put_rn (F := F) w h1
    obtain ⟨T1, a1, s1, l1⟩ := C.loc s w1 h2
    cases x with
    | true =>
      simp only [if_true, Option.bind_eq_some_iff] at h
      obtain ⟨⟨y, S2⟩, h3, v, hv, h⟩ := h
      obtain ⟨T2, a2, s2, w2, l2⟩ := E.loc s1 (w1.mono l1) h3
      split at h
      · rename_i q
        have ce := cellOk_rn s2 s0 hl (by (try simp only at *); omega)
        obtain ⟨T3, a3, s3, l3⟩ := lcGo_rn s0 hl (ds := ds) s2 (w.mono (Nat.le_trans l1 l2)) (by (try simp only at *); omega) h
        refine ⟨T3, ?_, s3, by (try simp only at *); omega⟩
        have hv' : (y.rn F).fz = some v := by rw [rn_fz]; exact hv
        simp only [lcGo, e1, Option.bind_some, a1, if_true, a2, hv', ce]
        rw [if_pos q]; exact a3
      · cases h
    | false =>
      simp only [Bool.false_eq_true, if_false] at h
      split at h
      · rename_i q
        have ce := cellOk_rn s1 s0 hl (by omega)
        obtain ⟨T3, a3, s3, l3⟩ := lcGo_rn s0 hl (ds := ds) s1 (w.mono l1) (by omega) h
        refine ⟨T3, ?_, s3, by omega⟩
        simp only [lcGo, e1, Option.bind_some, a1, Bool.false_eq_true, if_false, ce]
        rw [if_pos q]; exact a3
      · cases h
instance {it : XI} {t : Tg} {c : XT} {e : XE} {vs : List Nat} [I : LocI it] [C : LocT c] [E : LocE e] : LocE (xLc it t c e vs) := ⟨fun {F S T ρ r S'} s w h => by
  simp only [xLc, Option.bind_eq_some_iff, Option.map_eq_some_iff, Prod.mk.injEq] at h
  obtain ⟨⟨ds, l, S1⟩, h1, ⟨y, S2⟩, h2, rfl, rfl⟩ := h
  obtain ⟨T1, a1, s1, w1, l1⟩ := I.loc s w h1
  obtain ⟨T2, a2, s2, l2⟩ := lcGo_rn (C := C) (E := E) s1 w1 s1 ((w.wipe (vs := vs)).mono l1) (Nat.le_refl _) h2
  refine ⟨T2, ?_, s2, trivial, Nat.le_trans l1 l2⟩
  rw [← wipe_rn] at a2
  simp only [xLc, a1, Option.bind_some, a2, Option.map_some, R.rn]⟩
theorem lc2Go_rn {F : Fm} {l : Option Nat} {S0 T0 : Sto} {t t1 : Tg} {c c1 : XT} {it1 : XI} {e : XE} {vs1 : List Nat} [C : LocT c] [I1 : LocI it1] [C1 : LocT c1] [E : LocE e] (s0 : SimS F S0 T0) (hl : ∀ k, l = some k → k < S0.length) : ∀ {ds acc : List P} {ρ : Env} {S T : Sto} {r : List P} {S' : Sto}, SimS F S T → WfE S.length ρ → S0.length ≤ S.length → lc2Go l S0 t c it1 t1 c1 e ρ vs1 ds acc S = some (r, S') →
    ∃ T', lc2Go (l.map F.rn) T0 t c it1 t1 c1 e (Env.rn F ρ) vs1 ds acc T = some (r, T') ∧ SimS F S' T' ∧ S.length ≤ S'.length
  | [], acc, ρ, S, T, r, S', s, w, hS, h => by cases h; exact ⟨T, rfl, s, Nat.le_refl _⟩
  | d :: ds, acc, ρ, S, T, r, S', s, w, hS, h => by
    simp only [lc2Go, Option.bind_eq_some_iff] at h
    obtain ⟨ρ1, h1, ⟨x, S1⟩, h2, h⟩ := h
    obtain ⟨e1, w1⟩ := put_rn (F := F) w h1
    obtain ⟨T1, a1, s1, l1⟩ := C.loc s w1 h2
    cases x with
    | true =>
      simp only [if_true, Option.bind_eq_some_iff] at h
      obtain ⟨⟨zs, zl, S2⟩, h3, ⟨y, S3⟩, h4, h⟩ := h
      obtain ⟨T2, a2, s2, w2, l2⟩ := I1.loc s1 (w1.mono l1) h3
      obtain ⟨T3, a3, s3, l3⟩ := lcGo_rn (C := C1) (E := E) s2 w2 s2 ((w1.wipe (vs := vs1)).mono (Nat.le_trans l1 l2)) (Nat.le_refl _) h4
      split at h
      · rename_i q
        have ce := cellOk_rn s3 s0 hl (by (try simp only at *); omega)
        obtain ⟨T4, a4, s4, l4⟩ := lc2Go_rn s0 hl (ds := ds) s3 (w.mono (by (try simp only at *); omega)) (by (try simp only at *); omega) h
        refine ⟨T4, ?_, s4, by (try simp only at *); omega⟩
        rw [← wipe_rn] at a3
        simp only [lc2Go, e1, Option.bind_some, a1, if_true, a2, a3, ce]
        rw [if_pos q]; exact a4
      · cases h
    | false =>
      simp only [Bool.false_eq_true, if_false] at h
      split at h
      · rename_i q
        have ce := cellOk_rn s1 s0 hl (by omega)
        obtain ⟨T3, a3, s3, l3⟩ := lc2Go_rn s0 hl (ds := ds) s1 (w.mono l1) (by omega) h
        refine ⟨T3, ?_, s3, by omega⟩
        simp only [lc2Go, e1, Option.bind_some, a1, Bool.false_eq_true, if_false, ce]
        rw [if_pos q]; exact a3
      · cases h
instance {it it1 : XI} {t t1 : Tg} {c c1 : XT} {e : XE} {vs vs1 : List Nat} [I : LocI it] [C : LocT c] [I1 : LocI it1] [C1 : LocT c1] [E : LocE e] : LocE (xLc2 it t c it1 t1 c1 e vs vs1) := ⟨fun {F S T ρ r S'} s w h => by
  simp only [xLc2, Option.bind_eq_some_iff, Option.map_eq_some_iff, Prod.mk.injEq] at h
  obtain ⟨⟨ds, l, S1⟩, h1, ⟨y, S2⟩, h2, rfl, rfl⟩ := h
  obtain ⟨T1, a1, s1, w1, l1⟩ := I.loc s w h1
  obtain ⟨T2, a2, s2, l2⟩ := lc2Go_rn (C := C) (C1 := C1) (I1 := I1) (E := E) s1 w1 s1 ((w.wipe (vs := vs)).mono l1) (Nat.le_refl _) h2
  refine ⟨T2, ?_, s2, trivial, Nat.le_trans l1 l2⟩
  rw [← wipe_rn] at a2
  simp only [xLc2, a1, Option.bind_some, a2, Option.map_some, R.rn]⟩
/-! methods, stores -/
instance {ty : Ty} {f : P → List P → Option R} {o : XE} {a : XA} [N : NewM f] [O : LocE o] [A : LocA a] : LocE (xMeth ty f o a) := ⟨fun {F S T ρ r S'} s w h => by
  simp only [xMeth, Option.bind_eq_some_iff] at h
  obtain ⟨⟨x, S1⟩, h1, p0, h2, h⟩ := h
  obtain ⟨T1, a1, s1, w1, l1⟩ := O.loc s w h1
  split at h
  · rename_i c
    simp only [Option.bind_eq_some_iff, Option.map_eq_some_iff, Prod.mk.injEq] at h
    obtain ⟨⟨y, S2⟩, h3, p, hp, ps, hps, r', hf, rfl, rfl⟩ := h
    obtain ⟨T2, a2, s2, w2, l2⟩ := A.loc s1 (w.mono l1) h3
    obtain ⟨e, we⟩ := rn_new (F := F) (k := S2.length) (N.new _ _ _ hf)
    refine ⟨T2, ?_, s2, we, by (try simp only at *); omega⟩
    have q1 := s1.rd h2
    have q2 := s2.rd hp
    have q3 := s2.rds hps
    simp only [xMeth, a1, Option.bind_some, q1, c, if_true, a2, q2, q3, hf, Option.map_some, e]
  · cases h⟩
instance {o a : XE} [O : LocE o] [A : LocE a] : LocE (xApp o a) := ⟨fun {F S T ρ r S'} s w h => by
  simp only [xApp, Option.bind_eq_some_iff] at h
  obtain ⟨⟨x, S1⟩, h1, h⟩ := h
  obtain ⟨T1, a1, s1, w1, l1⟩ := O.loc s w h1
  cases x with
  | ref l =>
    simp only at h
    split at h
    · rename_i ds0 e0
      have hl : l < S1.length := w1
      simp only [Option.bind_eq_some_iff] at h
      obtain ⟨⟨y, S2⟩, h2, h⟩ := h
      obtain ⟨T2, a2, s2, w2, l2⟩ := A.loc s1 (w.mono l1) h2
      simp only at h
      split at h
      · rename_i ds e
        have hl2 : l < S2.length := Nat.lt_of_lt_of_le hl l2
        simp only [Option.bind_eq_some_iff] at h
        obtain ⟨d, hd, h⟩ := h
        split at h
        · rename_i c
          cases h
          refine ⟨_, ?_, s2.put hl2 _, trivial, by rw [List.length_set]; (try simp only at *); omega⟩
          have hd' : (y.rn F).fz = some d := by rw [rn_fz]; exact hd
          have q1 : T1[F.rn l]? = some (.lst ds0) := by rw [s1.cell l hl]; exact e0
          have q2 : T2[F.rn l]? = some (.lst ds) := by rw [s2.cell l hl2]; exact e
          have a1' : o (Env.rn F ρ) T = some (.ref (F.rn l), T1) := a1
          simp only [xApp, a1', Option.bind_some, q1, a2, q2, hd']
          rw [if_pos c]; rfl
        · cases h
      · cases h
    · cases h
  | p _ => cases h
  | frl _ => cases h
  | frd _ _ => cases h⟩
instance {o a : XE} [O : LocE o] [A : LocE a] : LocE (xExt o a) := ⟨fun {F S T ρ r S'} s w h => by
  simp only [xExt, Option.bind_eq_some_iff] at h
  obtain ⟨⟨x, S1⟩, h1, h⟩ := h
  obtain ⟨T1, a1, s1, w1, l1⟩ := O.loc s w h1
  cases x with
  | ref l =>
    simp only at h
    split at h
    · rename_i ds0 e0
      have hl : l < S1.length := w1
      simp only [Option.bind_eq_some_iff] at h
      obtain ⟨⟨y, S2⟩, h2, h⟩ := h
      obtain ⟨T2, a2, s2, w2, l2⟩ := A.loc s1 (w.mono l1) h2
      simp only at h
      split at h
      · rename_i ds e
        have hl2 : l < S2.length := Nat.lt_of_lt_of_le hl l2
        cases y with
        | frl es =>
          simp only at h
          split at h
          · rename_i c
            cases h
            refine ⟨_, ?_, s2.put hl2 _, trivial, by rw [List.length_set]; (try simp only at *); omega⟩
            have q1 : T1[F.rn l]? = some (.lst ds0) := by rw [s1.cell l hl]; exact e0
            have q2 : T2[F.rn l]? = some (.lst ds) := by rw [s2.cell l hl2]; exact e
            have a1' : o (Env.rn F ρ) T = some (.ref (F.rn l), T1) := a1
            have a2' : a (Env.rn F ρ) T1 = some (.frl es, T2) := a2
            simp only [xExt, a1', Option.bind_some, q1, a2', q2]
            rw [if_pos c]; rfl
          · cases h
        | p _ => cases h
        | ref _ => cases h
        | frd _ _ => cases h
      · cases h
    · cases h
  | p _ => cases h
  | frl _ => cases h
  | frd _ _ => cases h⟩
instance {o : XE} [O : LocE o] : LocE (xPop o) := ⟨fun {F S T ρ r S'} s w h => by
  simp only [xPop, Option.bind_eq_some_iff] at h
  obtain ⟨⟨x, S1⟩, h1, h⟩ := h
  obtain ⟨T1, a1, s1, w1, l1⟩ := O.loc s w h1
  cases x with
  | ref l =>
    simp only at h
    split at h
    · rename_i ds e
      have hl : l < S1.length := w1
      split at h
      · rename_i d hd
        cases h
        refine ⟨_, ?_, s1.put hl _, trivial, by rw [List.length_set]; exact l1⟩
        have q1 : T1[F.rn l]? = some (.lst ds) := by rw [s1.cell l hl]; exact e
        have a1' : o (Env.rn F ρ) T = some (.ref (F.rn l), T1) := a1
        simp only [xPop, a1', Option.bind_some, q1, hd]; rfl
      · cases h
    · cases h
  | p _ => cases h
  | frl _ => cases h
  | frd _ _ => cases h⟩
instance {e o i : XE} [E : LocE e] [O : LocE o] [I : LocE i] : LocS (xPutL e o i) := ⟨fun {F S T ρ r S'} s w h => by
  simp only [xPutL, Option.bind_eq_some_iff] at h
  obtain ⟨⟨v, S1⟩, h1, ⟨x, S2⟩, h2, ⟨y, S3⟩, h3, h⟩ := h
  obtain ⟨T1, a1, s1, w1, l1⟩ := E.loc s w h1
  obtain ⟨T2, a2, s2, w2, l2⟩ := O.loc s1 (w.mono l1) h2
  obtain ⟨T3, a3, s3, w3, l3⟩ := I.loc s2 (w.mono (Nat.le_trans l1 l2)) h3
  simp only at h
  split at h
  · rename_i l j
    split at h
    · rename_i ds c
      simp only [Option.bind_eq_some_iff, Option.map_eq_some_iff, Prod.mk.injEq] at h
      obtain ⟨d, hd, k, hk, rfl, rfl⟩ := h
      have hl : l < S3.length := Nat.lt_of_lt_of_le w2 l3
      refine ⟨_, ?_, s3.put hl _, ?_, by rw [List.length_set]; (try simp only at *); omega⟩
      · have hd' : (v.rn F).fz = some d := by rw [rn_fz]; exact hd
        have q1 : T3[F.rn l]? = some (.lst ds) := by rw [s3.cell l hl]; exact c
        have a2' : o (Env.rn F ρ) T1 = some (.ref (F.rn l), T2) := a2
        have a3' : i (Env.rn F ρ) T2 = some (.p (.int j), T3) := a3
        simp only [xPutL, a1, a2', a3', Option.bind_some, q1, hd', hk, Option.map_some]; rfl
      · show WfE _ ρ
        rw [List.length_set]; exact w.mono (by (try simp only at *); omega)
    · cases h
  · cases h⟩
/-! dicts -/
theorem SimS.dict {F : Fm} {S T : Sto} (s : SimS F S T) {r : R} {d : Bool × List (P × P)} (h : r.dict S = some d) : (r.rn F).dict T = some d := by
  cases r with
  | ref l =>
    simp only [R.dict] at h
    split at h
    · rename_i e
      have hl := (List.getElem?_eq_some_iff.mp e).1
      simp only [R.rn, R.dict, s.cell l hl, e]; exact h
    · cases h
  | p _ => cases h
  | frl _ => cases h
  | frd _ _ => cases h
instance {t : Bool} : LocE (xNewD t) := ⟨fun {F S T ρ r S'} s w h => by cases h; exact ⟨T, rfl, s, trivial, Nat.le_refl _⟩⟩
instance {o i : XE} [O : LocE o] [I : LocE i] : LocE (xGetD o i) := ⟨fun {F S T ρ r S'} s w h => by
  simp only [xGetD, Option.bind_eq_some_iff] at h
  obtain ⟨⟨x, S1⟩, h1, ⟨y, S2⟩, h2, d, hd, k, hk, h⟩ := h
  obtain ⟨T1, a1, s1, w1, l1⟩ := O.loc s w h1
  obtain ⟨T2, a2, s2, w2, l2⟩ := I.loc s1 (w.mono l1) h2
  split at h
  · rename_i c
    simp only [Option.map_eq_some_iff, Prod.mk.injEq] at h
    obtain ⟨v, hv, rfl, rfl⟩ := h
    have q1 := s2.dict hd
    have q2 := s2.rd hk
    refine ⟨T2, ?_, s2, trivial, by (try simp only at *); omega⟩
    simp only [xGetD, a1, Option.bind_some, a2, q1, q2, c, if_true, hv, Option.map_some]; rfl
  · cases h⟩
instance {n : Bool} {o i : XE} [O : LocE o] [I : LocE i] : LocE (xInD n i o) := ⟨fun {F S T ρ r S'} s w h => by
  simp only [xInD, Option.bind_eq_some_iff] at h
  obtain ⟨⟨x, S1⟩, h1, ⟨y, S2⟩, h2, d, hd, k, hk, h⟩ := h
  obtain ⟨T1, a1, s1, w1, l1⟩ := I.loc s w h1
  obtain ⟨T2, a2, s2, w2, l2⟩ := O.loc s1 (w.mono l1) h2
  split at h
  · rename_i c
    cases h
    have q1 := s2.dict hd
    have q2 := s2.rd hk
    refine ⟨T2, ?_, s2, trivial, by (try simp only at *); omega⟩
    simp only [xInD, a1, Option.bind_some, a2, q1, q2, c, if_true]; rfl
  · cases h⟩
instance {e o i : XE} [E : LocE e] [O : LocE o] [I : LocE i] : LocS (xPutD e o i) := ⟨fun {F S T ρ r S'} s w h => by
  simp only [xPutD, Option.bind_eq_some_iff] at h
  obtain ⟨⟨v, S1⟩, h1, ⟨x, S2⟩, h2, ⟨y, S3⟩, h3, h⟩ := h
  obtain ⟨T1, a1, s1, w1, l1⟩ := E.loc s w h1
  obtain ⟨T2, a2, s2, w2, l2⟩ := O.loc s1 (w.mono l1) h2
  obtain ⟨T3, a3, s3, w3, l3⟩ := I.loc s2 (w.mono (Nat.le_trans l1 l2)) h3
  cases x with
  | ref l =>
    simp only at h
    split at h
    · rename_i t kvs c
      simp only [Option.bind_eq_some_iff] at h
      obtain ⟨d, hd, k, hk, h⟩ := h
      split at h
      · rename_i q
        cases h
        have hl : l < S3.length := Nat.lt_of_lt_of_le w2 l3
        refine ⟨_, ?_, s3.put hl _, ?_, by rw [List.length_set]; (try simp only at *); omega⟩
        · have hd' : (v.rn F).fz = some d := by rw [rn_fz]; exact hd
          have q1 : T3[F.rn l]? = some (.dct false t kvs) := by rw [s3.cell l hl]; exact c
          have q2 := s3.rd hk
          have a2' : o (Env.rn F ρ) T1 = some (.ref (F.rn l), T2) := a2
          simp only [xPutD, a1, a2', a3, Option.bind_some, q1, hd', q2]
          rw [if_pos q]; rfl
        · show WfE _ ρ
          rw [List.length_set]; exact w.mono (by (try simp only at *); omega)
      · cases h
    · cases h
  | p _ => cases h
  | frl _ => cases h
  | frd _ _ => cases h⟩
instance {o : XE} [O : LocE o] : LocE (xLenD o) := ⟨fun {F S T ρ r S'} s w h => by
  simp only [xLenD, Option.bind_eq_some_iff] at h
  obtain ⟨⟨x, S1⟩, h1, h⟩ := h
  obtain ⟨T1, a1, s1, w1, l1⟩ := O.loc s w h1
  cases x with
  | ref l =>
    simp only at h
    split at h
    · rename_i kvs c
      cases h
      have q1 : T1[F.rn l]? = some (.dct false false kvs) := by rw [s1.cell l w1]; exact c
      exact ⟨T1, by simp only [xLenD, a1, Option.bind_some, R.rn, q1], s1, trivial, l1⟩
    · cases h
  | p _ => cases h
  | frl _ => cases h
  | frd _ _ => cases h⟩
instance {o : XE} [O : LocE o] : LocE (xSortedD o) := ⟨fun {F S T ρ r S'} s w h => by
  simp only [xSortedD, Option.bind_eq_some_iff] at h
  obtain ⟨⟨x, S1⟩, h1, h⟩ := h
  obtain ⟨T1, a1, s1, w1, l1⟩ := O.loc s w h1
  cases x with
  | ref l =>
    simp only at h
    split at h
    · rename_i kvs c
      split at h
      · rename_i q
        cases h
        have q1 : T1[F.rn l]? = some (.dct false false kvs) := by rw [s1.cell l w1]; exact c
        exact ⟨T1, by simp only [xSortedD, a1, Option.bind_some, R.rn, q1]; rw [if_pos q], s1, trivial, l1⟩
      · cases h
    · cases h
  | p _ => cases h
  | frl _ => cases h
  | frd _ _ => cases h⟩
instance {i : Nat} {x : XS} [X : LocS x] : LocS (xLockS i x) := ⟨fun {F S T ρ r S'} s w h => by
  unfold xLockS at h
  split at h
  · rename_i l e
    split at h
    · rename_i t kvs c
      have hl := (List.getElem?_eq_some_iff.mp c).1
      simp only [Option.bind_eq_some_iff] at h
      obtain ⟨⟨fl, S1⟩, h1, h⟩ := h
      obtain ⟨T1, a1, s1, w1, l1⟩ := X.loc (s.put hl (.dct true t kvs)) (by rw [List.length_set]; exact w) h1
      rw [List.length_set] at l1
      split at h
      · rename_i q
        cases h
        have hl1 : l < S1.length := Nat.lt_of_lt_of_le hl l1
        refine ⟨_, ?_, s1.put hl1 _, by rw [List.length_set]; exact w1, by rw [List.length_set]; exact l1⟩
        have q1 : T[F.rn l]? = some (.dct false t kvs) := by rw [s.cell l hl]; exact c
        have q2 : T1[F.rn l]? = some (.dct true t kvs) := by rw [s1.cell l hl1]; exact q
        simp only [xLockS, rn_get, e, Option.map_some, D.rn, q1, a1, Option.bind_some, q2, if_true]
      · cases h
    · cases h
  · cases h⟩
instance {i : Nat} {x : XE} [X : LocE x] : LocE (xLockE i x) := ⟨fun {F S T ρ r S'} s w h => by
  unfold xLockE at h
  split at h
  · rename_i l e
    split at h
    · rename_i t kvs c
      have hl := (List.getElem?_eq_some_iff.mp c).1
      simp only [Option.bind_eq_some_iff] at h
      obtain ⟨⟨fl, S1⟩, h1, h⟩ := h
      obtain ⟨T1, a1, s1, w1, l1⟩ := X.loc (s.put hl (.dct true t kvs)) (by rw [List.length_set]; exact w) h1
      rw [List.length_set] at l1
      split at h
      · rename_i q
        cases h
        have hl1 : l < S1.length := Nat.lt_of_lt_of_le hl l1
        refine ⟨_, ?_, s1.put hl1 _, by rw [List.length_set]; exact w1, by rw [List.length_set]; exact l1⟩
        have q1 : T[F.rn l]? = some (.dct false t kvs) := by rw [s.cell l hl]; exact c
        have q2 : T1[F.rn l]? = some (.dct true t kvs) := by rw [s1.cell l hl1]; exact q
        simp only [xLockE, rn_get, e, Option.map_some, D.rn, q1, a1, Option.bind_some, q2, if_true]
      · cases h
    · cases h
  · cases h⟩
end XL
end
section
set_option Elab.async false
set_option linter.all false
set_option autoImplicit false
set_option maxRecDepth 100000
set_option maxHeartbeats 1000000
namespace XL
instance : NewB pAdd := ⟨by intro p q r h l e; subst e; unfold pAdd at h; repeat' split at h; all_goals first | cases h | simp at h⟩
instance : NewB pSub := ⟨by intro p q r h l e; subst e; unfold pSub at h; repeat' split at h; all_goals first | cases h | simp at h⟩
instance : NewB pMul := ⟨by intro p q r h l e; subst e; unfold pMul at h; repeat' split at h; all_goals first | cases h | simp at h⟩
instance : NewB pDiv := ⟨by intro p q r h l e; subst e; unfold pDiv at h; repeat' split at h; all_goals first | cases h | simp at h⟩
instance : NewB pMod := ⟨by intro p q r h l e; subst e; unfold pMod at h; repeat' split at h; all_goals first | cases h | simp at h⟩
instance : NewB pPow := ⟨by intro p q r h l e; subst e; unfold pPow at h; repeat' split at h; all_goals first | cases h | simp at h⟩
instance : NewB pLt := ⟨by intro p q r h l e; subst e; unfold pLt at h; repeat' split at h; all_goals first | cases h | simp at h⟩
instance : NewB pLe := ⟨by intro p q r h l e; subst e; unfold pLe at h; repeat' split at h; all_goals first | cases h | simp at h⟩
instance : NewB pGt := ⟨by intro p q r h l e; subst e; unfold pGt at h; repeat' split at h; all_goals first | cases h | simp at h⟩
instance : NewB pGe := ⟨by intro p q r h l e; subst e; unfold pGe at h; repeat' split at h; all_goals first | cases h | simp at h⟩
instance : NewB pEq := ⟨by intro p q r h l e; subst e; unfold pEq at h; repeat' split at h; all_goals first | cases h | simp at h⟩
instance : NewB pNe := ⟨by intro p q r h l e; subst e; unfold pNe at h; repeat' split at h; all_goals first | cases h | simp at h⟩
instance : NewB pIs := ⟨by intro p q r h l e; subst e; unfold pIs at h; repeat' split at h; all_goals first | cases h | simp at h⟩
instance : NewB pIsNot := ⟨by intro p q r h l e; subst e; unfold pIsNot at h; repeat' split at h; all_goals first | cases h | simp at h⟩
instance : NewB pIn := ⟨by intro p q r h l e; subst e; unfold pIn at h; repeat' split at h; all_goals first | cases h | simp at h⟩
instance : NewB pNotIn := ⟨by intro p q r h l e; subst e; unfold pNotIn at h; repeat' split at h; all_goals first | cases h | simp at h⟩
instance : NewB pIx := ⟨by intro p q r h l e; subst e; unfold pIx at h; repeat' split at h; all_goals first | cases h | simp [Option.bind_eq_some_iff] at h⟩
instance : NewU pNeg := ⟨by intro p r h l e; subst e; unfold pNeg at h; repeat' split at h; all_goals first | cases h | simp at h⟩
instance {f : P → Bool} : NewU (pIsi f) := ⟨by intro p r h l e; subst e; cases h⟩
instance : NewU uSortedSet := ⟨by intro p r h l e; subst e; unfold uSortedSet at h; repeat' split at h; all_goals first | cases h | simp at h⟩
instance : NewU uLenSet := ⟨by intro p r h l e; subst e; unfold uLenSet at h; repeat' split at h; all_goals first | cases h | simp at h⟩
instance : NewU uListRng := ⟨by intro p r h l e; subst e; unfold uListRng at h; repeat' split at h; all_goals first | cases h | simp at h⟩
instance {t : Tab} : NewU (tabIn t) := ⟨by intro p r h l e; subst e; unfold tabIn at h; repeat' split at h; all_goals first | cases h | simp at h⟩
instance {t : Tab} : NewU (tabGet t) := ⟨by intro p r h l e; subst e; unfold tabGet at h; repeat' split at h; all_goals first | cases h | simp at h⟩
instance : NewC cLen := ⟨by intro p r h l e; subst e; unfold cLen at h; repeat' split at h; all_goals first | cases h | simp at h⟩
instance : NewC cInt := ⟨by intro p r h l e; subst e; unfold cInt at h; repeat' split at h; all_goals first | cases h | simp at h⟩
instance : NewC cTuple := ⟨by intro p r h l e; subst e; unfold cTuple at h; repeat' split at h; all_goals first | cases h | simp at h⟩
instance : NewC cList := ⟨by intro p r h l e; subst e; unfold cList at h; repeat' split at h; all_goals first | cases h | simp at h⟩
instance : NewC cListA := ⟨by intro p r h l e; subst e; unfold cListA at h; repeat' split at h; all_goals first | cases h | simp at h⟩
instance : NewC cAll := ⟨by intro p r h l e; subst e; unfold cAll at h; repeat' split at h; all_goals first | cases h | simp at h⟩
instance : NewC cAny := ⟨by intro p r h l e; subst e; unfold cAny at h; repeat' split at h; all_goals first | cases h | simp at h⟩
instance : NewC cSum := ⟨by intro p r h l e; subst e; unfold cSum at h; repeat' split at h; all_goals first | cases h | simp at h⟩
instance : NewC cMax := ⟨by intro p r h l e; subst e; unfold cMax at h; repeat' split at h; all_goals first | cases h | simp [Option.bind_eq_some_iff] at h⟩
instance : NewC cMin := ⟨by intro p r h l e; subst e; unfold cMin at h; repeat' split at h; all_goals first | cases h | simp [Option.bind_eq_some_iff] at h⟩
instance : NewC cSorted := ⟨by intro p r h l e; subst e; unfold cSorted at h; repeat' split at h; all_goals first | cases h | simp at h⟩
instance : NewM mIndex := ⟨by intro p q r h l e; subst e; unfold mIndex at h; repeat' split at h; all_goals first | cases h | simp at h⟩
instance : NewM mIndexL := ⟨by intro p q r h l e; subst e; unfold mIndexL at h; repeat' split at h; all_goals first | cases h | simp at h⟩
instance : NewM mLower := ⟨by intro p q r h l e; subst e; unfold mLower at h; repeat' split at h; all_goals first | cases h | simp at h⟩
instance : NewM mJoin := ⟨by intro p q r h l e; subst e; unfold mJoin at h; repeat' split at h; all_goals first | cases h | simp [Option.bind_eq_some_iff] at h⟩
instance : NewM mSplit := ⟨by intro p q r h l e; subst e; unfold mSplit at h; repeat' split at h; all_goals first | cases h | simp at h⟩
/-! defs -/
theorem fin_rn {F : Fm} {b : Nat} (hn : F.n ≤ b) {S T : Sto} (s : SimS F S T) (hb : b ≤ S.length) {r r' : R} {S' : Sto} (w : WfR S.length r) (h : finish b r S = some (r', S')) :
    ∃ T', finish (F.m + (b - F.n)) (r.rn F) T = some (r'.rn F, T') ∧ SimS F S' T' ∧ WfR S'.length r' ∧ b = S'.length := by
  have hc := s.cut hn hb
  have hl : (S.take b).length = b := by rw [List.length_take]; omega
  cases r with
  | p d => cases h; exact ⟨_, rfl, hc, trivial, hl.symm⟩
  | frl d => cases h; exact ⟨_, rfl, hc, trivial, hl.symm⟩
  | frd t d => cases h; exact ⟨_, rfl, hc, trivial, hl.symm⟩
  | ref l =>
    have hle := rn_le (F := F) (l := l) hn
    simp only [finish] at h
    split at h
    · rename_i c
      cases h
      refine ⟨_, ?_, hc, by rw [hl]; exact c, hl.symm⟩
      show finish _ (.ref (F.rn l)) T = _
      unfold finish
      simp only
      rw [if_pos (by omega)]; rfl
    · rename_i c
      have hw : l < S.length := w
      split at h
      · rename_i ds e
        cases h
        refine ⟨_, ?_, hc, trivial, hl.symm⟩
        show finish _ (.ref (F.rn l)) T = _
        unfold finish
        simp only
        rw [if_neg (by omega), s.cell l hw, e]; rfl
      · rename_i t ds e
        cases h
        refine ⟨_, ?_, hc, trivial, hl.symm⟩
        show finish _ (.ref (F.rn l)) T = _
        unfold finish
        simp only
        rw [if_neg (by omega), s.cell l hw, e]; rfl
      · cases h
theorem start_rn {F : Fm} {n : Nat} {as : List D} : startE n (as.map (D.rn F)) = Env.rn F (startE n as) := by
  simp [startE, Env.rn]
instance {k n : Nat} {b : XS} [B : LocS b] : LocF (mkF k n b) := ⟨fun {F S T as r S'} s w h => by
  unfold mkF at h
  split at h
  · rename_i hk
    simp only [Option.bind_eq_some_iff] at h
    obtain ⟨⟨fl, S1⟩, h1, h⟩ := h
    have we : WfE S.length (startE n as) := fun d hd => by
      unfold startE at hd
      rcases List.mem_append.mp hd with e | e
      · obtain ⟨x, hx, q⟩ := List.mem_map.mp e
        cases q; exact w _ hx
      · exact nomatch (List.mem_replicate.mp e).2
    obtain ⟨T1, a1, s1, w1, l1⟩ := B.loc s we h1
    rw [← start_rn] at a1
    unfold mkF
    rw [if_pos (by rw [List.length_map]; exact hk), a1]
    simp only [Option.bind_some]
    rw [s.len]
    cases fl with
    | nx ρ => exact fin_rn (r := .p .non) s.le s1 l1 trivial h
    | rt r => exact fin_rn s.le s1 l1 w1 h
    | bk ρ => cases h
    | ct ρ => cases h
  · cases h⟩
/-! what follows for a def -/
/-- no cells -/
theorem frame0 {f : XF} [L : LocF f] {ps : List P} {r : R} (h : f (ps.map D.p) [] = some (r, [])) (S : Sto) : f (ps.map D.p) S = some (r, S) := by
  let F : Fm := ⟨0, S.length, id, S, fun l h => absurd h (Nat.not_lt_zero l), fun l l' h => absurd h (Nat.not_lt_zero l)⟩
  have s : SimS F [] S := ⟨Nat.le_refl _, by simp [F], fun l h => absurd h (Nat.not_lt_zero l), fun j _ _ => rfl⟩
  obtain ⟨T', a, s', w, _⟩ := L.loc s (fun d hd => by obtain ⟨p, _, rfl⟩ := List.mem_map.mp hd; trivial) h
  have e : (ps.map D.p).map (D.rn F) = ps.map D.p := by rw [List.map_map]; rfl
  have er : r.rn F = r := by
    cases r with
    | ref l => exact absurd w (Nat.not_lt_zero l)
    | _ => rfl
  have eT : T' = S := by
    apply List.ext_getElem?
    intro j
    by_cases c : j < S.length
    · exact s'.out j c fun l h => absurd h (Nat.not_lt_zero l)
    · have h1 := s'.len
      simp [F] at h1
      rw [List.getElem?_eq_none (by omega), List.getElem?_eq_none (by omega)]
  rw [e, er, eT] at a
  exact a
end XL
end
section
set_option Elab.async false
set_option linter.all false
set_option autoImplicit false
set_option maxRecDepth 100000
set_option maxHeartbeats 1000000
namespace XL
instance : NewC cDictP := ⟨by intro p r h l e; subst e; unfold cDictP at h; split at h <;> simp [Option.bind_eq_some_iff] at h⟩
instance {o : XE} [O : LocE o] : LocE (xCopyD o) := ⟨fun {F S T ρ r S'} s w h => by
  simp only [xCopyD, Option.bind_eq_some_iff] at h
  obtain ⟨⟨x, S1⟩, h1, h⟩ := h
  obtain ⟨T1, a1, s1, w1, l1⟩ := O.loc s w h1
  cases x with
  | ref l =>
    simp only at h
    split at h
    · rename_i kvs c
      split at h
      · rename_i q
        cases h
        have q1 : T1[F.rn l]? = some (.dct false true kvs) := by rw [s1.cell l w1]; exact c
        exact ⟨T1, by simp only [xCopyD, a1, Option.bind_some, R.rn, q1]; rw [if_pos q], s1, trivial, l1⟩
      · cases h
    · cases h
  | p _ => cases h
  | frl _ => cases h
  | frd _ _ => cases h⟩
theorem isNon_rn {F : Fm} {r : R} : isNonR (r.rn F) = isNonR r := by
  cases r with
  | p d => cases d <;> rfl
  | _ => rfl
instance {n : Bool} {a : XE} [A : LocE a] : LocE (xIsN n a) := ⟨fun {F S T ρ r S'} s w h => by
  simp only [xIsN, Option.map_eq_some_iff, Prod.mk.injEq] at h
  obtain ⟨⟨x, S1⟩, h1, rfl, rfl⟩ := h
  obtain ⟨T1, a1, s1, w1, l1⟩ := A.loc s w h1
  exact ⟨T1, by simp only [xIsN, a1, Option.map_some, isNon_rn]; rfl, s1, trivial, l1⟩⟩
instance {a : XE} [A : LocE a] : LocI (xEnum a) := ⟨fun {F S T ρ r l S'} s w h => by
  simp only [xEnum, Option.bind_eq_some_iff] at h
  obtain ⟨⟨x, S1⟩, h1, h⟩ := h
  obtain ⟨T1, a1, s1, w1, l1⟩ := A.loc s w h1
  simp only at h
  split at h
  · cases h; exact ⟨T1, by simp [xEnum, a1, R.rn], s1, (fun _ z => nomatch z), l1⟩
  · cases h⟩
theorem sl_new {p : P} {l h : Option Int} {r : R} (e : pSl p l h = some r) : ∀ k, r ≠ .ref k := by
  intro k q; subst q
  unfold pSl at e
  repeat' split at e
  all_goals first | cases e | simp at e
theorem part_rn {x : Option XE} (hx : ∀ e, x = some e → LocE e) {F : Fm} {S T : Sto} {ρ : Env} {o : Option Int} {S' : Sto} (s : SimS F S T) (w : WfE S.length ρ) (h : xPart x ρ S = some (o, S')) : ∃ T', xPart x (Env.rn F ρ) T = some (o, T') ∧ SimS F S' T' ∧ S.length ≤ S'.length := by
  cases x with
  | none => cases h; exact ⟨T, rfl, s, Nat.le_refl _⟩
  | some e =>
    simp only [xPart, Option.bind_eq_some_iff] at h
    obtain ⟨⟨r, S1⟩, h1, h⟩ := h
    obtain ⟨T1, a1, s1, w1, l1⟩ := (hx e rfl).loc s w h1
    simp only at h
    split at h
    · cases h; exact ⟨T1, by simp [xPart, a1, R.rn], s1, l1⟩
    · cases h
class LocP (x : Option XE) : Prop where
  loc : ∀ e, x = some e → LocE e
instance : LocP none := ⟨fun e h => by cases h⟩
instance {e : XE} [E : LocE e] : LocP (some e) := ⟨fun e' h => by cases h; exact E⟩
instance {a : XE} {lo hi : Option XE} [A : LocE a] [L : LocP lo] [Hh : LocP hi] : LocE (xSl a lo hi) := ⟨fun {F S T ρ r S'} s w h => by
  simp only [xSl, Option.bind_eq_some_iff, Option.map_eq_some_iff, Prod.mk.injEq] at h
  obtain ⟨⟨x, S1⟩, h1, ⟨l, S2⟩, h2, ⟨u, S3⟩, h3, p, hp, r', hf, rfl, rfl⟩ := h
  obtain ⟨T1, a1, s1, w1, l1⟩ := A.loc s w h1
  obtain ⟨T2, a2, s2, l2⟩ := part_rn L.loc s1 (w.mono l1) h2
  obtain ⟨T3, a3, s3, l3⟩ := part_rn Hh.loc s2 (w.mono (Nat.le_trans l1 l2)) h3
  obtain ⟨e, we⟩ := rn_new (F := F) (k := S3.length) (sl_new hf)
  refine ⟨T3, ?_, s3, we, by (try simp only at *); omega⟩
  have q := s3.rd hp
  simp only [xSl, a1, Option.bind_some, a2, a3, q, hf, Option.map_some, e]⟩
instance {o : XE} [O : LocE o] : LocE (xSortedT o) := ⟨fun {F S T ρ r S'} s w h => by
  simp only [xSortedT, Option.bind_eq_some_iff] at h
  obtain ⟨⟨x, S1⟩, h1, h⟩ := h
  obtain ⟨T1, a1, s1, w1, l1⟩ := O.loc s w h1
  cases x with
  | ref l =>
    simp only at h
    split at h
    · rename_i kvs c
      split at h
      · rename_i q
        cases h
        have q1 : T1[F.rn l]? = some (.dct false true kvs) := by rw [s1.cell l w1]; exact c
        exact ⟨T1, by simp only [xSortedT, a1, Option.bind_some, R.rn, q1]; rw [if_pos q], s1, trivial, l1⟩
      · cases h
    · cases h
  | p _ => cases h
  | frl _ => cases h
  | frd _ _ => cases h⟩
end XL
end
section
set_option autoImplicit false
set_option linter.all false
namespace XL
instance : NewU uSortedSetT := ⟨by intro p r h l e; subst e; unfold uSortedSetT at h; repeat' split at h; all_goals first | cases h | simp at h⟩
instance : NewU uLenSetT := ⟨by intro p r h l e; subst e; unfold uLenSetT at h; repeat' split at h; all_goals first | cases h | simp at h⟩
end XL
end
section
set_option Elab.async false
set_option linter.all false
set_option autoImplicit false
set_option maxRecDepth 100000
set_option maxHeartbeats 1000000
namespace XL
theorem least_new {fp fl : XF} {sp : P} {kvs : List (P × P)} {r : R} (h : leastOf fp fl sp kvs = some r) : ∀ l, r ≠ .ref l := by
  intro l e
  subst e
  unfold leastOf at h
  split at h
  · simp only [Option.bind_eq_some_iff] at h
    obtain ⟨F, _, rs, _, h⟩ := h
    unfold cDictP at h
    simp only [Option.bind_eq_some_iff] at h
    obtain ⟨k, _, h⟩ := h
    split at h <;> cases h
  · cases h
instance {fp fl : XF} : LocS (xLeast fp fl) := ⟨fun {F S T ρ r S'} s w h => by
  unfold xLeast at h
  split at h
  · rename_i sp rest l a2 a3 a4 a5 a6 a7 a8
    split at h
    · rename_i kvs c
      simp only [Option.map_eq_some_iff] at h
      obtain ⟨r1, h1, h⟩ := h
      cases h
      have wl : l < S.length := w (.ref l) (by simp)
      have q1 : T[F.rn l]? = some (.dct true true kvs) := by rw [s.cell l wl]; exact c
      obtain ⟨e, we⟩ := rn_new (F := F) (k := S.length) (least_new h1)
      refine ⟨T, ?_, s, we, Nat.le_refl _⟩
      simp only [xLeast, Env.rn, List.map_cons, List.map_nil, Option.map_some, D.rn, q1, h1, Fl.rn, e]
    · cases h
  · cases h⟩
end XL
end
section
set_option Elab.async false
set_option linter.all false
set_option maxRecDepth 100000
set_option maxHeartbeats 1000000
namespace XL
open PySem L2 PyProof.Rows PySem.W
section
variable {X : Cx} {st : List Stmt} {i : Nat}
end
/-! ### dict(d), d locked -/
section
variable {X : Cx} {o : Expr} {xo : XE} {p pos : Pos}
end
/-! ### dict(list of pairs), the values being whatever they are -/
/-! ### sorted(d), d a dict with texts as keys -/
end XL
end
section
set_option Elab.async false
set_option linter.all false
set_option maxRecDepth 100000
set_option maxHeartbeats 1000000
namespace XL
open PySem L2 PyProof.Rows PySem.W
section
variable {K : PySem.W.Frag} {G G' Gd m m' m1 : List Addr} {H H' H0 H1 H2 Hb : Hp}
theorem Step.cut (s : Step m H m' H') : Step m H m H' := ⟨⟨[], by simp, fun _ h => by cases h⟩, s.keep, s.dom, s.fz⟩
theorem StepG.cut (s : StepG G m H m' H') : StepG G m H m H' := ⟨⟨[], by simp, fun _ h => by cases h⟩, s.keep, s.dom, s.fz⟩
/-- less is known -/
def subE : Env → Env → Prop
  | [], [] => True
  | none :: a, _ :: b => subE a b
  | some d :: a, some e :: b => d = e ∧ subE a b
  | _, _ => False
theorem subE.len : ∀ {a b : Env}, subE a b → a.length = b.length
  | [], [], _ => rfl
  | [], _ :: _, h => h.elim
  | none :: a, [], h => h.elim
  | some _ :: a, [], h => h.elim
  | none :: a, _ :: b, h => by simp [subE.len (a := a) (b := b) h]
  | some d :: a, none :: b, h => h.elim
  | some d :: a, some e :: b, h => by simp [subE.len (a := a) (b := b) h.2]
theorem subE.get : ∀ {a b : Env}, subE a b → ∀ (i : Nat) (d : D), a[i]? = some (some d) → b[i]? = some (some d)
  | [], [], _, i, d, e => by simp at e
  | [], _ :: _, h, _, _, _ => h.elim
  | none :: a, [], h, _, _, _ => h.elim
  | some _ :: a, [], h, _, _, _ => h.elim
  | none :: a, x :: b, h, 0, d, e => by simp at e
  | none :: a, x :: b, h, i + 1, d, e => by simpa using subE.get (a := a) (b := b) h i d (by simpa using e)
  | some d' :: a, none :: b, h, _, _, _ => h.elim
  | some d' :: a, some x :: b, h, 0, d, e => by simp at e; subst e; simp [h.1]
  | some d' :: a, some x :: b, h, i + 1, d, e => by simpa using subE.get (a := a) (b := b) h.2 i d (by simpa using e)
/-- cells dropped, slots forgotten -/
theorem RepE.back {ρ ρ' : Env} {σ : L2.St} (hE : RepE K G m' H ρ' σ) (hs : subE ρ ρ') (hm : ∃ t, m' = m ++ t) (hr : ∀ l, some (D.ref l) ∈ ρ → l < m.length) : RepE K G m H ρ σ := by
  obtain ⟨t, rfl⟩ := hm
  refine ⟨hs.len.trans hE.len, fun i d e => ?_⟩
  obtain ⟨v, hv, q⟩ := hE.slot i d (hs.get i d e)
  refine ⟨v, hv, ?_⟩
  cases d with
  | p d =>
    exact (RepP.sub fun a ha => by
      simp only [List.mem_append] at ha ⊢
      exact ha.elim (fun z => .inl (.inl z)) .inr).1 d v q
  | ref l =>
    obtain ⟨a, e1, e2⟩ := q
    have hl : l < m.length := hr l (List.mem_of_getElem? e)
    rw [List.getElem?_append_left hl] at e2
    exact ⟨a, e1, e2⟩
/-- fewer guarded -/
theorem RepSt.less {S : Sto} (h : RepSt K Gd m S H) (hg : ∀ a ∈ G, a ∈ Gd) : RepSt K G m S H :=
  ⟨h.len, h.nd, fun l a c h1 h2 => by
    obtain ⟨ws, o, z, k, r⟩ := h.cell l a c h1 h2
    exact ⟨ws, o, z, k, (RepP.sub fun a ha => by
      simp only [List.mem_append] at ha ⊢
      exact ha.elim .inl (fun z => .inr (hg a z))).2 _ ws r⟩, fun a ha => h.gd a (hg a ha)⟩
theorem RepR.less {r : R} {v : V} (h : RepR K Gd m H r v) (hg : ∀ a ∈ G, a ∈ Gd) : RepR K G m H r v := by
  have sub : ∀ a, a ∈ m ++ G → a ∈ m ++ Gd := fun a ha => by
    simp only [List.mem_append] at ha ⊢
    exact ha.elim .inl (fun z => .inr (hg a z))
  cases r with
  | p d => exact (RepP.sub sub).1 d v h
  | ref l => exact h
  | frl ds => obtain ⟨a, vs, e, nm, ha, q⟩ := h; exact ⟨a, vs, e, fun z => nm (sub a z), ha, (RepP.sub sub).2 ds vs q⟩
  | frd t kvs => obtain ⟨a, e, nm, ws, o, ha, ho, q⟩ := h; exact ⟨a, e, fun z => nm (sub a z), ws, o, ha, ho, (RepP.sub sub).2 _ ws q⟩
theorem Own.less {S : Sto} {r : R} {v : V} (h : Own K H0 Gd m H S r v) (hg : ∀ a ∈ G, a ∈ Gd) : Own K H0 G m H S r v := by
  cases r with
  | p d => trivial
  | ref l => trivial
  | frl ds => obtain ⟨a, e, n0, q⟩ := h; exact ⟨a, e, n0, q.less hg⟩
  | frd t kvs => obtain ⟨a, e, n0, q⟩ := h; exact ⟨a, e, n0, q.less hg⟩
end
/-! ### what found holds -/
structure Grd (Hb : Hp) (G Gd : List Addr) (fa : Addr) (bs : List Addr) : Prop where
  hfa : fa ∈ Gd
  hbs : ∀ b ∈ bs, b ∈ Gd
  sub : ∀ a ∈ G, a ∈ Gd
  old : ∀ a ∈ Gd, a ∈ G ∨ Hb a = none
  fn : Hb fa = none
  bn : ∀ b ∈ bs, Hb b = none
structure Dd (H : Hp) (fa : Addr) (bs : List Addr) (F : DD) : Prop where
  len : bs.length = F.length
  nd : bs.Nodup
  fb : fa ∉ bs
  knd : (F.map (·.1)).Nodup
  out : ∃ ks : List (List Key), (F.map (·.1)).map tkP = ks.map some ∧ H fa = some (.dT (ks.zip (bs.map V.ref)))
  inn : ∀ (j : Nat) (b : Addr) (e : P × List P), bs[j]? = some b → F[j]? = some e → ∃ k : List Key, e.2.map keyP = k.map some ∧ H b = some (.dK (k.map fun x => (x, V.bl true)))
theorem Dd.keep {H H' : Hp} {fa : Addr} {bs : List Addr} {F : DD} (h : Dd H fa bs F) (hf : ∀ o, H fa = some o → H' fa = some o) (hb : ∀ b ∈ bs, ∀ o, H b = some o → H' b = some o) : Dd H' fa bs F :=
  ⟨h.len, h.nd, h.fb, h.knd, by obtain ⟨ks, a, b⟩ := h.out; exact ⟨ks, a, hf _ b⟩, fun j b e e1 e2 => by
    obtain ⟨k, a, c⟩ := h.inn j b e e1 e2
    exact ⟨k, a, hb b (List.mem_of_getElem? e1) _ c⟩⟩
theorem dd_at : ∀ {F : DD} {ks : List (List Key)} {bs : List Addr} {k : P} {kk : List Key} {ls : List P}, (F.map (·.1)).map tkP = ks.map some → bs.length = F.length → tkP k = some kk → ddGet F k = some ls →
    ∃ (j : Nat) (b : Addr), F[j]? = some (k, ls) ∧ bs[j]? = some b ∧ valV (ks.zip (bs.map V.ref)) kk = some (.ref b)
  | [], ks, bs, k, kk, ls, _, _, _, h => by simp [ddGet] at h
  | (k0, l0) :: F, ks, bs, k, kk, ls, hk, hl, e, h => by
    cases ks with
    | nil => simp at hk
    | cons q ks =>
      cases bs with
      | nil => simp at hl
      | cons b bs =>
        simp only [List.map_cons, List.cons.injEq] at hk
        by_cases c : k0 = k
        · subst c
          have : q = kk := Option.some.inj (hk.1.symm.trans e)
          subst this
          simp [ddGet] at h
          subst h
          exact ⟨0, b, rfl, rfl, by simp [valV]⟩
        · have c2 : q ≠ kk := fun z => c (tkP_inj (z ▸ hk.1) e)
          have h' : ddGet F k = some ls := by simpa [ddGet, List.find?_cons, c] using h
          obtain ⟨j, b', a1, a2, a3⟩ := dd_at hk.2 (by simpa using hl) e h'
          exact ⟨j + 1, b', by simpa using a1, by simpa using a2, by simpa [valV, List.find?_cons, c2] using a3⟩
theorem key_mem {l : P} {kl : Key} (hl : keyP l = some kl) : ∀ {ls : List P} {k : List Key}, ls.map keyP = k.map some → (l ∈ ls ↔ kl ∈ k)
  | [], k, h => by cases k with
    | nil => simp
    | cons _ _ => simp at h
  | x :: ls, k, h => by
    cases k with
    | nil => simp at h
    | cons y k =>
      simp only [List.map_cons, List.cons.injEq] at h
      simp only [List.mem_cons, key_mem hl h.2]
      constructor
      · rintro (rfl | z)
        · exact .inl (Option.some.inj (hl.symm.trans h.1))
        · exact .inr z
      · rintro (rfl | z)
        · exact .inl (keyP_inj hl h.1)
        · exact .inr z
def inK (k : List Key) (x : Key) : Bool := k.any fun y => decide (y = x)
theorem inK_iff {k : List Key} {x : Key} : inK k x = true ↔ x ∈ k := by
  unfold inK
  rw [List.any_eq_true]
  constructor
  · rintro ⟨y, hy, e⟩
    have := of_decide_eq_true e
    subst this; exact hy
  · exact fun h => ⟨x, h, by simp⟩
theorem put_true (k : List Key) (x : Key) : L2.putK (k.map fun x => (x, V.bl true)) x (V.bl true) = (if inK k x = true then k else k ++ [x]).map fun x => (x, V.bl true) := by
  have ha : ((k.map fun x => (x, V.bl true)).any fun kv => decide (kv.1 = x)) = inK k x := by
    unfold inK
    rw [List.any_map]; rfl
  unfold L2.putK
  rw [ha]
  split
  · rw [List.map_map]
    refine List.map_congr_left fun y _ => ?_
    simp only [Function.comp]
    split <;> rfl
  · rw [List.map_append]; rfl
/-- the cell of a letter's pair, and what is behind putting the letter in -/
theorem Dd.at {H : Hp} {fa : Addr} {bs : List Addr} {F : DD} (h : Dd H fa bs F) {k : P} {kk : List Key} {ls : List P} (hk : tkP k = some kk) (hg : ddGet F k = some ls) :
    ∃ (b : Addr) (kl : List Key) (ks : List (List Key)), b ∈ bs ∧ H fa = some (.dT (ks.zip (bs.map V.ref))) ∧ valV (ks.zip (bs.map V.ref)) kk = some (.ref b) ∧ ls.map keyP = kl.map some ∧ H b = some (.dK (kl.map fun x => (x, V.bl true))) ∧
      ∀ (l : P) (x : Key), keyP l = some x → Dd (upd H b (.dK (L2.putK (kl.map fun x => (x, V.bl true)) x (.bl true)))) fa bs (ddAdd F k l) := by
  obtain ⟨ks, e1, e2⟩ := h.out
  obtain ⟨j, b, a1, a2, a3⟩ := dd_at e1 h.len hk hg
  obtain ⟨kl, c1, c2⟩ := h.inn j b _ a2 a1
  refine ⟨b, kl, ks, List.mem_of_getElem? a2, e2, a3, c1, c2, fun l x hx => ?_⟩
  have keys : (ddAdd F k l).map (·.1) = F.map (·.1) := by
    unfold ddAdd
    rw [List.map_map]
    refine List.map_congr_left fun e _ => ?_
    simp only [Function.comp]
    split <;> rfl
  have hfb : fa ≠ b := fun z => h.fb (z ▸ List.mem_of_getElem? a2)
  refine ⟨by rw [h.len]; simp [ddAdd], h.nd, h.fb, by rw [keys]; exact h.knd, ⟨ks, by rw [keys]; exact e1, by rw [upd_ne hfb]; exact e2⟩, fun j' b' e' q1 q2 => ?_⟩
  unfold ddAdd at q2
  rw [List.getElem?_map] at q2
  cases q3 : F[j']? with
  | none => rw [q3] at q2; cases q2
  | some e0 =>
    rw [q3] at q2
    simp only [Option.map_some, Option.some.injEq] at q2
    by_cases c : j' = j
    · subst c
      rw [a1] at q3
      cases q3
      rw [a2] at q1
      cases q1
      rw [if_pos rfl] at q2
      subst q2
      refine ⟨if inK kl x = true then kl else kl ++ [x], ?_, by rw [upd_same, put_true]⟩
      have mem := key_mem hx c1
      by_cases z : l ∈ ls
      · rw [if_pos (inK_iff.mpr (mem.mp z))]; simp only [if_pos z]; exact c1
      · rw [if_neg (fun w => z (mem.mpr (inK_iff.mp w)))]; simp only [if_neg z]
        simp [c1, hx]
    · have ne : e0.1 ≠ k := fun z => c (by
        have l1 : j' < (F.map (·.1)).length := by simp; exact (List.getElem?_eq_some_iff.mp q3).1
        refine (List.getElem?_inj l1 h.knd).mp ?_
        rw [List.getElem?_map, List.getElem?_map, q3, a1]
        simp [z])
      rw [if_neg ne] at q2
      subst q2
      have nb : b' ≠ b := fun z => c (by
        subst z
        exact (List.getElem?_inj (List.getElem?_eq_some_iff.mp q1).1 h.nd).mp (q1.trans a2.symm))
      obtain ⟨k', d1, d2⟩ := h.inn j' b' e0 q1 q3
      exact ⟨k', d1, by rw [upd_ne nb]; exact d2⟩
structure Liv (K : PySem.W.Frag) (Hb : Hp) (m G Gd : List Addr) (ρ : Env) (S : Sto) (fa : Addr) (bs : List Addr) (F : DD) (σ : L2.St) (H : Hp) : Prop where
  st : Step m Hb m H
  hS : RepSt K Gd m S H
  hE : RepE K Gd m H ρ σ
  fnd : σ[2]? = some (some (.ref fa))
  dd : Dd H fa bs F
section
variable {K : PySem.W.Frag} {G Gd m m' : List Addr} {H H' Hb : Hp} {ρ ρ' : Env} {S S' : Sto} {fa : Addr} {bs : List Addr} {F : DD} {σ σ' : L2.St}
theorem Liv.dd_step (L : Liv K Hb m G Gd ρ S fa bs F σ H) (g : Grd Hb G Gd fa bs) (s : Step m H m' H') : Dd H' fa bs F :=
  L.dd.keep (fun o e => s.keep _ _ e (L.hS.gd _ g.hfa).2) fun b hb o e => s.keep _ _ e (L.hS.gd _ (g.hbs b hb)).2
/-- behind something that the rules tell -/
theorem Liv.go (L : Liv K Hb m G Gd ρ S fa bs F σ H) (g : Grd Hb G Gd fa bs) (s : Step m H m' H') (hS' : RepSt K Gd m' S' H') (hl : S'.take m.length = S) (hE' : RepE K Gd m' H' ρ' σ') {ρ2 : Env} (hs : subE ρ2 ρ') (hr : ∀ l, some (D.ref l) ∈ ρ2 → l < m.length) (hf : σ'[2]? = σ[2]?) : Liv K Hb m G Gd ρ2 S fa bs F σ' H' := by
  obtain ⟨t, em, ht⟩ := s.pre
  have tk : m'.take m.length = m := by rw [em]; simp
  refine ⟨L.st.trans s.cut, ?_, hE'.back hs ⟨t, em⟩ hr, hf.trans L.fnd, L.dd_step g s⟩
  have q := hS'.takeT m.length (by rw [em]; simp)
  rw [tk, hl] at q
  exact q
/-- a letter is put in -/
theorem Liv.put (L : Liv K Hb m G Gd ρ S fa bs F σ H) (g : Grd Hb G Gd fa bs) {b : Addr} {o ho : HO} {F' : DD} (hb : b ∈ bs) (hH : H b = some ho) (ho : ∀ vs, o ≠ .tup vs) (hd : Dd (upd H b o) fa bs F') : Liv K Hb m G Gd ρ S fa bs F' σ (upd H b o) :=
  ⟨L.st.updG (g.bn b hb) (by rw [hH]; simp), L.hS.updG (g.hbs b hb) ho, L.hE.updG (g.hbs b hb), L.fnd, hd⟩
end
end XL
end
section
set_option Elab.async false
set_option linter.all false
set_option maxRecDepth 100000
set_option maxHeartbeats 1000000
namespace XL
open PySem L2 PyProof.Rows PySem.W
/-! ### the same among other cells -/
/-! ### found[(i, j)][letter] = True -/
section
variable {K : PySem.W.Frag} {G Gd m m' : List Addr} {H H' Hb : Hp} {S S' : Sto} {fa : Addr} {bs : List Addr} {F : DD} {σ σ' : L2.St} {fp fl : XF} {D : Ends} {w : P} {l : Nat}
end
end XL
end
section
set_option Elab.async false
set_option linter.all false
set_option maxRecDepth 100000
set_option maxHeartbeats 1000000
namespace XL
open PySem L2 PyProof.Rows PySem.W
section
variable {K : PySem.W.Frag} {G Gd m m' : List Addr} {H H' Hb : Hp} {S S' : Sto} {fa : Addr} {bs : List Addr} {F F' : DD} {σ σ' : L2.St} {fp fl : XF} {D : Ends} {sp : P} {rest : List P} {l : Nat} {kvs : List (P × P)}
end
end XL
end
section
set_option Elab.async false
set_option linter.all false
set_option maxRecDepth 100000
set_option maxHeartbeats 1000000
namespace XL
open PySem L2 PyProof.Rows PySem.W
section
variable {K : PySem.W.Frag} {G Gd m m' : List Addr} {H H' H1 Hb : Hp} {S S' : Sto} {fa : Addr} {bs : List Addr} {F F' : DD} {σ σ' : L2.St} {fp fl : XF} {D : Ends} {w : P} {l : Nat} {kvs : List (P × P)} {ρ : Env}
end
end XL
end
section
set_option Elab.async false
set_option linter.all false
set_option maxRecDepth 100000
set_option maxHeartbeats 1000000
namespace XL
open PySem L2 PyProof.Rows PySem.W
section
variable {K : PySem.W.Frag} {G Gd m m' : List Addr} {H H' H1 Hb : Hp} {S S' : Sto} {fa : Addr} {bs : List Addr} {F F' : DD} {σ σ' : L2.St} {fp fl : XF} {D : Ends} {w : P} {l : Nat} {kvs : List (P × P)} {ρ : Env}
end
end XL
end
section
set_option Elab.async false
set_option linter.all false
set_option maxRecDepth 100000
set_option maxHeartbeats 1000000
namespace XL
open PySem L2 PyProof.Rows PySem.W
section
variable {X : Cx} {o i e : Expr} {td ty te : TE} {pos tpos : Pos}
end
end XL
end
section
set_option Elab.async false
set_option linter.all false
set_option maxRecDepth 100000
set_option maxHeartbeats 3200000
namespace XL
open PySem L2 PyProof.Rows
section
variable {Pg : Program} {w : World} {A : Around} {E : Value → Shared → Prop} {s : Shared}
theorem setM_callT {l : Addr} {items : Array Value} (kz : List Key) {Q : Value → Shared → Prop} (hh : A.handled = none) (hl : s.heap.IsTuple l items) (hit : items.toList.map keyV = kz.map some) (hb : kz.length + 1 < scanBound)
    (h : ∀ (h' : Heap) (tk : Nat), SetM w h' s.heap.objs.size (addAll kz) → (∀ b o, s.heap.get? b = some o → h'.get? b = some o) → Q (.ref s.heap.objs.size) { s with heap := h', toks := tk }) :
    wpAny (model Pg w) A (call (.type "set") [.ref l]) Q E s := by
  have hsz : items.size = kz.length := by simpa using congrArg List.length hit
  obtain ⟨c, tl, hmro⟩ := F.called_set.mro
  have hmade := F.called_set.made
  have hsub := F.called_set.sub
  refine wpAny_call (codeAny_of_tree ?_)
  refine wpAny_pure ⟨Code.quiet_builtin _ (by decide +kernel), codeAny_builtin F.entry_type_call ?_⟩
  rw [Around.under_plain (weight_type_call_type "set" [.ref l] []) rfl]
  have h1 := F.called_set.notType
  have h2 := F.called_set.canCreate
  have hct := F.typeCall_set_1 (.ref l)
  repeat (any_goals (first | assumption | wp_step))
  refine codeAny_mono (code_set_led1 (.ref l) (E := E) (Q₁ := fun obj s₁ => obj = .ref s.heap.objs.size ∧ s₁ = { s with heap := s.heap.push (emptySet w) }) ⟨rfl, rfl⟩) fun r s₁ hr => ?_
  cases r with
  | error e => exact hr
  | ok fl =>
    cases fl with
    | ret obj =>
      obtain ⟨rfl, rfl⟩ := hr
      have hS : (s.heap.push (emptySet w)).get? s.heap.objs.size = some (emptySet w) := Heap.get?_push_size _ rfl
      have hT : Shared.TypeIs { s with heap := s.heap.push (emptySet w) } (.ref s.heap.objs.size) "set" := ⟨_, hS, rfl⟩
      have hli := F.called_set.init.lookup
      have hbi := F.called_set.init.bind (.ref s.heap.objs.size)
      repeat (any_goals (first | assumption | wp_step))
      refine codeAny_mono (codeAny_call_builtin (R := wants (fun r s₂ => r = .none ∧ ∃ h' tk, s₂ = { s with heap := h', toks := tk } ∧ SetM w h' s.heap.objs.size (addAll kz) ∧ ∀ b o, s.heap.get? b = some o → h'.get? b = some o) E)
        F.called_set.init.plain F.entry_set_init (check_set_init_1 hT ?_)) fun r₂ s₂ hr₂ => ?_
      · obtain ⟨⟨ocls, odict, odata, oslots⟩, hol, hcl, nl, hdl⟩ := hl
        simp only at hcl hdl
        subst hcl hdl
        have hol' : (s.heap.push (emptySet w)).get? l = some { cls := .type "tuple", dict := odict, data := .seq items nl, slots := oslots } := Heap.get?_push_of_some _ hol
        have hsls := F.sub_tuple_set
        have hslf := F.sub_tuple_frozenset
        have hne : (Value.type "tuple" == Value.type "dict") = false := by decide
        have hl1 : (s.heap.push (emptySet w)).IsTuple l items := ⟨_, hol', rfl, nl, rfl⟩
        unfold Builtin.«set.__init__» noKeywords Builtin.Frozenset.updateFrom
        generalize hPI : pyIter = PI
        wp_walk
        subst hPI
        refine wpAny_pyIter_tuple hl1 (wpAny_bind (wpAny_runValue ?_))
        have hlS : l < s.heap.objs.size := Heap.lt_size hol
        have hh3 : A.in1.in1.in1.handled = none := by simp [hh]
        have hp1 : (s.heap.push (emptySet w)).objs.size = s.heap.objs.size + 1 := Heap.size_push ..
        have hneI : l ≠ (s.heap.push (emptySet w)).objs.size := by rw [hp1]; exact Nat.ne_of_lt (Nat.lt_succ_of_lt hlS)
        have hSf : s.heap.objs.size ∉ [(s.heap.push (emptySet w)).objs.size, l] := by
          rw [hp1]
          simp only [List.mem_cons, List.not_mem_nil, or_false, not_or]
          exact ⟨Nat.ne_of_lt (Nat.lt_succ_self _), Nat.ne_of_gt hlS⟩
        have hval : ∀ (i : Nat) (v : Value), items[i]? = some v → ∃ k, kz[i]? = some k ∧ keyV v = some k := fun i v hv => by
          have e1 : (items.toList.map keyV)[i]? = some (keyV v) := by rw [List.getElem?_map, Array.getElem?_toList, hv]; rfl
          rw [hit, List.getElem?_map] at e1
          cases q : kz[i]? with
          | none => rw [q] at e1; cases e1
          | some k => rw [q] at e1; exact ⟨k, rfl, (Option.some.inj e1).symm⟩
        refine setM_loop ((Walks.tuple hh3 _ l hneI items).toS) s.heap.objs.size hSf kz hsz hb hval (items.size - 0) 0 _ (by omega) (Nat.zero_le _) ⟨⟨_, Heap.get?_push_size _ rfl, rfl, rfl⟩, hl1.push _⟩ ?hS0 ?hR
        case hS0 => exact setM_fresh (Heap.get?_push_of_some _ hS)
        case hR =>
          intro s' hm hS'
          obtain ⟨h', g2, d', tk', os'⟩ := s'
          have eg : g2 = s.gens := hm.gens
          have ed : d' = s.drawn := hm.drawn
          have eo : os' = s.os := hm.os
          subst eg ed eo
          refine wpAny_pure (wpAny_pure ⟨rfl, h', tk', rfl, hS', fun b o e => ?_⟩)
          have hb0 : b < s.heap.objs.size := Heap.lt_size e
          refine hm.heap b o ?_ (Heap.get?_push_of_some _ (Heap.get?_push_of_some _ e))
          simp only [hp1, List.mem_cons, List.not_mem_nil, or_false, not_or]
          exact ⟨Nat.ne_of_lt hb0, Nat.ne_of_lt (Nat.lt_succ_of_lt hb0)⟩
      · cases r₂ with
        | error e => exact hr₂
        | ok fl₂ =>
          cases fl₂ with
          | ret r =>
            obtain ⟨rfl, h', tk, rfl, hS', hk'⟩ := hr₂
            repeat (any_goals (first | assumption | wp_step))
            exact h _ _ hS' hk'
          | _ => exact hr₂.elim
    | _ => exact hr.elim
end
end XL
end
section
set_option autoImplicit false
set_option linter.all false
namespace XL
/-- sorted(set(t)), len(set(t)), t a tuple -/
def uSortedSetTt : P → Option R
  | .tup ds => if setOkT ds then some (.frl (sortP (dedupP ds))) else none
  | _ => none
def uSortedSetPt : P → Option R
  | .tup ds => if setOk ds then some (.frl (sortP (dedupP ds))) else none
  | _ => none
def uLenSetPt : P → Option R
  | .tup ds => if setOk ds then some (.p (.int (dedupP ds).length)) else none
  | _ => none
end XL
end
section
set_option Elab.async false
set_option linter.all false
set_option maxRecDepth 100000
set_option maxHeartbeats 1600000
namespace XL
open PySem L2 PyProof.Rows
section
variable {X : Cx} {a : Expr} {xa : XE} {p p2 q pos : Pos}
theorem rd_setPt {pins : List (Addr × Obj)} {σ : L2.St} {H : Hp} {s : Shared} {m : List Addr} {ds : List P} {v : V} {u : Value} (I : Inv X pins σ H s) (h : RdT X.K m H (.tup ds) v) (hc : setOk ds = true) (r : RelV v u) :
    ∃ (l : Addr) (its : Array Value) (kz : List Key), u = .ref l ∧ s.heap.IsTuple l its ∧ its.toList.map keyV = kz.map some ∧ kz.length + 1 < scanBound ∧ ds.map keyP = kz.map some ∧ (∀ a ∈ kz, ∀ b ∈ kz, PySem.W.alike (pdK a) (pdK b) = true) := by
  simp only [RdT, RepP] at h
  obtain ⟨l, ws, rfl, f, q⟩ := h
  unfold setOk at hc
  simp only [Bool.and_eq_true, decide_eq_true_eq] at hc
  obtain ⟨z, its, rv, ob0, eo0, eo1, n, eo2⟩ := (show ObjOk X.prog X.w H s.heap l (.tup ws) from I.hok _ _ f.1)
  cases r
  obtain ⟨kz, e, al⟩ := keys_of hc.1
  have hl : kz.length = ds.length := by simpa using (congrArg List.length e).symm
  exact ⟨l, its.toArray, kz, rfl, ⟨ob0, eo0, eo1, n, eo2⟩, keysV_rep q rv e, by rw [hl]; unfold scanBound; omega, e, al⟩
theorem xe_lenSetPt (hc : X.calm = true) (hg : Gl X "len") (hm : X.mg "len" = none) (hg2 : Gl X "set") (hm2 : X.mg "set" = none) (ha : PE X a (tOf X.K xa))
    (na : starEach [a] X.env = (false, eval a X.env) :: starEach [] X.env := by rfl) : PE X (.Call (.Name "len" p) [.Call (.Name "set" p2) [a] [] q] [] pos) (tOf X.K (xUn uLenSetPt xa)) := by
  refine ⟨fun pins s σ H Q I h => ?_⟩
  refine Call_ (ld_blt I hg hm boot_len ?_)
  refine PyProof.Rows.callWith_builtin1 (PyProof.Rows.args_cons ?_ rfl) rfl rfl
  refine Call_ (ld_blt I hg2 hm2 boot_set ?_)
  refine PyProof.Rows.callWith_type1 (PyProof.Rows.args_cons (thn (ha.run pins s σ H _ I h.un) fun v s1 ⟨x, H1, I1, r1, q1⟩ => PyProof.Rows.args_nil ?_) na) na rfl
  obtain ⟨m, G, S, ps, r', hS, hp, hf, k⟩ := q1
  unfold uLenSetPt at hf
  split at hf
  · rename_i ds
    split at hf
    · rename_i hok
      cases hf
      obtain ⟨l, its, kz, rfl, hl, hk, hb, e, al⟩ := rd_setPt I1 hp hok r1
      refine setM_callT kz (I1.ok.hd hc) hl hk hb fun h' tk hS' hk' => ?_
      refine PyProof.Rows.args_nil ?_
      have I2 : Inv X pins σ H1 { s1 with heap := h', toks := tk } := I1.kept fun b o e => hk' b o e
      have mem := addAll_mem kz
      obtain ⟨o, es, ep, t, kk, ho, hex, hd, hp', pm, nd, hb2, hf2, _, _⟩ := hS'
      have h2 := dedup_len e al nd mem
      have h5 : es.size = (dedupP ds).length := by rw [← h2, ← pm.length_eq, ← paired_len hp', Array.length_toList]
      refine call_len_set ho hex hd hf2 (by unfold scanBound at hb2; omega) ⟨.int es.size, H1, I2.tok _, ⟨_, rfl⟩, k _ H1 (Ext.refl _) (by simp [RepR, RepP, h5]) trivial⟩
    · cases hf
  · cases hf
end
end XL
end
section
set_option Elab.async false
set_option linter.all false
namespace XL
instance : NewU uSortedSetTt := ⟨by intro p r h l e; subst e; unfold uSortedSetTt at h; repeat' split at h; all_goals first | cases h | simp at h⟩
instance : NewU uSortedSetPt := ⟨by intro p r h l e; subst e; unfold uSortedSetPt at h; repeat' split at h; all_goals first | cases h | simp at h⟩
instance : NewU uLenSetPt := ⟨by intro p r h l e; subst e; unfold uLenSetPt at h; repeat' split at h; all_goals first | cases h | simp at h⟩
end XL
end
section
set_option Elab.async false
set_option linter.all false
set_option autoImplicit false
namespace XL
/-- max(t), t a tuple of whole numbers -/
def cMaxT : List P → Option R
  | [.tup ds] => (intsOf ds).bind fun bs => if bs = [] then none else some (.p (.int (maxI bs)))
  | _ => none
instance : NewC cMaxT := ⟨by intro p r h l e; subst e; unfold cMaxT at h; repeat' split at h; all_goals first | cases h | simp [Option.bind_eq_some_iff] at h⟩
end XL
end
section
set_option Elab.async false
set_option linter.all false
set_option maxRecDepth 100000
set_option maxHeartbeats 1600000
namespace XL
open PySem L2 PyProof.Rows
section
variable {prog : Program} {w : World} {A : Around} {E : Value → Shared → Prop} {s : Shared} {l : Addr} {xs : Array (Int × Tok)}
theorem iter_intTup {Q : Value → Shared → Prop} (hl : s.heap.IsTuple l (intItems xs))
    (h : ∀ s₂ : Shared, s₂ = { s with heap := s.heap.push { cls := .type "tuple_iterator", data := .fields #[.ref l, .int 0 0] } } →
      (s₂.heap.IsTupleIter s.heap.objs.size l 0 ∧ s₂.heap.IsTuple l (intItems xs)) → (∀ b ∈ [s.heap.objs.size, l], b < s₂.heap.objs.size) → l ≠ s.heap.objs.size → Q (.ref s.heap.objs.size) s₂) :
    wpAny (model prog w) A (pyIter (.ref l)) Q E s := by
  have hlt : l < s.heap.objs.size := by obtain ⟨_, e, _⟩ := hl; exact Heap.lt_size e
  refine wpAny_pyIter_tuple hl (h _ rfl ⟨⟨_, Heap.get?_push_size _ rfl, rfl, rfl⟩, hl.push _⟩ (fun b hb => ?_) (Nat.ne_of_lt hlt))
  show b < (s.heap.push _).objs.size
  rw [Heap.size_push]
  rcases List.mem_cons.mp hb with rfl | hb
  · exact Nat.lt_succ_self _
  · rcases List.mem_cons.mp hb with rfl | hb
    · exact Nat.lt_succ_of_lt hlt
    · cases hb
theorem old_keptT {h' : Heap} (hk : ∀ b o, b ∉ [s.heap.objs.size] → (s.heap.push { cls := .type "tuple_iterator", data := .fields #[.ref l, .int 0 0] }).get? b = some o → h'.get? b = some o) :
    ∀ b o, s.heap.get? b = some o → h'.get? b = some o := fun b o e => by
  refine hk b o (fun hm => ?_) (Heap.get?_push_of_some _ e)
  rcases List.mem_cons.mp hm with e1 | hm
  · exact absurd (e1 ▸ Heap.lt_size e) (Nat.lt_irrefl _)
  · cases hm
theorem max_intTup {Q : Value → Shared → Prop} (hh : A.handled = none) (hl : s.heap.IsTuple l (intItems xs)) (hne : 0 < xs.size)
    (h : ∀ v h' tk, (intItems xs)[argBest (fun i j => decide (numAt xs i > numAt xs j)) (xs.size - 1)]? = some v → (∀ b o, s.heap.get? b = some o → h'.get? b = some o) → Q v { s with heap := h', toks := tk }) :
    wpAny (model prog w) A (call (.builtin "max") [.ref l]) Q E s := by
  refine call_max_walk (iter_intTup hl fun s₂ e st hfp hlI => ?_)
  subst e
  refine ⟨_, _, _, _, _, _, _, rfl, Walks.tuple (A := A.in1) hh _ l hlI (intItems xs), st, hfp, by simpa [intItems] using hne, CmpOf.ints_gt (numAt xs) (fun _ _ => intItems_at), fun v h' tk hP hk => ?_⟩
  exact h v h' tk (by simpa [intItems] using hP) (old_keptT hk)
theorem max_rawT {its : List Value} {ns : List Int} {Q : Value → Shared → Prop} (hh : A.handled = none) (hl : s.heap.IsTuple l its.toArray) (hi : IntsAre its ns) (hne : 0 < ns.length)
    (h : ∀ h' tk M t', (∀ b o, s.heap.get? b = some o → h'.get? b = some o) → M ∈ ns → (∀ a, a ∈ ns → a ≤ M) → Q (.int M t') { s with heap := h', toks := tk }) : wpAny (model prog w) A (call (.builtin "max") [.ref l]) Q E s := by
  obtain ⟨xs, e⟩ := hi.allInts.items
  have hn : numsOf (intItems xs).toList = ns := by rw [← e]; exact hi.numsOf
  rw [nums_intItems] at hn
  subst hn
  rw [e] at hl
  have hsz : 0 < xs.size := by simpa using hne
  refine max_intTup hh hl hsz fun v h' tk hv hk => ?_
  obtain ⟨t, rfl⟩ := intItems_at hv
  obtain ⟨h1, h2⟩ := argBest_gt (numAt xs) (xs.size - 1)
  refine h h' tk _ t hk ?_ fun a ha => ?_
  · rw [numAt_eq]; exact PySem.getD_mem (by rw [List.length_map, Array.length_toList]; omega)
  · obtain ⟨j, hj, rfl⟩ := mem_getD ha
    rw [List.length_map, Array.length_toList] at hj
    rw [← numAt_eq]; exact h2 j (by omega)
end
section
variable {X : Cx}
theorem cr_maxT (hc : X.calm = true) : CallR X (.builtin "max") (cOf X.K cMaxT) := by
  intro pins s σ H vs us Q I r h
  obtain ⟨m, G, S, ps, r0, hS, hp, hf, k⟩ := h
  unfold cMaxT at hf
  split at hf
  · simp only [Option.bind_eq_some_iff] at hf
    obtain ⟨bs, hb, e⟩ := hf
    split at e
    · cases e
    · rename_i hne
      cases e
      obtain ⟨v, rfl, a, ws, rfl, f, rr⟩ := one_arg hp
      have e := ints_v hb rr
      subst e
      obtain ⟨s1, s2⟩ := maxI_spec bs hne
      obtain ⟨z, its, rv, ob0, eo0, eo1, n, eo2⟩ := (show ObjOk X.prog X.w H s.heap a (.tup (bs.map V.int)) from I.hok _ _ f.1)
      rw [Vals.ref1 r]
      refine max_rawT (I.ok.hd hc) ⟨ob0, eo0, eo1, n, eo2⟩ rv.ints (List.length_pos_iff.mpr hne) fun h' tk M t' hk h1 h2 => ?_
      have : M = maxI bs := Int.le_antisymm (s2 M h1) (h2 _ s1)
      subst this
      exact ⟨.int _, H, I.kept hk, ⟨_, rfl⟩, k _ H (Ext.refl _) (by simp [RepR, RepP]) trivial⟩
  · cases hf
end
end XL
end
section
set_option Elab.async false
set_option linter.all false
set_option maxRecDepth 100000
set_option maxHeartbeats 4000000
set_option synthInstance.maxSize 100000
set_option synthInstance.maxHeartbeats 4000000
namespace XL
def c_LETTERS : List Nat := [66, 68, 70, 77, 79, 83, 98, 100, 101, 102, 109, 111, 115]
def t_CONVERSES : Tab := [([98], (.str [66])), ([109], (.str [77])), ([111], (.str [79])), ([115], (.str [83])), ([100], (.str [68])), ([102], (.str [70])), ([101], (.str [101]))]
/-- _law_town(script); slots: script -/
def b_law_town : XS :=
  (xRet (xBin pAdd (xLst (xCons (xC (.int 0)) xNil)) (xCall cListA (xCons (xVar 0) xNil))))
abbrev f_law_town : XF := mkF 1 1 b_law_town
instance : LocS b_law_town := by unfold b_law_town; infer_instance
/-- _law_draw(script, town, limit); slots: script town limit at left number -/
def b_law_draw : XS :=
  (xSeq (xPutL (xBin pAdd (xBin pIx (xVar 1) (xC (.int 0))) (xC (.int 1))) (xVar 1) (xC (.int 0)))
    (xSeq (xIfS (xB (xBin pEq (xVar 0) (xLst xNil)))
    (xRet (xBin pMod (xBin pDiv (xBin pMul (xBin pMul (xBin pIx (xVar 1) (xC (.int 0))) (xBin pIx (xVar 1) (xC (.int 0)))) (xC (.int 7))) (xC (.int 3))) (xVar 2)))
    xPass)
    (xSeq (xSet 3 (xBin pMod (xBin pIx (xVar 1) (xC (.int 0))) (xCall cLen (xCons (xVar 0) xNil))))
    (xSeq (xSet 4 (xBin pIx (xVar 1) (xBin pAdd (xC (.int 1)) (xVar 3))))
    (xSeq (xIfS (xTand (xB (xBin pGe (xBin pIx (xVar 0) (xVar 3)) (xBin pPow (xC (.int 10)) (xC (.int 18))))) (xB (xBin pGt (xVar 4) (xC (.int 0)))))
    (xSeq (xPutL (xBin pDiv (xVar 4) (xVar 2)) (xVar 1) (xBin pAdd (xC (.int 1)) (xVar 3)))
    (xRet (xBin pMod (xVar 4) (xVar 2))))
    xPass)
    (xSeq (xSet 5 (xBin pMod (xBin pAdd (xBin pIx (xVar 0) (xVar 3)) (xBin pMul (xC (.int 104729)) (xBin pIx (xVar 1) (xC (.int 0))))) (xC (.int 4294967291))))
    (xSeq (xSet 5 (xBin pMod (xBin pPow (xVar 5) (xC (.int 5))) (xC (.int 4294967279))))
    (xRet (xBin pMod (xBin pDiv (xBin pMod (xBin pAdd (xBin pMul (xBin pDiv (xVar 5) (xC (.int 64))) (xC (.int 69621))) (xVar 5)) (xC (.int 4294967231))) (xC (.int 8))) (xVar 2))))))))))
abbrev f_law_draw : XF := mkF 3 6 b_law_draw
instance : LocS b_law_draw := by unfold b_law_draw; infer_instance
/-- _law_scene(script, town, spans, far); slots: script town spans far found k begin -/
def b_law_scene : XS :=
  (xSeq (xSet 4 (xLst xNil))
    (xSeq (xFor (xRng1 (xVar 2)) (.nm 5)
    (xSeq (xSet 6 (xDef f_law_draw (xConsD (xVar 0) (xConsD (xVar 1) (xConsD (xVar 3) xNilD)))))
    (xDrop (xApp (xVar 4) (xTup (xCons (xVar 6) (xCons (xBin pAdd (xBin pAdd (xVar 6) (xC (.int 1))) (xDef f_law_draw (xConsD (xVar 0) (xConsD (xVar 1) (xConsD (xVar 3) xNilD))))) xNil)))))))
    (xRet (xCall cTuple (xCons (xVar 4) xNil)))))
abbrev f_law_scene : XF := mkF 4 7 b_law_scene
instance : LocS b_law_scene := by unfold b_law_scene; infer_instance
/-- _law_pick(script, town, choices); slots: script town choices -/
def b_law_pick : XS :=
  (xRet (xBin pIx (xVar 2) (xDef f_law_draw (xConsD (xVar 0) (xConsD (xVar 1) (xConsD (xCall cLen (xCons (xVar 2) xNil)) xNilD))))))
abbrev f_law_pick : XF := mkF 3 3 b_law_pick
instance : LocS b_law_pick := by unfold b_law_pick; infer_instance
/-- is_between(value, low, high); slots: value low high -/
def b_is_between : XS :=
  (xRet (xAnd (xUn (pIsi isiInt) (xVar 0)) (xAnd (xNot (xUn (pIsi isiBool) (xVar 0))) (xChain pLe pLe (xVar 1) (xVar 0) (xVar 2)))))
abbrev f_is_between : XF := mkF 3 3 b_is_between
instance : LocS b_is_between := by unfold b_is_between; infer_instance
/-- is_scene(value); slots: value span -/
def b_is_scene : XS :=
  (xSeq (xIfS (xTor (xTnot (xB (xUn (pIsi isiTuple) (xVar 0)))) (xTnot (xB (xChain pLe pLe (xC (.int 1)) (xCall cLen (xCons (xVar 0) xNil)) (xC (.int 5))))))
    (xRet (xC (.bl false)))
    xPass)
    (xSeq (xFor (xItA (xVar 0)) (.nm 1)
    (xSeq (xIfS (xTor (xTnot (xB (xUn (pIsi isiTuple) (xVar 1)))) (xTor (xB (xBin pNe (xCall cLen (xCons (xVar 1) xNil)) (xC (.int 2)))) (xTnot (xB (xDef f_is_between (xConsD (xBin pIx (xVar 1) (xC (.int 0))) (xConsD (xUn pNeg (xC (.int 1000))) (xConsD (xC (.int 1000)) xNilD))))))))
    (xRet (xC (.bl false)))
    xPass)
    (xIfS (xTnot (xB (xDef f_is_between (xConsD (xBin pIx (xVar 1) (xC (.int 1))) (xConsD (xBin pAdd (xBin pIx (xVar 1) (xC (.int 0))) (xC (.int 1))) (xConsD (xC (.int 1000)) xNilD))))))
    (xRet (xC (.bl false)))
    xPass)))
    (xRet (xC (.bl true)))))
abbrev f_is_scene : XF := mkF 1 2 b_is_scene
instance : LocS b_is_scene := by unfold b_is_scene; infer_instance
/-- check_scene(scene); slots: scene -/
def b_check_scene : XS :=
  (xIfS (xTnot (xB (xDef f_is_scene (xConsD (xVar 0) xNilD))))
    xNever
    xPass)
abbrev f_check_scene : XF := mkF 1 1 b_check_scene
instance : LocS b_check_scene := by unfold b_check_scene; infer_instance
/-- found_form(scene); slots: scene ends span end begin -/
def b_found_form : XS :=
  (xSeq (xSet 1 (xUn uSortedSet (xLc2 (xItA (xVar 0)) (.nm 2) xTyes (xItA (xVar 2)) (.nm 3) xTyes
      (xVar 3) [2, 3] [3])))
    (xRet (xCall cTuple (xCons (xLc (xItA (xVar 0)) (.tp [4, 3]) xTyes
      (xTup (xCons (xMeth .lst mIndex (xVar 1) (xCons (xVar 4) xNil)) (xCons (xMeth .lst mIndex (xVar 1) (xCons (xVar 3) xNil)) xNil))) [4, 3]) xNil))))
abbrev f_found_form : XF := mkF 1 5 b_found_form
instance : LocS b_found_form := by unfold b_found_form; infer_instance
/-- form_of(scene); slots: scene -/
def b_form_of : XS :=
  (xSeq (xDrop (xDef f_check_scene (xConsD (xVar 0) xNilD)))
    (xRet (xDef f_found_form (xConsD (xVar 0) xNilD))))
abbrev f_form_of : XF := mkF 1 1 b_form_of
instance : LocS b_form_of := by unfold b_form_of; infer_instance
/-- _law_normal(scene); slots: scene ends span -/
def b_law_normal : XS :=
  (xSeq (xSet 1 (xUn uSortedSet (xBin pAdd (xLc (xItA (xVar 0)) (.nm 2) xTyes
      (xBin pIx (xVar 2) (xC (.int 0))) [2]) (xLc (xItA (xVar 0)) (.nm 2) xTyes
      (xBin pIx (xVar 2) (xC (.int 1))) [2]))))
    (xRet (xCall cTuple (xCons (xLc (xItA (xVar 0)) (.nm 2) xTyes
      (xTup (xCons (xMeth .lst mIndex (xVar 1) (xCons (xBin pIx (xVar 2) (xC (.int 0))) xNil)) (xCons (xMeth .lst mIndex (xVar 1) (xCons (xBin pIx (xVar 2) (xC (.int 1))) xNil)) xNil))) [2]) xNil))))
abbrev f_law_normal : XF := mkF 1 3 b_law_normal
instance : LocS b_law_normal := by unfold b_law_normal; infer_instance
/-- is_form(value); slots: value -/
def b_is_form : XS :=
  (xRet (xAnd (xDef f_is_scene (xConsD (xVar 0) xNilD)) (xBin pEq (xDef f_found_form (xConsD (xVar 0) xNilD)) (xVar 0))))
abbrev f_is_form : XF := mkF 1 1 b_is_form
instance : LocS b_is_form := by unfold b_is_form; infer_instance
/-- letter_of(one, other); slots: one other -/
def b_letter_of : XS :=
  (xSeq (xIfS (xB (xBin pLe (xBin pIx (xVar 0) (xC (.int 1))) (xBin pIx (xVar 1) (xC (.int 0)))))
    (xRet (xIf (xB (xBin pEq (xBin pIx (xVar 0) (xC (.int 1))) (xBin pIx (xVar 1) (xC (.int 0))))) (xC (.str [109])) (xC (.str [98]))))
    xPass)
    (xSeq (xIfS (xB (xBin pLe (xBin pIx (xVar 1) (xC (.int 1))) (xBin pIx (xVar 0) (xC (.int 0)))))
    (xRet (xIf (xB (xBin pEq (xBin pIx (xVar 1) (xC (.int 1))) (xBin pIx (xVar 0) (xC (.int 0))))) (xC (.str [77])) (xC (.str [66]))))
    xPass)
    (xSeq (xIfS (xB (xBin pEq (xBin pIx (xVar 0) (xC (.int 0))) (xBin pIx (xVar 1) (xC (.int 0)))))
    (xRet (xIf (xB (xBin pEq (xBin pIx (xVar 0) (xC (.int 1))) (xBin pIx (xVar 1) (xC (.int 1))))) (xC (.str [101])) (xIf (xB (xBin pLt (xBin pIx (xVar 0) (xC (.int 1))) (xBin pIx (xVar 1) (xC (.int 1))))) (xC (.str [115])) (xC (.str [83])))))
    xPass)
    (xSeq (xIfS (xB (xBin pEq (xBin pIx (xVar 0) (xC (.int 1))) (xBin pIx (xVar 1) (xC (.int 1)))))
    (xRet (xIf (xB (xBin pGt (xBin pIx (xVar 0) (xC (.int 0))) (xBin pIx (xVar 1) (xC (.int 0))))) (xC (.str [102])) (xC (.str [70]))))
    xPass)
    (xSeq (xIfS (xB (xBin pLt (xBin pIx (xVar 0) (xC (.int 0))) (xBin pIx (xVar 1) (xC (.int 0)))))
    (xRet (xIf (xB (xBin pLt (xBin pIx (xVar 0) (xC (.int 1))) (xBin pIx (xVar 1) (xC (.int 1))))) (xC (.str [111])) (xC (.str [68]))))
    xPass)
    (xRet (xIf (xB (xBin pLt (xBin pIx (xVar 0) (xC (.int 1))) (xBin pIx (xVar 1) (xC (.int 1))))) (xC (.str [100])) (xC (.str [79])))))))))
abbrev f_letter_of : XF := mkF 2 2 b_letter_of
instance : LocS b_letter_of := by unfold b_letter_of; infer_instance
/-- way_of(scene, i, j); slots: scene i j -/
def b_way_of : XS :=
  (xSeq (xDrop (xDef f_check_scene (xConsD (xVar 0) xNilD)))
    (xSeq (xIfS (xTor (xTnot (xB (xDef f_is_between (xConsD (xVar 1) (xConsD (xC (.int 0)) (xConsD (xBin pSub (xCall cLen (xCons (xVar 0) xNil)) (xC (.int 1))) xNilD)))))) (xTnot (xB (xDef f_is_between (xConsD (xVar 2) (xConsD (xC (.int 0)) (xConsD (xBin pSub (xCall cLen (xCons (xVar 0) xNil)) (xC (.int 1))) xNilD)))))))
    xNever
    xPass)
    (xRet (xDef f_letter_of (xConsD (xBin pIx (xVar 0) (xVar 1)) (xConsD (xBin pIx (xVar 0) (xVar 2)) xNilD))))))
abbrev f_way_of : XF := mkF 3 3 b_way_of
instance : LocS b_way_of := by unfold b_way_of; infer_instance
/-- _law_letter(one, other); slots: one other first last -/
def b_law_letter : XS :=
  (xSeq (xIfS (xTor (xB (xBin pLt (xBin pIx (xVar 0) (xC (.int 1))) (xBin pIx (xVar 1) (xC (.int 0))))) (xB (xBin pLt (xBin pIx (xVar 1) (xC (.int 1))) (xBin pIx (xVar 0) (xC (.int 0))))))
    (xRet (xIf (xB (xBin pLt (xBin pIx (xVar 0) (xC (.int 1))) (xBin pIx (xVar 1) (xC (.int 0))))) (xC (.str [98])) (xC (.str [66]))))
    xPass)
    (xSeq (xIfS (xTor (xB (xBin pEq (xBin pIx (xVar 0) (xC (.int 1))) (xBin pIx (xVar 1) (xC (.int 0))))) (xB (xBin pEq (xBin pIx (xVar 1) (xC (.int 1))) (xBin pIx (xVar 0) (xC (.int 0))))))
    (xRet (xIf (xB (xBin pEq (xBin pIx (xVar 0) (xC (.int 1))) (xBin pIx (xVar 1) (xC (.int 0))))) (xC (.str [109])) (xC (.str [77]))))
    xPass)
    (xSeq (xSet 2 (xBin pSub (xBin pAdd (xC (.int 1)) (xCall cInt (xCons (xBin pGt (xBin pIx (xVar 0) (xC (.int 0))) (xBin pIx (xVar 1) (xC (.int 0)))) xNil))) (xCall cInt (xCons (xBin pLt (xBin pIx (xVar 0) (xC (.int 0))) (xBin pIx (xVar 1) (xC (.int 0)))) xNil))))
    (xSeq (xSet 3 (xBin pSub (xBin pAdd (xC (.int 1)) (xCall cInt (xCons (xBin pGt (xBin pIx (xVar 0) (xC (.int 1))) (xBin pIx (xVar 1) (xC (.int 1)))) xNil))) (xCall cInt (xCons (xBin pLt (xBin pIx (xVar 0) (xC (.int 1))) (xBin pIx (xVar 1) (xC (.int 1)))) xNil))))
    (xRet (xBin pIx (xBin pIx (xTup (xCons (xC (.str [111, 70, 68])) (xCons (xC (.str [115, 101, 83])) (xCons (xC (.str [100, 102, 79])) xNil)))) (xVar 2)) (xVar 3)))))))
abbrev f_law_letter : XF := mkF 2 4 b_law_letter
instance : LocS b_law_letter := by unfold b_law_letter; infer_instance
/-- is_ways(value); slots: value letter -/
def b_is_ways : XS :=
  (xSeq (xIfS (xTor (xTnot (xB (xUn (pIsi isiStr) (xVar 0)))) (xB (xBin pEq (xVar 0) (xC (.str [])))))
    (xRet (xC (.bl false)))
    xPass)
    (xRet (xBin pEq (xMeth .str mJoin (xC (.str [])) (xCons (xLc (xItA (xC (.str c_LETTERS))) (.nm 1) (xB (xBin pIn (xVar 1) (xVar 0)))
      (xVar 1) [1]) xNil)) (xVar 0))))
abbrev f_is_ways : XF := mkF 1 2 b_is_ways
instance : LocS b_is_ways := by unfold b_is_ways; infer_instance
/-- check_ways(ways); slots: ways -/
def b_check_ways : XS :=
  (xIfS (xTnot (xB (xDef f_is_ways (xConsD (xVar 0) xNilD))))
    xNever
    xPass)
abbrev f_check_ways : XF := mkF 1 1 b_check_ways
instance : LocS b_check_ways := by unfold b_check_ways; infer_instance
/-- turned(ways); slots: ways some letter -/
def b_turned : XS :=
  (xSeq (xSet 1 (xLc (xItA (xVar 0)) (.nm 2) xTyes
      (xIf (xB (xUn (tabIn t_CONVERSES) (xVar 2))) (xUn (tabGet t_CONVERSES) (xVar 2)) (xMeth .str mLower (xVar 2) xNil)) [2]))
    (xRet (xMeth .str mJoin (xC (.str [])) (xCons (xCall cSorted (xCons (xVar 1) xNil)) xNil))))
abbrev f_turned : XF := mkF 1 3 b_turned
instance : LocS b_turned := by unfold b_turned; infer_instance
/-- converse(ways); slots: ways -/
def b_converse : XS :=
  (xSeq (xDrop (xDef f_check_ways (xConsD (xVar 0) xNilD)))
    (xRet (xDef f_turned (xConsD (xVar 0) xNilD))))
abbrev f_converse : XF := mkF 1 1 b_converse
instance : LocS b_converse := by unfold b_converse; infer_instance
/-- law(script); slots: script town spans scene other later ends i by times all_ways others j letter begin end span -/
def b_law_k02 : XS :=
  (xSeq (xSet 1 (xDef f_law_town (xConsD (xVar 0) xNilD)))
    (xSeq (xSet 2 (xBin pAdd (xC (.int 1)) (xDef f_law_draw (xConsD (xVar 0) (xConsD (xVar 1) (xConsD (xC (.int 5)) xNilD))))))
    (xSeq (xSet 3 (xDef f_law_scene (xConsD (xVar 0) (xConsD (xVar 1) (xConsD (xVar 2) (xConsD (xDef f_law_pick (xConsD (xVar 0) (xConsD (xVar 1) (xConsD (xLst (xCons (xC (.int 2)) (xCons (xC (.int 4)) (xCons (xC (.int 30)) xNil)))) xNilD)))) xNilD))))))
    (xSeq (xSet 4 (xDef f_law_scene (xConsD (xVar 0) (xConsD (xVar 1) (xConsD (xVar 2) (xConsD (xC (.int 2)) xNilD))))))
    (xSeq (xPar [8, 9] (xConsB (xBin pSub (xDef f_law_draw (xConsD (xVar 0) (xConsD (xVar 1) (xConsD (xC (.int 99)) xNilD)))) (xC (.int 50))) (xConsB (xBin pAdd (xC (.int 1)) (xDef f_law_draw (xConsD (xVar 0) (xConsD (xVar 1) (xConsD (xC (.int 9)) xNilD))))) xNilD)))
    (xSeq (xSet 5 (xCall cTuple (xCons (xLc (xItA (xVar 3)) (.tp [14, 15]) xTyes
      (xTup (xCons (xBin pAdd (xBin pMul (xVar 14) (xVar 9)) (xVar 8)) (xCons (xBin pAdd (xBin pMul (xVar 15) (xVar 9)) (xVar 8)) xNil))) [14, 15]) xNil)))
    (xSeq (xIfS (xTor (xB (xBin pNe (xDef f_form_of (xConsD (xVar 3) xNilD)) (xDef f_law_normal (xConsD (xVar 3) xNilD)))) (xTor (xB (xBin pNe (xDef f_form_of (xConsD (xVar 5) xNilD)) (xDef f_form_of (xConsD (xVar 3) xNilD)))) (xB (xBin pIsNot (xDef f_is_form (xConsD (xDef f_form_of (xConsD (xVar 3) xNilD)) xNilD)) (xC (.bl true))))))
    (xRet (xC (.bl false)))
    xPass)
    (xSeq (xSet 6 (xUn uSortedSet (xBin pAdd (xLc (xItA (xDef f_form_of (xConsD (xVar 3) xNilD))) (.nm 16) xTyes
      (xBin pIx (xVar 16) (xC (.int 0))) [16]) (xLc (xItA (xDef f_form_of (xConsD (xVar 3) xNilD))) (.nm 16) xTyes
      (xBin pIx (xVar 16) (xC (.int 1))) [16]))))
    (xSeq (xIfS (xB (xBin pNe (xVar 6) (xUn uListRng (xCall cLen (xCons (xVar 6) xNil)))))
    (xRet (xC (.bl false)))
    xPass)
    (xSeq (xPar [10, 11] (xConsB (xLst xNil) (xConsB (xLst xNil) xNilD)))
    (xSeq (xFor (xRng1 (xVar 2)) (.nm 7)
    (xFor (xRng1 (xVar 2)) (.nm 12)
    (xSeq (xSet 13 (xDef f_way_of (xConsD (xVar 3) (xConsD (xVar 7) (xConsD (xVar 12) xNilD)))))
    (xSeq (xIfS (xTor (xB (xBin pNe (xVar 13) (xDef f_law_letter (xConsD (xBin pIx (xVar 3) (xVar 7)) (xConsD (xBin pIx (xVar 3) (xVar 12)) xNilD))))) (xB (xBin pNe (xVar 13) (xDef f_way_of (xConsD (xVar 5) (xConsD (xVar 7) (xConsD (xVar 12) xNilD)))))))
    (xRet (xC (.bl false)))
    xPass)
    (xSeq (xIfS (xTor (xB (xBin pNe (xDef f_way_of (xConsD (xVar 3) (xConsD (xVar 12) (xConsD (xVar 7) xNilD)))) (xDef f_converse (xConsD (xVar 13) xNilD)))) (xTand (xB (xBin pEq (xVar 7) (xVar 12))) (xB (xBin pNe (xVar 13) (xC (.str [101]))))))
    (xRet (xC (.bl false)))
    xPass)
    (xSeq (xDrop (xApp (xVar 10) (xVar 13)))
    (xDrop (xApp (xVar 11) (xDef f_way_of (xConsD (xVar 4) (xConsD (xVar 7) (xConsD (xVar 12) xNilD))))))))))))
    (xRet (xBin pEq (xBin pEq (xVar 10) (xVar 11)) (xBin pEq (xDef f_form_of (xConsD (xVar 4) xNilD)) (xDef f_form_of (xConsD (xVar 3) xNilD))))))))))))))))
instance : LocS b_law_k02 := by unfold b_law_k02; infer_instance
end XL
end
section
set_option Elab.async false
set_option linter.all false
set_option maxRecDepth 100000
set_option maxHeartbeats 4000000
set_option synthInstance.maxSize 100000
set_option synthInstance.maxHeartbeats 4000000
namespace XL
def t_COMPOSED : Tab := [([66], (.str [66, 32, 66, 32, 66, 32, 66, 32, 66, 32, 66, 32, 66, 68, 70, 77, 79, 83, 98, 100, 101, 102, 109, 111, 115, 32, 66, 77, 79, 100, 102, 32, 66, 32, 66, 32, 66, 77, 79, 100, 102, 32, 66, 77, 79, 100, 102, 32, 66, 77, 79, 100, 102])), ([68], (.str [66, 68, 77, 79, 83, 32, 68, 32, 68, 32, 68, 79, 83, 32, 68, 79, 83, 32, 68, 32, 68, 70, 98, 109, 111, 32, 68, 70, 79, 83, 100, 101, 102, 111, 115, 32, 68, 32, 68, 79, 83, 32, 68, 70, 111, 32, 68, 70, 111, 32, 68, 70, 111])), ([70], (.str [66, 68, 77, 79, 83, 32, 68, 32, 70, 32, 68, 79, 83, 32, 68, 79, 83, 32, 68, 32, 98, 32, 100, 111, 115, 32, 70, 32, 70, 101, 102, 32, 109, 32, 111, 32, 111])), ([77], (.str [66, 32, 66, 32, 77, 32, 66, 32, 66, 32, 66, 32, 68, 70, 98, 109, 111, 32, 79, 100, 102, 32, 77, 32, 77, 32, 83, 101, 115, 32, 79, 100, 102, 32, 79, 100, 102])), ([79], (.str [66, 32, 66, 68, 77, 79, 83, 32, 68, 79, 83, 32, 66, 32, 66, 77, 79, 32, 66, 77, 79, 32, 68, 70, 98, 109, 111, 32, 79, 100, 102, 32, 79, 32, 79, 32, 68, 70, 111, 32, 68, 70, 79, 83, 100, 101, 102, 111, 115, 32, 79, 100, 102])), ([83], (.str [66, 32, 68, 32, 68, 32, 77, 32, 79, 32, 83, 32, 68, 70, 98, 109, 111, 32, 79, 100, 102, 32, 83, 32, 79, 32, 68, 70, 111, 32, 68, 70, 111, 32, 83, 101, 115])), ([98], (.str [66, 68, 70, 77, 79, 83, 98, 100, 101, 102, 109, 111, 115, 32, 98, 32, 98, 32, 98, 100, 109, 111, 115, 32, 98, 100, 109, 111, 115, 32, 98, 32, 98, 32, 98, 100, 109, 111, 115, 32, 98, 32, 98, 100, 109, 111, 115, 32, 98, 32, 98, 32, 98])), ([100], (.str [66, 32, 66, 68, 70, 77, 79, 83, 98, 100, 101, 102, 109, 111, 115, 32, 98, 100, 109, 111, 115, 32, 66, 32, 66, 77, 79, 100, 102, 32, 66, 77, 79, 100, 102, 32, 98, 32, 100, 32, 100, 32, 100, 32, 98, 32, 98, 100, 109, 111, 115, 32, 100])), ([101], (.str [66, 32, 68, 32, 70, 32, 77, 32, 79, 32, 83, 32, 98, 32, 100, 32, 101, 32, 102, 32, 109, 32, 111, 32, 115])), ([102], (.str [66, 32, 66, 68, 77, 79, 83, 32, 70, 101, 102, 32, 66, 32, 66, 77, 79, 32, 66, 77, 79, 32, 98, 32, 100, 32, 102, 32, 102, 32, 109, 32, 100, 111, 115, 32, 100])), ([109], (.str [66, 68, 77, 79, 83, 32, 98, 32, 98, 32, 70, 101, 102, 32, 100, 111, 115, 32, 109, 32, 98, 32, 100, 111, 115, 32, 109, 32, 100, 111, 115, 32, 98, 32, 98, 32, 109])), ([111], (.str [66, 68, 77, 79, 83, 32, 68, 70, 98, 109, 111, 32, 98, 109, 111, 32, 68, 79, 83, 32, 68, 70, 79, 83, 100, 101, 102, 111, 115, 32, 68, 70, 111, 32, 98, 32, 100, 111, 115, 32, 111, 32, 100, 111, 115, 32, 98, 32, 98, 109, 111, 32, 111])), ([115], (.str [66, 32, 68, 70, 98, 109, 111, 32, 98, 109, 111, 32, 77, 32, 79, 100, 102, 32, 83, 101, 115, 32, 98, 32, 100, 32, 115, 32, 100, 32, 98, 32, 98, 109, 111, 32, 115]))]
/-- _law_forms(spans); slots: spans begin k every rows later row end one -/
def b_law_forms : XS :=
  (xSeq (xPar [3, 4] (xConsB (xLst xNil) (xConsB (xLst (xCons (xTup xNil) xNil)) xNilD)))
    (xSeq (xFor (xRng1 (xBin pMul (xC (.int 2)) (xVar 0))) (.nm 1)
    (xSet 3 (xBin pAdd (xVar 3) (xLc (xRng2 (xBin pAdd (xVar 1) (xC (.int 1))) (xBin pMul (xC (.int 2)) (xVar 0))) (.nm 7) xTyes
      (xTup (xCons (xVar 1) (xCons (xVar 7) xNil))) [7]))))
    (xSeq (xFor (xRng1 (xVar 0)) (.nm 2)
    (xSeq (xSet 5 (xLst xNil))
    (xSeq (xFor (xItA (xVar 4)) (.nm 6)
    (xSet 5 (xBin pAdd (xVar 5) (xLc (xItA (xVar 3)) (.nm 8) xTyes
      (xBin pAdd (xVar 6) (xTup (xCons (xVar 8) xNil))) [8]))))
    (xSet 4 (xVar 5)))))
    (xRet (xLc (xItA (xVar 4)) (.nm 6) (xB (xBin pEq (xDef f_law_normal (xConsD (xVar 6) xNilD)) (xVar 6)))
      (xVar 6) [6])))))
abbrev f_law_forms : XF := mkF 1 9 b_law_forms
instance : LocS b_law_forms := by unfold b_law_forms; infer_instance
/-- composition(first, second); slots: first second found one row other letter -/
def b_composition : XS :=
  (xSeq (xSet 2 (xNewD false))
    (xSeq (xFor (xItA (xVar 0)) (.nm 3)
    (xSeq (xSet 4 (xMeth .str mSplit (xUn (tabGet t_COMPOSED) (xVar 3)) (xCons (xC (.str [32])) xNil)))
    (xSeq (xFor (xItA (xVar 1)) (.nm 5)
    (xFor (xItA (xBin pIx (xVar 4) (xMeth .str mIndexL (xC (.str c_LETTERS)) (xCons (xVar 5) xNil)))) (.nm 6)
    (xPutD (xC (.bl true)) (xVar 2) (xVar 6))))
    (xIfS (xB (xBin pEq (xLenD (xVar 2)) (xCall cLen (xCons (xC (.str c_LETTERS)) xNil))))
    (xRet (xC (.str c_LETTERS)))
    xPass))))
    (xRet (xMeth .str mJoin (xC (.str [])) (xCons (xSortedD (xVar 2)) xNil)))))
abbrev f_composition : XF := mkF 2 7 b_composition
instance : LocS b_composition := by unfold b_composition; infer_instance
/-- composed(first, second); slots: first second -/
def b_composed : XS :=
  (xSeq (xDrop (xDef f_check_ways (xConsD (xVar 0) xNilD)))
    (xSeq (xDrop (xDef f_check_ways (xConsD (xVar 1) xNilD)))
    (xRet (xDef f_composition (xConsD (xVar 0) (xConsD (xVar 1) xNilD))))))
abbrev f_composed : XF := mkF 2 2 b_composed
instance : LocS b_composed := by unfold b_composed; infer_instance
/-- _law_some(script, town); slots: script town every way_many k -/
def b_law_some : XS :=
  (xSeq (xPar [2, 3] (xConsB (xCall cListA (xCons (xC (.str [66, 68, 70, 77, 79, 83, 98, 100, 101, 102, 109, 111, 115])) xNil)) (xConsB (xDef f_law_pick (xConsD (xVar 0) (xConsD (xVar 1) (xConsD (xLst (xCons (xC (.int 1)) (xCons (xC (.int 1)) (xCons (xC (.int 2)) (xCons (xC (.int 3)) (xCons (xC (.int 4)) (xCons (xC (.int 6)) (xCons (xC (.int 9)) (xCons (xC (.int 12)) (xCons (xC (.int 13)) xNil)))))))))) xNilD)))) xNilD)))
    (xRet (xMeth .str mJoin (xC (.str [])) (xCons (xUn uSortedSet (xLc (xRng1 (xVar 3)) (.nm 4) xTyes
      (xDef f_law_pick (xConsD (xVar 0) (xConsD (xVar 1) (xConsD (xVar 2) xNilD)))) [4])) xNil))))
abbrev f_law_some : XF := mkF 2 5 b_law_some
instance : LocS b_law_some := by unfold b_law_some; infer_instance
/-- law(script); slots: script town due form found both first second third k -/
def b_law_k03 : XS :=
  (xSeq (xSet 1 (xDef f_law_town (xConsD (xVar 0) xNilD)))
    (xSeq (xUnpL [6, 7, 8] (xLc (xRng1 (xC (.int 3))) (.nm 9) xTyes
      (xDef f_law_some (xConsD (xVar 0) (xConsD (xVar 1) xNilD))) [9]))
    (xSeq (xSet 2 (xNewD false))
    (xSeq (xFor (xItA (xDef f_law_forms (xConsD (xC (.int 3)) xNilD))) (.nm 3)
    (xIfS (xTand (xB (xBin pIn (xDef f_law_letter (xConsD (xBin pIx (xVar 3) (xC (.int 0))) (xConsD (xBin pIx (xVar 3) (xC (.int 1))) xNilD))) (xVar 6))) (xB (xBin pIn (xDef f_law_letter (xConsD (xBin pIx (xVar 3) (xC (.int 1))) (xConsD (xBin pIx (xVar 3) (xC (.int 2))) xNilD))) (xVar 7))))
    (xPutD (xC (.bl true)) (xVar 2) (xDef f_law_letter (xConsD (xBin pIx (xVar 3) (xC (.int 0))) (xConsD (xBin pIx (xVar 3) (xC (.int 2))) xNilD))))
    xPass))
    (xSeq (xSet 4 (xDef f_composed (xConsD (xVar 6) (xConsD (xVar 7) xNilD))))
    (xSeq (xIfS (xTor (xB (xBin pNe (xVar 4) (xMeth .str mJoin (xC (.str [])) (xCons (xSortedD (xVar 2)) xNil)))) (xB (xBin pIsNot (xDef f_is_ways (xConsD (xVar 4) xNilD)) (xC (.bl true)))))
    (xRet (xC (.bl false)))
    xPass)
    (xSeq (xIfS (xTor (xB (xBin pNe (xDef f_composed (xConsD (xVar 6) (xConsD (xC (.str [101])) xNilD))) (xVar 6))) (xB (xBin pNe (xDef f_composed (xConsD (xC (.str [101])) (xConsD (xVar 6) xNilD))) (xVar 6))))
    (xRet (xC (.bl false)))
    xPass)
    (xSeq (xIfS (xTor (xB (xBin pNe (xDef f_converse (xConsD (xVar 4) xNilD)) (xDef f_composed (xConsD (xDef f_converse (xConsD (xVar 7) xNilD)) (xConsD (xDef f_converse (xConsD (xVar 6) xNilD)) xNilD))))) (xB (xBin pNe (xDef f_converse (xConsD (xDef f_converse (xConsD (xVar 6) xNilD)) xNilD)) (xVar 6))))
    (xRet (xC (.bl false)))
    xPass)
    (xSeq (xIfS (xB (xBin pNe (xDef f_composed (xConsD (xDef f_composed (xConsD (xVar 6) (xConsD (xVar 7) xNilD))) (xConsD (xVar 8) xNilD))) (xDef f_composed (xConsD (xVar 6) (xConsD (xDef f_composed (xConsD (xVar 7) (xConsD (xVar 8) xNilD))) xNilD)))))
    (xRet (xC (.bl false)))
    xPass)
    (xSeq (xSet 5 (xMeth .str mJoin (xC (.str [])) (xCons (xUn uSortedSet (xCall cListA (xCons (xBin pAdd (xVar 6) (xVar 8)) xNil))) xNil)))
    (xSeq (xSet 2 (xMeth .str mJoin (xC (.str [])) (xCons (xUn uSortedSet (xCall cListA (xCons (xBin pAdd (xVar 4) (xDef f_composed (xConsD (xVar 8) (xConsD (xVar 7) xNilD)))) xNil))) xNil)))
    (xSeq (xIfS (xTor (xB (xBin pNe (xDef f_composed (xConsD (xVar 5) (xConsD (xVar 7) xNilD))) (xVar 2))) (xB (xBin pNotIn (xC (.str [101])) (xDef f_composed (xConsD (xVar 6) (xConsD (xDef f_converse (xConsD (xVar 6) xNilD)) xNilD))))))
    (xRet (xC (.bl false)))
    xPass)
    (xRet (xAnd (xBin pEq (xDef f_composed (xConsD (xC (.str [98])) (xConsD (xC (.str [66])) xNilD))) (xC (.str [66, 68, 70, 77, 79, 83, 98, 100, 101, 102, 109, 111, 115]))) (xAnd (xBin pEq (xDef f_composed (xConsD (xC (.str [109])) (xConsD (xC (.str [77])) xNilD))) (xC (.str [70, 101, 102]))) (xBin pEq (xDef f_composed (xConsD (xC (.str [100])) (xConsD (xC (.str [100])) xNilD))) (xC (.str [100]))))))))))))))))))
instance : LocS b_law_k03 := by unfold b_law_k03; infer_instance
end XL
end
section
set_option Elab.async false
set_option linter.all false
set_option maxRecDepth 100000
set_option maxHeartbeats 4000000
set_option synthInstance.maxSize 100000
set_option synthInstance.maxHeartbeats 4000000
namespace XL
/-- pairs_of(spans); slots: spans i j -/
def b_pairs_of : XS :=
  (xRet (xLc2 (xRng1 (xVar 0)) (.nm 1) xTyes (xRng2 (xBin pAdd (xVar 1) (xC (.int 1))) (xVar 0)) (.nm 2) xTyes
      (xTup (xCons (xVar 1) (xCons (xVar 2) xNil))) [1, 2] [2]))
abbrev f_pairs_of : XF := mkF 1 3 b_pairs_of
instance : LocS b_pairs_of := by unfold b_pairs_of; infer_instance
/-- share_moment(one, other); slots: one other -/
def b_share_moment : XS :=
  (xRet (xBin pNotIn (xDef f_letter_of (xConsD (xVar 0) (xConsD (xVar 1) xNilD))) (xC (.str [66, 77, 98, 109]))))
abbrev f_share_moment : XF := mkF 2 2 b_share_moment
instance : LocS b_share_moment := by unfold b_share_moment; infer_instance
/-- picture_of(scene); slots: scene some i j -/
def b_picture_of : XS :=
  (xSeq (xDrop (xDef f_check_scene (xConsD (xVar 0) xNilD)))
    (xSeq (xSet 1 (xLc (xItA (xDef f_pairs_of (xConsD (xCall cLen (xCons (xVar 0) xNil)) xNilD))) (.tp [2, 3]) (xB (xDef f_share_moment (xConsD (xBin pIx (xVar 0) (xVar 2)) (xConsD (xBin pIx (xVar 0) (xVar 3)) xNilD))))
      (xTup (xCons (xVar 2) (xCons (xVar 3) xNil))) [2, 3]))
    (xRet (xTup (xCons (xCall cLen (xCons (xVar 0) xNil)) (xCons (xCall cTuple (xCons (xVar 1) xNil)) xNil))))))
abbrev f_picture_of : XF := mkF 1 4 b_picture_of
instance : LocS b_picture_of := by unfold b_picture_of; infer_instance
/-- is_picture(value); slots: value pair spans pairs k -/
def b_is_picture : XS :=
  (xSeq (xIfS (xTor (xTnot (xB (xUn (pIsi isiTuple) (xVar 0)))) (xTor (xB (xBin pNe (xCall cLen (xCons (xVar 0) xNil)) (xC (.int 2)))) (xTnot (xB (xDef f_is_between (xConsD (xBin pIx (xVar 0) (xC (.int 0))) (xConsD (xC (.int 1)) (xConsD (xC (.int 5)) xNilD))))))))
    (xRet (xC (.bl false)))
    xPass)
    (xSeq (xUnp [2, 3] (xVar 0))
    (xSeq (xIfS (xTnot (xB (xUn (pIsi isiTuple) (xVar 3))))
    (xRet (xC (.bl false)))
    xPass)
    (xSeq (xFor (xItA (xVar 3)) (.nm 1)
    (xSeq (xIfS (xTor (xTnot (xB (xUn (pIsi isiTuple) (xVar 1)))) (xTor (xB (xBin pNe (xCall cLen (xCons (xVar 1) xNil)) (xC (.int 2)))) (xTnot (xB (xDef f_is_between (xConsD (xBin pIx (xVar 1) (xC (.int 0))) (xConsD (xC (.int 0)) (xConsD (xBin pSub (xVar 2) (xC (.int 1))) xNilD))))))))
    (xRet (xC (.bl false)))
    xPass)
    (xIfS (xTnot (xB (xDef f_is_between (xConsD (xBin pIx (xVar 1) (xC (.int 1))) (xConsD (xBin pAdd (xBin pIx (xVar 1) (xC (.int 0))) (xC (.int 1))) (xConsD (xBin pSub (xVar 2) (xC (.int 1))) xNilD))))))
    (xRet (xC (.bl false)))
    xPass)))
    (xRet (xCall cAll (xCons (xLc (xRng1 (xBin pSub (xCall cLen (xCons (xVar 3) xNil)) (xC (.int 1)))) (.nm 4) xTyes
      (xBin pLt (xBin pIx (xVar 3) (xVar 4)) (xBin pIx (xVar 3) (xBin pAdd (xVar 4) (xC (.int 1))))) [4]) xNil)))))))
abbrev f_is_picture : XF := mkF 1 5 b_is_picture
instance : LocS b_is_picture := by unfold b_is_picture; infer_instance
/-- _law_ring(picture, row); slots: picture row number near met waiting here one -/
def b_law_ring : XS :=
  (xSeq (xFor (xItA (xVar 1)) (.nm 2)
    (xSeq (xSet 3 (xLc (xItA (xVar 1)) (.nm 7) (xTand (xB (xBin pIn (xTup (xCons (xCall cMin (xCons (xVar 7) (xCons (xVar 2) xNil))) (xCons (xCall cMax (xCons (xVar 7) (xCons (xVar 2) xNil))) xNil))) (xBin pIx (xVar 0) (xC (.int 1))))) (xB (xBin pNe (xVar 7) (xVar 2))))
      (xVar 7) [7]))
    (xIfS (xB (xBin pNe (xCall cLen (xCons (xVar 3) xNil)) (xC (.int 2))))
    (xRet (xC (.bl false)))
    xPass)))
    (xSeq (xPar [4, 5] (xConsB (xLst xNil) (xConsB (xLst (xCons (xBin pIx (xVar 1) (xC (.int 0))) xNil)) xNilD)))
    (xSeq (xWhile 100000000 (xB (xBin pNe (xVar 5) (xLst xNil)))
    (xSeq (xSet 6 (xPop (xVar 5)))
    (xIfS (xB (xBin pNotIn (xVar 6) (xVar 4)))
    (xSeq (xDrop (xApp (xVar 4) (xVar 6)))
    (xSet 5 (xBin pAdd (xVar 5) (xLc (xItA (xVar 1)) (.nm 7) (xB (xBin pIn (xTup (xCons (xCall cMin (xCons (xVar 7) (xCons (xVar 6) xNil))) (xCons (xCall cMax (xCons (xVar 7) (xCons (xVar 6) xNil))) xNil))) (xBin pIx (xVar 0) (xC (.int 1)))))
      (xVar 7) [7]))))
    xPass)))
    (xRet (xBin pEq (xCall cLen (xCons (xVar 4) xNil)) (xCall cLen (xCons (xVar 1) xNil)))))))
abbrev f_law_ring : XF := mkF 2 8 b_law_ring
instance : LocS b_law_ring := by unfold b_law_ring; infer_instance
/-- _law_rings(picture); slots: picture rows number found row pair -/
def b_law_rings : XS :=
  (xSeq (xSet 1 (xLst (xCons (xTup xNil) xNil)))
    (xSeq (xFor (xRng1 (xBin pIx (xVar 0) (xC (.int 0)))) (.nm 2)
    (xSet 1 (xBin pAdd (xVar 1) (xLc (xItA (xVar 1)) (.nm 4) xTyes
      (xBin pAdd (xVar 4) (xTup (xCons (xVar 2) xNil))) [4]))))
    (xSeq (xSet 3 (xLc (xItA (xVar 1)) (.nm 4) (xTand (xB (xBin pGe (xCall cLen (xCons (xVar 4) xNil)) (xC (.int 4)))) (xB (xDef f_law_ring (xConsD (xVar 0) (xConsD (xVar 4) xNilD)))))
      (xVar 4) [4]))
    (xRet (xLc (xItA (xCall cSorted (xCons (xLc (xItA (xVar 3)) (.nm 4) xTyes
      (xTup (xCons (xCall cLen (xCons (xVar 4) xNil)) (xCons (xVar 4) xNil))) [4]) xNil))) (.nm 5) xTyes
      (xBin pIx (xVar 5) (xC (.int 1))) [5])))))
abbrev f_law_rings : XF := mkF 1 6 b_law_rings
instance : LocS b_law_rings := by unfold b_law_rings; infer_instance
/-- check_picture(picture); slots: picture -/
def b_check_picture : XS :=
  (xIfS (xTnot (xB (xDef f_is_picture (xConsD (xVar 0) xNilD))))
    xNever
    xPass)
abbrev f_check_picture : XF := mkF 1 1 b_check_picture
instance : LocS b_check_picture := by unfold b_check_picture; infer_instance
/-- ways_between(known, i, j); slots: known i j -/
def b_ways_between : XS :=
  (xRet (xIf (xB (xBin pLt (xVar 1) (xVar 2))) (xGetD (xVar 0) (xTup (xCons (xVar 1) (xCons (xVar 2) xNil)))) (xDef f_turned (xConsD (xGetD (xVar 0) (xTup (xCons (xVar 2) (xCons (xVar 1) xNil)))) xNilD))))
abbrev f_ways_between : XF := mkF 3 3 b_ways_between
instance : LocS b_ways_between := by unfold b_ways_between; infer_instance
/-- found_closed(spans, known); slots: spans known is_new i j k both left pair letter -/
def b_found_closed : XS :=
  (xSeq (xPar [1, 2] (xConsB (xCopyD (xVar 1)) (xConsB (xC (.bl true)) xNilD)))
    (xSeq (xWhile 100000000 (xB (xVar 2))
    (xSeq (xSet 2 (xC (.bl false)))
    (xFor (xItA (xDef f_pairs_of (xConsD (xVar 0) xNilD))) (.tp [3, 4])
    (xFor (xRng1 (xVar 0)) (.nm 5)
    (xSeq (xIfS (xB (xBin pIn (xC (.str [])) (xLockE 1 (xLc (xItL 1) (.nm 8) xTyes
      (xGetD (xVar 1) (xVar 8)) [8]))))
    (xRet (xC .non))
    xPass)
    (xIfS (xB (xBin pNotIn (xVar 5) (xTup (xCons (xVar 3) (xCons (xVar 4) xNil)))))
    (xSeq (xSet 6 (xDef f_composition (xConsD (xDef f_ways_between (xConsD (xVar 1) (xConsD (xVar 3) (xConsD (xVar 5) xNilD)))) (xConsD (xDef f_ways_between (xConsD (xVar 1) (xConsD (xVar 5) (xConsD (xVar 4) xNilD)))) xNilD))))
    (xSeq (xSet 7 (xMeth .str mJoin (xC (.str [])) (xCons (xLc (xItA (xGetD (xVar 1) (xTup (xCons (xVar 3) (xCons (xVar 4) xNil))))) (.nm 9) (xB (xBin pIn (xVar 9) (xVar 6)))
      (xVar 9) [9]) xNil)))
    (xSeq (xSet 2 (xOr (xVar 2) (xBin pNe (xVar 7) (xGetD (xVar 1) (xTup (xCons (xVar 3) (xCons (xVar 4) xNil)))))))
    (xPutD (xVar 7) (xVar 1) (xTup (xCons (xVar 3) (xCons (xVar 4) xNil)))))))
    xPass))))))
    (xRet (xIf (xB (xBin pIn (xC (.str [])) (xLockE 1 (xLc (xItL 1) (.nm 8) xTyes
      (xGetD (xVar 1) (xVar 8)) [8])))) (xC .non) (xVar 1)))))
abbrev f_found_closed : XF := mkF 2 10 b_found_closed
instance : LocS b_found_closed := by unfold b_found_closed; infer_instance
/-- moved(form, begin, end); slots: form begin end found span row one more -/
def b_moved : XS :=
  (xSeq (xSet 3 (xLst xNil))
    (xSeq (xFor (xItA (xVar 0)) (.nm 4)
    (xSeq (xSet 5 (xLst xNil))
    (xSeq (xFor (xItA (xVar 4)) (.nm 6)
    (xSeq (xSet 7 (xBin pAdd (xCall cInt (xCons (xAnd (xBin pEq (xBin pMod (xVar 1) (xC (.int 2))) (xC (.int 0))) (xBin pGe (xVar 6) (xBin pDiv (xVar 1) (xC (.int 2))))) xNil)) (xCall cInt (xCons (xAnd (xBin pEq (xBin pMod (xVar 2) (xC (.int 2))) (xC (.int 0))) (xBin pGe (xVar 6) (xBin pDiv (xVar 2) (xC (.int 2))))) xNil))))
    (xDrop (xApp (xVar 5) (xBin pAdd (xVar 6) (xVar 7))))))
    (xDrop (xApp (xVar 3) (xCall cTuple (xCons (xVar 5) xNil)))))))
    (xRet (xCall cTuple (xCons (xVar 3) xNil)))))
abbrev f_moved : XF := mkF 3 8 b_moved
instance : LocS b_moved := by unfold b_moved; infer_instance
/-- longer_forms(form, allowed); slots: form allowed spread begin many number found end place span one i -/
def b_longer_forms : XS :=
  (xSeq (xPar [4, 5, 6] (xConsB (xUn uLenSet (xLc2 (xItA (xVar 0)) (.nm 9) xTyes (xItA (xVar 9)) (.nm 10) xTyes
      (xVar 10) [9, 10] [10])) (xConsB (xCall cLen (xCons (xVar 0) xNil)) (xConsB (xLst xNil) xNilD))))
    (xSeq (xSet 2 (xLc (xItA (xVar 0)) (.tp [3, 7]) xTyes
      (xTup (xCons (xBin pAdd (xBin pMul (xC (.int 4)) (xVar 3)) (xC (.int 2))) (xCons (xBin pAdd (xBin pMul (xC (.int 4)) (xVar 7)) (xC (.int 2))) xNil))) [3, 7]))
    (xSeq (xFor (xRng1 (xBin pAdd (xBin pMul (xC (.int 2)) (xVar 4)) (xC (.int 1)))) (.nm 3)
    (xFor (xRng2 (xVar 3) (xBin pAdd (xBin pMul (xC (.int 2)) (xVar 4)) (xC (.int 1)))) (.nm 7)
    (xIfS (xTor (xB (xBin pLt (xVar 3) (xVar 7))) (xB (xBin pEq (xBin pMod (xVar 3) (xC (.int 2))) (xC (.int 0)))))
    (xSeq (xSet 8 (xTup (xCons (xBin pMul (xC (.int 2)) (xVar 3)) (xCons (xBin pAdd (xBin pMul (xC (.int 2)) (xVar 7)) (xCall cInt (xCons (xBin pEq (xVar 3) (xVar 7)) xNil))) xNil))))
    (xIfS (xB (xCall cAll (xCons (xLc (xRng1 (xVar 5)) (.nm 11) xTyes
      (xBin pIn (xDef f_letter_of (xConsD (xBin pIx (xVar 2) (xVar 11)) (xConsD (xVar 8) xNilD))) (xGetD (xVar 1) (xTup (xCons (xVar 11) (xCons (xVar 5) xNil))))) [11]) xNil)))
    (xSeq (xSet 9 (xTup (xCons (xBin pDiv (xVar 3) (xC (.int 2))) (xCons (xBin pAdd (xBin pDiv (xVar 7) (xC (.int 2))) (xCall cInt (xCons (xBin pEq (xBin pMod (xVar 3) (xC (.int 2))) (xC (.int 0))) xNil))) xNil))))
    (xDrop (xApp (xVar 6) (xBin pAdd (xDef f_moved (xConsD (xVar 0) (xConsD (xVar 3) (xConsD (xVar 7) xNilD)))) (xTup (xCons (xVar 9) xNil))))))
    xPass))
    xPass)))
    (xRet (xVar 6)))))
abbrev f_longer_forms : XF := mkF 2 12 b_longer_forms
instance : LocS b_longer_forms := by unfold b_longer_forms; infer_instance
/-- form_with(spans, allowed); slots: spans allowed waiting form -/
def b_form_with : XS :=
  (xSeq (xSet 2 (xLst (xCons (xTup (xCons (xTup (xCons (xC (.int 0)) (xCons (xC (.int 1)) xNil))) xNil)) xNil)))
    (xSeq (xWhile 100000000 (xB (xBin pNe (xVar 2) (xLst xNil)))
    (xSeq (xSet 3 (xPop (xVar 2)))
    (xSeq (xIfS (xB (xBin pEq (xCall cLen (xCons (xVar 3) xNil)) (xVar 0)))
    (xRet (xVar 3))
    xPass)
    (xDrop (xExt (xVar 2) (xDef f_longer_forms (xConsD (xVar 3) (xConsD (xVar 1) xNilD))))))))
    (xRet (xC .non))))
abbrev f_form_with : XF := mkF 2 4 b_form_with
instance : LocS b_form_with := by unfold b_form_with; infer_instance
/-- possible_form(spans, allowed); slots: spans allowed known -/
def b_possible_form : XS :=
  (xSeq (xSet 2 (xDef f_found_closed (xConsD (xVar 0) (xConsD (xVar 1) xNilD))))
    (xRet (xIf (xB (xIsN false (xVar 2))) (xC .non) (xDef f_form_with (xConsD (xVar 0) (xConsD (xVar 2) xNilD))))))
abbrev f_possible_form : XF := mkF 2 3 b_possible_form
instance : LocS b_possible_form := by unfold b_possible_form; infer_instance
/-- found_for(picture); slots: picture allowed spans pairs pair -/
def b_found_for : XS :=
  (xSeq (xUnp [2, 3] (xVar 0))
    (xSeq (xSet 1 (xCall cDictP (xCons (xLc (xItA (xDef f_pairs_of (xConsD (xVar 2) xNilD))) (.nm 4) xTyes
      (xTup (xCons (xVar 4) (xCons (xIf (xB (xBin pIn (xVar 4) (xVar 3))) (xC (.str [68, 70, 79, 83, 100, 101, 102, 111, 115])) (xC (.str [66, 77, 98, 109]))) xNil))) [4]) xNil)))
    (xRet (xDef f_possible_form (xConsD (xVar 2) (xConsD (xVar 1) xNilD))))))
abbrev f_found_for : XF := mkF 1 5 b_found_for
instance : LocS b_found_for := by unfold b_found_for; infer_instance
/-- form_for(picture); slots: picture -/
def b_form_for : XS :=
  (xSeq (xDrop (xDef f_check_picture (xConsD (xVar 0) xNilD)))
    (xRet (xDef f_found_for (xConsD (xVar 0) xNilD))))
abbrev f_form_for : XF := mkF 1 1 b_form_for
instance : LocS b_form_for := by unfold b_form_for; infer_instance
/-- _law_pairs(spans); slots: spans found i j -/
def b_law_pairs : XS :=
  (xSeq (xSet 1 (xLst xNil))
    (xSeq (xFor (xRng1 (xVar 0)) (.nm 2)
    (xSet 1 (xBin pAdd (xVar 1) (xLc (xRng2 (xBin pAdd (xVar 2) (xC (.int 1))) (xVar 0)) (.nm 3) xTyes
      (xTup (xCons (xVar 2) (xCons (xVar 3) xNil))) [3]))))
    (xRet (xVar 1))))
abbrev f_law_pairs : XF := mkF 1 4 b_law_pairs
instance : LocS b_law_pairs := by unfold b_law_pairs; infer_instance
/-- all_choices(many); slots: many rows number size row -/
def b_all_choices : XS :=
  (xSeq (xSet 1 (xLst (xCons (xTup xNil) xNil)))
    (xSeq (xFor (xRng1 (xVar 0)) (.nm 2)
    (xSet 1 (xBin pAdd (xVar 1) (xLc (xItA (xVar 1)) (.nm 4) xTyes
      (xBin pAdd (xVar 4) (xTup (xCons (xVar 2) xNil))) [4]))))
    (xRet (xLc (xItA (xCall cSorted (xCons (xLc (xItA (xVar 1)) (.nm 4) xTyes
      (xTup (xCons (xCall cLen (xCons (xVar 4) xNil)) (xCons (xVar 4) xNil))) [4]) xNil))) (.tp [3, 4]) xTyes
      (xVar 4) [3, 4]))))
abbrev f_all_choices : XF := mkF 1 5 b_all_choices
instance : LocS b_all_choices := by unfold b_all_choices; infer_instance
/-- part_of(picture, row); slots: picture row some i j -/
def b_part_of : XS :=
  (xSeq (xSet 2 (xLc (xItA (xBin pIx (xVar 0) (xC (.int 1)))) (.tp [3, 4]) (xTand (xB (xBin pIn (xVar 3) (xVar 1))) (xB (xBin pIn (xVar 4) (xVar 1))))
      (xTup (xCons (xMeth .lst mIndex (xVar 1) (xCons (xVar 3) xNil)) (xCons (xMeth .lst mIndex (xVar 1) (xCons (xVar 4) xNil)) xNil))) [3, 4]))
    (xRet (xTup (xCons (xCall cLen (xCons (xVar 1) xNil)) (xCons (xCall cTuple (xCons (xVar 2) xNil)) xNil)))))
abbrev f_part_of : XF := mkF 2 5 b_part_of
instance : LocS b_part_of := by unfold b_part_of; infer_instance
/-- obstacle(picture); slots: picture row -/
def b_obstacle : XS :=
  (xSeq (xDrop (xDef f_check_picture (xConsD (xVar 0) xNilD)))
    (xSeq (xFor (xItA (xDef f_all_choices (xConsD (xBin pIx (xVar 0) (xC (.int 0))) xNilD))) (.nm 1)
    (xIfS (xTand (xB (xBin pNe (xVar 1) (xTup xNil))) (xB (xIsN false (xDef f_found_for (xConsD (xDef f_part_of (xConsD (xVar 0) (xConsD (xVar 1) xNilD))) xNilD)))))
    (xRet (xVar 1))
    xPass))
    (xRet (xC .non))))
abbrev f_obstacle : XF := mkF 1 2 b_obstacle
instance : LocS b_obstacle := by unfold b_obstacle; infer_instance
/-- law(script); slots: script town spans pairs picture scene shown bads rings form pair bad -/
def b_law_k60 : XS :=
  (xSeq (xSet 1 (xDef f_law_town (xConsD (xVar 0) xNilD)))
    (xSeq (xSet 2 (xDef f_law_pick (xConsD (xVar 0) (xConsD (xVar 1) (xConsD (xLst (xCons (xC (.int 2)) (xCons (xC (.int 3)) (xCons (xC (.int 4)) (xCons (xC (.int 4)) (xCons (xC (.int 5)) (xCons (xC (.int 5)) xNil))))))) xNilD)))))
    (xSeq (xSet 3 (xLc (xItA (xDef f_law_pairs (xConsD (xVar 2) xNilD))) (.nm 10) (xB (xBin pEq (xDef f_law_draw (xConsD (xVar 0) (xConsD (xVar 1) (xConsD (xC (.int 2)) xNilD)))) (xC (.int 0))))
      (xVar 10) [10]))
    (xSeq (xIfS (xTand (xB (xBin pGe (xVar 2) (xC (.int 4)))) (xB (xBin pEq (xDef f_law_draw (xConsD (xVar 0) (xConsD (xVar 1) (xConsD (xC (.int 3)) xNilD)))) (xC (.int 0)))))
    (xSet 3 (xCall cSorted (xCons (xIf (xB (xBin pEq (xVar 2) (xC (.int 4)))) (xLst (xCons (xTup (xCons (xC (.int 0)) (xCons (xC (.int 1)) xNil))) (xCons (xTup (xCons (xC (.int 1)) (xCons (xC (.int 2)) xNil))) (xCons (xTup (xCons (xC (.int 2)) (xCons (xC (.int 3)) xNil))) (xCons (xTup (xCons (xC (.int 0)) (xCons (xC (.int 3)) xNil))) xNil))))) (xLst (xCons (xTup (xCons (xC (.int 0)) (xCons (xC (.int 2)) xNil))) (xCons (xTup (xCons (xC (.int 2)) (xCons (xC (.int 4)) xNil))) (xCons (xTup (xCons (xC (.int 1)) (xCons (xC (.int 4)) xNil))) (xCons (xTup (xCons (xC (.int 1)) (xCons (xC (.int 3)) xNil))) (xCons (xTup (xCons (xC (.int 0)) (xCons (xC (.int 3)) xNil))) xNil))))))) xNil)))
    xPass)
    (xSeq (xSet 4 (xTup (xCons (xVar 2) (xCons (xCall cTuple (xCons (xVar 3) xNil)) xNil))))
    (xSeq (xIfS (xB (xBin pIsNot (xDef f_is_picture (xConsD (xVar 4) xNilD)) (xC (.bl true))))
    (xRet (xC (.bl false)))
    xPass)
    (xSeq (xPar [8, 9] (xConsB (xDef f_law_rings (xConsD (xVar 4) xNilD)) (xConsB (xDef f_form_for (xConsD (xVar 4) xNilD)) xNilD)))
    (xSeq (xIfS (xTor (xB (xBin pNe (xIsN false (xVar 9)) (xBin pNe (xVar 8) (xLst xNil)))) (xB (xBin pNe (xDef f_obstacle (xConsD (xVar 4) xNilD)) (xIf (xB (xBin pNe (xVar 8) (xLst xNil))) (xBin pIx (xVar 8) (xC (.int 0))) (xC .non)))))
    (xRet (xC (.bl false)))
    xPass)
    (xSeq (xIfS (xTand (xB (xIsN true (xVar 9))) (xTor (xB (xBin pIsNot (xDef f_is_form (xConsD (xVar 9) xNilD)) (xC (.bl true)))) (xB (xBin pNe (xDef f_picture_of (xConsD (xVar 9) xNilD)) (xVar 4)))))
    (xRet (xC (.bl false)))
    xPass)
    (xSeq (xSet 5 (xDef f_law_scene (xConsD (xVar 0) (xConsD (xVar 1) (xConsD (xBin pAdd (xC (.int 1)) (xDef f_law_draw (xConsD (xVar 0) (xConsD (xVar 1) (xConsD (xC (.int 5)) xNilD))))) (xConsD (xC (.int 6)) xNilD))))))
    (xSeq (xSet 6 (xDef f_picture_of (xConsD (xVar 5) xNilD)))
    (xSeq (xIfS (xTor (xB (xIsN false (xDef f_form_for (xConsD (xVar 6) xNilD)))) (xTor (xB (xBin pNe (xDef f_picture_of (xConsD (xDef f_form_for (xConsD (xVar 6) xNilD)) xNilD)) (xVar 6))) (xB (xIsN true (xDef f_obstacle (xConsD (xVar 6) xNilD))))))
    (xRet (xC (.bl false)))
    xPass)
    (xSeq (xSet 7 (xLst (xCons (xC .non) (xCons (xC (.int 5)) (xCons (xTup xNil) (xCons (xTup (xCons (xC (.int 0)) (xCons (xTup xNil) xNil))) (xCons (xTup (xCons (xC (.int 6)) (xCons (xTup xNil) xNil))) (xCons (xTup (xCons (xC (.int 2)) (xCons (xLst xNil) xNil))) (xCons (xTup (xCons (xC (.int 2)) (xCons (xTup (xCons (xTup (xCons (xC (.int 0)) (xCons (xC (.int 0)) xNil))) xNil)) xNil))) (xCons (xTup (xCons (xC (.int 2)) (xCons (xTup (xCons (xTup (xCons (xC (.int 1)) (xCons (xC (.int 0)) xNil))) xNil)) xNil))) (xCons (xTup (xCons (xC (.int 2)) (xCons (xTup (xCons (xTup (xCons (xC (.int 0)) (xCons (xC (.int 2)) xNil))) xNil)) xNil))) (xCons (xTup (xCons (xC (.bl true)) (xCons (xTup xNil) xNil))) xNil))))))))))))
    (xSeq (xSet 7 (xBin pAdd (xVar 7) (xLst (xCons (xTup (xCons (xC (.int 3)) (xCons (xTup (xCons (xTup (xCons (xC (.int 0)) (xCons (xC (.int 1)) xNil))) (xCons (xTup (xCons (xC (.int 0)) (xCons (xC (.int 1)) xNil))) xNil))) xNil))) (xCons (xTup (xCons (xC (.int 3)) (xCons (xTup (xCons (xTup (xCons (xC (.int 1)) (xCons (xC (.int 2)) xNil))) (xCons (xTup (xCons (xC (.int 0)) (xCons (xC (.int 1)) xNil))) xNil))) xNil))) (xCons (xTup (xCons (xC (.int 3)) (xCons (xTup (xCons (xTup (xCons (xC (.int 0)) (xCons (xC (.int 1)) (xCons (xC (.int 2)) xNil)))) xNil)) xNil))) (xCons (xLst (xCons (xC (.int 3)) (xCons (xTup xNil) xNil))) (xCons (xTup (xCons (xC (.int 3)) (xCons (xTup (xCons (xC (.int 5)) xNil)) xNil))) xNil))))))))
    (xSeq (xDrop (xApp (xVar 7) (xTup (xCons (xC (.int 3)) (xCons (xTup (xCons (xTup (xCons (xC (.int 0)) (xCons (xC (.bl true)) xNil))) xNil)) xNil)))))
    (xRet (xBin pEq (xLc (xItA (xVar 7)) (.nm 11) (xB (xDef f_is_picture (xConsD (xVar 11) xNilD)))
      (xVar 11) [11]) (xLst xNil))))))))))))))))))
instance : LocS b_law_k60 := by unfold b_law_k60; infer_instance
end XL
end
section
set_option Elab.async false
set_option linter.all false
set_option maxRecDepth 100000
set_option maxHeartbeats 4000000
set_option synthInstance.maxSize 100000
set_option synthInstance.maxHeartbeats 4000000
namespace XL
/-- is_claim(spans, value); slots: spans value -/
def b_is_claim : XS :=
  (xSeq (xIfS (xTor (xTnot (xB (xUn (pIsi isiTuple) (xVar 1)))) (xTor (xB (xBin pNe (xCall cLen (xCons (xVar 1) xNil)) (xC (.int 3)))) (xTnot (xB (xDef f_is_between (xConsD (xBin pIx (xVar 1) (xC (.int 0))) (xConsD (xC (.int 0)) (xConsD (xBin pSub (xVar 0) (xC (.int 1))) xNilD))))))))
    (xRet (xC (.bl false)))
    xPass)
    (xRet (xAnd (xDef f_is_between (xConsD (xBin pIx (xVar 1) (xC (.int 1))) (xConsD (xBin pAdd (xBin pIx (xVar 1) (xC (.int 0))) (xC (.int 1))) (xConsD (xBin pSub (xVar 0) (xC (.int 1))) xNilD)))) (xDef f_is_ways (xConsD (xBin pIx (xVar 1) (xC (.int 2))) xNilD)))))
abbrev f_is_claim : XF := mkF 2 2 b_is_claim
instance : LocS b_is_claim := by unfold b_is_claim; infer_instance
/-- is_web(value); slots: value spans claims k one -/
def b_is_web : XS :=
  (xSeq (xIfS (xTor (xTnot (xB (xUn (pIsi isiTuple) (xVar 0)))) (xTor (xB (xBin pNe (xCall cLen (xCons (xVar 0) xNil)) (xC (.int 2)))) (xTnot (xB (xDef f_is_between (xConsD (xBin pIx (xVar 0) (xC (.int 0))) (xConsD (xC (.int 1)) (xConsD (xC (.int 5)) xNilD))))))))
    (xRet (xC (.bl false)))
    xPass)
    (xSeq (xUnp [1, 2] (xVar 0))
    (xSeq (xIfS (xTor (xTnot (xB (xUn (pIsi isiTuple) (xVar 2)))) (xTor (xB (xBin pGt (xCall cLen (xCons (xVar 2) xNil)) (xC (.int 8)))) (xTnot (xB (xCall cAll (xCons (xLc (xItA (xVar 2)) (.nm 4) xTyes
      (xDef f_is_claim (xConsD (xVar 1) (xConsD (xVar 4) xNilD))) [4]) xNil))))))
    (xRet (xC (.bl false)))
    xPass)
    (xRet (xCall cAll (xCons (xLc (xRng1 (xBin pSub (xCall cLen (xCons (xVar 2) xNil)) (xC (.int 1)))) (.nm 3) xTyes
      (xBin pLt (xBin pIx (xVar 2) (xVar 3)) (xBin pIx (xVar 2) (xBin pAdd (xVar 3) (xC (.int 1))))) [3]) xNil))))))
abbrev f_is_web : XF := mkF 1 5 b_is_web
instance : LocS b_is_web := by unfold b_is_web; infer_instance
/-- check_web(web); slots: web -/
def b_check_web : XS :=
  (xIfS (xTnot (xB (xDef f_is_web (xConsD (xVar 0) xNilD))))
    xNever
    xPass)
abbrev f_check_web : XF := mkF 1 1 b_check_web
instance : LocS b_check_web := by unfold b_check_web; infer_instance
/-- allowed_ways(web); slots: web found i j ways pair letter -/
def b_allowed_ways : XS :=
  (xSeq (xSet 1 (xCall cDictP (xCons (xLc (xItA (xDef f_pairs_of (xConsD (xBin pIx (xVar 0) (xC (.int 0))) xNilD))) (.nm 5) xTyes
      (xTup (xCons (xVar 5) (xCons (xC (.str c_LETTERS)) xNil))) [5]) xNil)))
    (xSeq (xFor (xItA (xBin pIx (xVar 0) (xC (.int 1)))) (.tp [2, 3, 4])
    (xPutD (xMeth .str mJoin (xC (.str [])) (xCons (xLc (xItA (xGetD (xVar 1) (xTup (xCons (xVar 2) (xCons (xVar 3) xNil))))) (.nm 6) (xB (xBin pIn (xVar 6) (xVar 4)))
      (xVar 6) [6]) xNil)) (xVar 1) (xTup (xCons (xVar 2) (xCons (xVar 3) xNil)))))
    (xRet (xVar 1))))
abbrev f_allowed_ways : XF := mkF 1 7 b_allowed_ways
instance : LocS b_allowed_ways := by unfold b_allowed_ways; infer_instance
/-- found_form_for(web); slots: web -/
def b_found_form_for : XS :=
  (xRet (xDef f_possible_form (xConsD (xBin pIx (xVar 0) (xC (.int 0))) (xConsD (xDef f_allowed_ways (xConsD (xVar 0) xNilD)) xNilD))))
abbrev f_found_form_for : XF := mkF 1 1 b_found_form_for
instance : LocS b_found_form_for := by unfold b_found_form_for; infer_instance
/-- some_form(web); slots: web -/
def b_some_form : XS :=
  (xSeq (xDrop (xDef f_check_web (xConsD (xVar 0) xNilD)))
    (xRet (xDef f_found_form_for (xConsD (xVar 0) xNilD))))
instance : LocS b_some_form := by unfold b_some_form; infer_instance
/-- against(web, claim); slots: web claim rest i j ways letter -/
def b_against : XS :=
  (xSeq (xUnp [3, 4, 5] (xVar 1))
    (xSeq (xSet 2 (xMeth .str mJoin (xC (.str [])) (xCons (xLc (xItA (xC (.str c_LETTERS))) (.nm 6) (xB (xBin pNotIn (xVar 6) (xVar 5)))
      (xVar 6) [6]) xNil)))
    (xRet (xIf (xB (xBin pEq (xVar 2) (xC (.str [])))) (xC .non) (xDef f_found_form_for (xConsD (xTup (xCons (xBin pIx (xVar 0) (xC (.int 0))) (xCons (xBin pAdd (xBin pIx (xVar 0) (xC (.int 1))) (xTup (xCons (xTup (xCons (xVar 3) (xCons (xVar 4) (xCons (xVar 2) xNil)))) xNil))) xNil))) xNilD))))))
abbrev f_against : XF := mkF 2 7 b_against
instance : LocS b_against := by unfold b_against; infer_instance
/-- needless(web); slots: web found number claim rest -/
def b_needless : XS :=
  (xSeq (xDrop (xDef f_check_web (xConsD (xVar 0) xNilD)))
    (xSeq (xSet 1 (xLst xNil))
    (xSeq (xFor (xEnum (xBin pIx (xVar 0) (xC (.int 1)))) (.tp [2, 3])
    (xSeq (xSet 4 (xBin pAdd (xSl (xBin pIx (xVar 0) (xC (.int 1))) none (some (xVar 2))) (xSl (xBin pIx (xVar 0) (xC (.int 1))) (some (xBin pAdd (xVar 2) (xC (.int 1)))) none)))
    (xIfS (xB (xIsN false (xDef f_against (xConsD (xTup (xCons (xBin pIx (xVar 0) (xC (.int 0))) (xCons (xVar 4) xNil))) (xConsD (xVar 3) xNilD)))))
    (xDrop (xApp (xVar 1) (xVar 2)))
    xPass)))
    (xRet (xCall cTuple (xCons (xVar 1) xNil))))))
instance : LocS b_needless := by unfold b_needless; infer_instance
/-- is_possible(web); slots: web -/
def b_is_possible : XS :=
  (xSeq (xDrop (xDef f_check_web (xConsD (xVar 0) xNilD)))
    (xRet (xIsN true (xDef f_found_form_for (xConsD (xVar 0) xNilD)))))
instance : LocS b_is_possible := by unfold b_is_possible; infer_instance
/-- check_few(web); slots: web -/
def b_check_few : XS :=
  (xIfS (xB (xBin pGt (xBin pIx (xVar 0) (xC (.int 0))) (xC (.int 4))))
    xNever
    xPass)
abbrev f_check_few : XF := mkF 1 1 b_check_few
instance : LocS b_check_few := by unfold b_check_few; infer_instance
/-- forms_with(spans, allowed); slots: spans allowed level time later form -/
def b_forms_with : XS :=
  (xSeq (xSet 2 (xLst (xCons (xTup (xCons (xTup (xCons (xC (.int 0)) (xCons (xC (.int 1)) xNil))) xNil)) xNil)))
    (xSeq (xFor (xRng1 (xBin pSub (xVar 0) (xC (.int 1)))) (.nm 3)
    (xSeq (xSet 4 (xLst xNil))
    (xSeq (xFor (xItA (xVar 2)) (.nm 5)
    (xDrop (xExt (xVar 4) (xDef f_longer_forms (xConsD (xVar 5) (xConsD (xVar 1) xNilD))))))
    (xSet 2 (xVar 4)))))
    (xRet (xCall cSorted (xCons (xVar 2) xNil)))))
abbrev f_forms_with : XF := mkF 2 6 b_forms_with
instance : LocS b_forms_with := by unfold b_forms_with; infer_instance
/-- found_forms(web); slots: web known -/
def b_found_forms : XS :=
  (xSeq (xSet 1 (xDef f_found_closed (xConsD (xBin pIx (xVar 0) (xC (.int 0))) (xConsD (xDef f_allowed_ways (xConsD (xVar 0) xNilD)) xNilD))))
    (xRet (xIf (xB (xIsN false (xVar 1))) (xLst xNil) (xDef f_forms_with (xConsD (xBin pIx (xVar 0) (xC (.int 0))) (xConsD (xVar 1) xNilD))))))
abbrev f_found_forms : XF := mkF 1 2 b_found_forms
instance : LocS b_found_forms := by unfold b_found_forms; infer_instance
/-- count_forms(web); slots: web -/
def b_count_forms : XS :=
  (xSeq (xDrop (xDef f_check_web (xConsD (xVar 0) xNilD)))
    (xSeq (xDrop (xDef f_check_few (xConsD (xVar 0) xNilD)))
    (xRet (xCall cLen (xCons (xDef f_found_forms (xConsD (xVar 0) xNilD)) xNil)))))
instance : LocS b_count_forms := by unfold b_count_forms; infer_instance
/-- rows_of(known); slots: known i j -/
def b_rows_of : XS :=
  (xRet (xCall cTuple (xCons (xLc (xItA (xSortedT (xVar 0))) (.tp [1, 2]) xTyes
      (xTup (xCons (xVar 1) (xCons (xVar 2) (xCons (xGetD (xVar 0) (xTup (xCons (xVar 1) (xCons (xVar 2) xNil)))) xNil)))) [1, 2]) xNil)))
abbrev f_rows_of : XF := mkF 1 3 b_rows_of
instance : LocS b_rows_of := by unfold b_rows_of; infer_instance
/-- closed(web); slots: web found -/
def b_closed : XS :=
  (xSeq (xDrop (xDef f_check_web (xConsD (xVar 0) xNilD)))
    (xSeq (xSet 1 (xDef f_found_closed (xConsD (xBin pIx (xVar 0) (xC (.int 0))) (xConsD (xDef f_allowed_ways (xConsD (xVar 0) xNilD)) xNilD))))
    (xRet (xIf (xB (xIsN false (xVar 1))) (xC .non) (xDef f_rows_of (xConsD (xVar 1) xNilD))))))
instance : LocS b_closed := by unfold b_closed; infer_instance
/-- found_least(web); slots: web known found pair letter narrow form i j -/
def b_found_least : XS :=
  (xSeq (xSet 1 (xDef f_found_closed (xConsD (xBin pIx (xVar 0) (xC (.int 0))) (xConsD (xDef f_allowed_ways (xConsD (xVar 0) xNilD)) xNilD))))
    (xSeq (xIfS (xTor (xB (xIsN false (xVar 1))) (xB (xIsN false (xDef f_form_with (xConsD (xBin pIx (xVar 0) (xC (.int 0))) (xConsD (xVar 1) xNilD))))))
    (xRet (xC .non))
    xPass)
    (xLockS 1 (xLeast f_possible_form f_letter_of))))
abbrev f_found_least : XF := mkF 1 9 b_found_least
instance : LocS b_found_least := by unfold b_found_least; infer_instance
/-- least_web(web); slots: web found -/
def b_least_web : XS :=
  (xSeq (xDrop (xDef f_check_web (xConsD (xVar 0) xNilD)))
    (xSeq (xSet 1 (xDef f_found_least (xConsD (xVar 0) xNilD)))
    (xRet (xIf (xB (xIsN false (xVar 1))) (xTup xNil) (xDef f_rows_of (xConsD (xVar 1) xNilD))))))
instance : LocS b_least_web := by unfold b_least_web; infer_instance
/-- all_forms(web); slots: web -/
def b_all_forms : XS :=
  (xSeq (xDrop (xDef f_check_web (xConsD (xVar 0) xNilD)))
    (xSeq (xDrop (xDef f_check_few (xConsD (xVar 0) xNilD)))
    (xRet (xCall cTuple (xCons (xDef f_found_forms (xConsD (xVar 0) xNilD)) xNil)))))
instance : LocS b_all_forms := by unfold b_all_forms; infer_instance
/-- check_claim(web, claim); slots: web claim -/
def b_check_claim : XS :=
  (xIfS (xTnot (xB (xDef f_is_claim (xConsD (xBin pIx (xVar 0) (xC (.int 0))) (xConsD (xVar 1) xNilD)))))
    xNever
    xPass)
abbrev f_check_claim : XF := mkF 2 2 b_check_claim
instance : LocS b_check_claim := by unfold b_check_claim; infer_instance
/-- follows(web, claim); slots: web claim -/
def b_follows : XS :=
  (xSeq (xDrop (xDef f_check_web (xConsD (xVar 0) xNilD)))
    (xSeq (xDrop (xDef f_check_claim (xConsD (xVar 0) (xConsD (xVar 1) xNilD))))
    (xRet (xIsN false (xDef f_against (xConsD (xVar 0) (xConsD (xVar 1) xNilD)))))))
instance : LocS b_follows := by unfold b_follows; infer_instance
/-- clash(web); slots: web row number -/
def b_clash : XS :=
  (xSeq (xDrop (xDef f_check_web (xConsD (xVar 0) xNilD)))
    (xSeq (xIfS (xB (xIsN true (xDef f_found_form_for (xConsD (xVar 0) xNilD))))
    (xRet (xC .non))
    xPass)
    (xSeq (xFor (xItA (xDef f_all_choices (xConsD (xCall cLen (xCons (xBin pIx (xVar 0) (xC (.int 1))) xNil)) xNilD))) (.nm 1)
    (xIfS (xB (xIsN false (xDef f_found_form_for (xConsD (xTup (xCons (xBin pIx (xVar 0) (xC (.int 0))) (xCons (xCall cTuple (xCons (xLc (xItA (xVar 1)) (.nm 2) xTyes
      (xBin pIx (xBin pIx (xVar 0) (xC (.int 1))) (xVar 2)) [2]) xNil)) xNil))) xNilD))))
    (xRet (xVar 1))
    xPass))
    (xRet (xC .non)))))
instance : LocS b_clash := by unfold b_clash; infer_instance
/-- _law_web(script, town, spans, most); slots: script town spans most k scene found ways i j -/
def b_law_web : XS :=
  (xSeq (xPar [5, 6] (xConsB (xDef f_law_scene (xConsD (xVar 0) (xConsD (xVar 1) (xConsD (xVar 2) (xConsD (xC (.int 5)) xNilD))))) (xConsB (xLst xNil) xNilD)))
    (xSeq (xFor (xRng1 (xDef f_law_draw (xConsD (xVar 0) (xConsD (xVar 1) (xConsD (xBin pAdd (xVar 3) (xC (.int 1))) xNilD))))) (.nm 4)
    (xIfS (xB (xBin pGt (xVar 2) (xC (.int 1))))
    (xSeq (xUnp [8, 9] (xDef f_law_pick (xConsD (xVar 0) (xConsD (xVar 1) (xConsD (xDef f_law_pairs (xConsD (xVar 2) xNilD)) xNilD)))))
    (xSeq (xSet 7 (xDef f_law_some (xConsD (xVar 0) (xConsD (xVar 1) xNilD))))
    (xSeq (xIfS (xB (xBin pGt (xDef f_law_draw (xConsD (xVar 0) (xConsD (xVar 1) (xConsD (xC (.int 5)) xNilD)))) (xC (.int 0))))
    (xSet 7 (xMeth .str mJoin (xC (.str [])) (xCons (xUn uSortedSet (xBin pAdd (xCall cListA (xCons (xVar 7) xNil)) (xLst (xCons (xDef f_law_letter (xConsD (xBin pIx (xVar 5) (xVar 8)) (xConsD (xBin pIx (xVar 5) (xVar 9)) xNilD))) xNil)))) xNil)))
    xPass)
    (xDrop (xApp (xVar 6) (xTup (xCons (xVar 8) (xCons (xVar 9) (xCons (xVar 7) xNil)))))))))
    xPass))
    (xRet (xTup (xCons (xVar 2) (xCons (xCall cTuple (xCons (xUn uSortedSetT (xVar 6)) xNil)) xNil))))))
instance : LocS b_law_web := by unfold b_law_web; infer_instance
/-- found_broken(web, scene); slots: web scene found number claim -/
def b_found_broken : XS :=
  (xSeq (xSet 2 (xLst xNil))
    (xSeq (xFor (xEnum (xBin pIx (xVar 0) (xC (.int 1)))) (.tp [3, 4])
    (xIfS (xB (xBin pNotIn (xDef f_letter_of (xConsD (xBin pIx (xVar 1) (xBin pIx (xVar 4) (xC (.int 0)))) (xConsD (xBin pIx (xVar 1) (xBin pIx (xVar 4) (xC (.int 1)))) xNilD))) (xBin pIx (xVar 4) (xC (.int 2)))))
    (xDrop (xApp (xVar 2) (xVar 3)))
    xPass))
    (xRet (xCall cTuple (xCons (xVar 2) xNil)))))
abbrev f_found_broken : XF := mkF 2 5 b_found_broken
instance : LocS b_found_broken := by unfold b_found_broken; infer_instance
/-- all_scenes(web); slots: web spans begin rows time scene row span end -/
def b_all_scenes : XS :=
  (xSeq (xDrop (xDef f_check_web (xConsD (xVar 0) xNilD)))
    (xSeq (xIfS (xB (xBin pGt (xBin pIx (xVar 0) (xC (.int 0))) (xC (.int 3))))
    xNever
    xPass)
    (xSeq (xSet 1 (xLst xNil))
    (xSeq (xFor (xRng1 (xBin pMul (xC (.int 2)) (xBin pIx (xVar 0) (xC (.int 0))))) (.nm 2)
    (xDrop (xExt (xVar 1) (xLc (xRng2 (xBin pAdd (xVar 2) (xC (.int 1))) (xBin pMul (xC (.int 2)) (xBin pIx (xVar 0) (xC (.int 0))))) (.nm 8) xTyes
      (xTup (xCons (xVar 2) (xCons (xVar 8) xNil))) [8]))))
    (xSeq (xSet 3 (xLst (xCons (xTup xNil) xNil)))
    (xSeq (xFor (xRng1 (xBin pIx (xVar 0) (xC (.int 0)))) (.nm 4)
    (xSet 3 (xLc2 (xItA (xVar 3)) (.nm 6) xTyes (xItA (xVar 1)) (.nm 7) xTyes
      (xBin pAdd (xVar 6) (xTup (xCons (xVar 7) xNil))) [6, 7] [7])))
    (xRet (xLc (xItA (xVar 3)) (.nm 5) (xB (xBin pEq (xDef f_found_broken (xConsD (xVar 0) (xConsD (xVar 5) xNilD))) (xTup xNil)))
      (xVar 5) [5]))))))))
abbrev f_all_scenes : XF := mkF 1 9 b_all_scenes
instance : LocS b_all_scenes := by unfold b_all_scenes; infer_instance
/-- naive_is_possible(web); slots: web -/
def b_naive_is_possible : XS :=
  (xRet (xBin pNe (xDef f_all_scenes (xConsD (xVar 0) xNilD)) (xLst xNil)))
instance : LocS b_naive_is_possible := by unfold b_naive_is_possible; infer_instance
/-- _law_keeps(web, scene); slots: web scene one -/
def b_law_keeps : XS :=
  (xRet (xBin pEq (xLc (xItA (xBin pIx (xVar 0) (xC (.int 1)))) (.nm 2) (xB (xBin pNotIn (xDef f_law_letter (xConsD (xBin pIx (xVar 1) (xBin pIx (xVar 2) (xC (.int 0)))) (xConsD (xBin pIx (xVar 1) (xBin pIx (xVar 2) (xC (.int 1)))) xNilD))) (xBin pIx (xVar 2) (xC (.int 2)))))
      (xVar 2) [2]) (xLst xNil)))
instance : LocS b_law_keeps := by unfold b_law_keeps; infer_instance
/-- keeps(web, scene); slots: web scene -/
def b_keeps : XS :=
  (xSeq (xDrop (xDef f_check_web (xConsD (xVar 0) xNilD)))
    (xSeq (xDrop (xDef f_check_scene (xConsD (xVar 1) xNilD)))
    (xRet (xAnd (xBin pEq (xCall cLen (xCons (xVar 1) xNil)) (xBin pIx (xVar 0) (xC (.int 0)))) (xBin pEq (xDef f_found_broken (xConsD (xVar 0) (xConsD (xVar 1) xNilD))) (xTup xNil))))))
instance : LocS b_keeps := by unfold b_keeps; infer_instance
/-- broken(web, scene); slots: web scene -/
def b_broken : XS :=
  (xSeq (xDrop (xDef f_check_web (xConsD (xVar 0) xNilD)))
    (xSeq (xDrop (xDef f_check_scene (xConsD (xVar 1) xNilD)))
    (xSeq (xIfS (xB (xBin pNe (xCall cLen (xCons (xVar 1) xNil)) (xBin pIx (xVar 0) (xC (.int 0)))))
    xNever
    xPass)
    (xRet (xDef f_found_broken (xConsD (xVar 0) (xConsD (xVar 1) xNilD)))))))
instance : LocS b_broken := by unfold b_broken; infer_instance
/-- _law_rows(many); slots: many rows number pair row -/
def b_law_rows : XS :=
  (xSeq (xSet 1 (xLst (xCons (xTup xNil) xNil)))
    (xSeq (xFor (xRng1 (xVar 0)) (.nm 2)
    (xSet 1 (xBin pAdd (xVar 1) (xLc (xItA (xVar 1)) (.nm 4) xTyes
      (xBin pAdd (xVar 4) (xTup (xCons (xVar 2) xNil))) [4]))))
    (xRet (xLc (xItA (xCall cSorted (xCons (xLc (xItA (xVar 1)) (.nm 4) xTyes
      (xTup (xCons (xCall cLen (xCons (xVar 4) xNil)) (xCons (xVar 4) xNil))) [4]) xNil))) (.nm 3) xTyes
      (xBin pIx (xVar 3) (xC (.int 1))) [3]))))
instance : LocS b_law_rows := by unfold b_law_rows; infer_instance
/-- naive_least_web(web); slots: web scenes found i j letters scene -/
def b_naive_least_web : XS :=
  (xSeq (xPar [1, 2] (xConsB (xDef f_all_scenes (xConsD (xVar 0) xNilD)) (xConsB (xLst xNil) xNilD)))
    (xSeq (xFor (xItA (xDef f_pairs_of (xConsD (xBin pIx (xVar 0) (xC (.int 0))) xNilD))) (.tp [3, 4])
    (xSeq (xSet 5 (xUn uSortedSet (xLc (xItA (xVar 1)) (.nm 6) xTyes
      (xDef f_letter_of (xConsD (xBin pIx (xVar 6) (xVar 3)) (xConsD (xBin pIx (xVar 6) (xVar 4)) xNilD))) [6])))
    (xIfS (xB (xBin pNe (xVar 5) (xLst xNil)))
    (xDrop (xApp (xVar 2) (xTup (xCons (xVar 3) (xCons (xVar 4) (xCons (xMeth .str mJoin (xC (.str [])) (xCons (xVar 5) xNil)) xNil))))))
    xPass)))
    (xRet (xCall cTuple (xCons (xVar 2) xNil)))))
instance : LocS b_naive_least_web := by unfold b_naive_least_web; infer_instance
/-- is_closed_least(web); slots: web -/
def b_is_closed_least : XS :=
  (xSeq (xDrop (xDef f_check_web (xConsD (xVar 0) xNilD)))
    (xRet (xBin pEq (xDef f_found_closed (xConsD (xBin pIx (xVar 0) (xC (.int 0))) (xConsD (xDef f_allowed_ways (xConsD (xVar 0) xNilD)) xNilD))) (xDef f_found_least (xConsD (xVar 0) xNilD)))))
instance : LocS b_is_closed_least := by unfold b_is_closed_least; infer_instance
/-- check_two(web, other); slots: web other -/
def b_check_two : XS :=
  (xSeq (xDrop (xDef f_check_web (xConsD (xVar 0) xNilD)))
    (xSeq (xDrop (xDef f_check_web (xConsD (xVar 1) xNilD)))
    (xIfS (xB (xBin pNe (xBin pIx (xVar 0) (xC (.int 0))) (xBin pIx (xVar 1) (xC (.int 0)))))
    xNever
    xPass)))
abbrev f_check_two : XF := mkF 2 2 b_check_two
instance : LocS b_check_two := by unfold b_check_two; infer_instance
/-- found_parting(web, other); slots: web other one two claim form -/
def b_found_parting : XS :=
  (xSeq (xFor (xItA (xTup (xCons (xTup (xCons (xVar 0) (xCons (xVar 1) xNil))) (xCons (xTup (xCons (xVar 1) (xCons (xVar 0) xNil))) xNil)))) (.tp [2, 3])
    (xFor (xItA (xBin pIx (xVar 3) (xC (.int 1)))) (.nm 4)
    (xSeq (xSet 5 (xDef f_against (xConsD (xVar 2) (xConsD (xVar 4) xNilD))))
    (xIfS (xB (xIsN true (xVar 5)))
    (xRet (xVar 5))
    xPass))))
    (xRet (xC .non)))
abbrev f_found_parting : XF := mkF 2 6 b_found_parting
instance : LocS b_found_parting := by unfold b_found_parting; infer_instance
/-- same_webs(web, other); slots: web other -/
def b_same_webs : XS :=
  (xSeq (xDrop (xDef f_check_two (xConsD (xVar 0) (xConsD (xVar 1) xNilD))))
    (xRet (xIsN false (xDef f_found_parting (xConsD (xVar 0) (xConsD (xVar 1) xNilD))))))
instance : LocS b_same_webs := by unfold b_same_webs; infer_instance
/-- breaking_form(web, claim); slots: web claim -/
def b_breaking_form : XS :=
  (xSeq (xDrop (xDef f_check_web (xConsD (xVar 0) xNilD)))
    (xSeq (xDrop (xDef f_check_claim (xConsD (xVar 0) (xConsD (xVar 1) xNilD))))
    (xRet (xDef f_against (xConsD (xVar 0) (xConsD (xVar 1) xNilD))))))
instance : LocS b_breaking_form := by unfold b_breaking_form; infer_instance
/-- parting_form(web, other); slots: web other -/
def b_parting_form : XS :=
  (xSeq (xDrop (xDef f_check_two (xConsD (xVar 0) (xConsD (xVar 1) xNilD))))
    (xRet (xDef f_found_parting (xConsD (xVar 0) (xConsD (xVar 1) xNilD)))))
instance : LocS b_parting_form := by unfold b_parting_form; infer_instance
/-- check_form(form); slots: form -/
def b_check_form : XS :=
  (xIfS (xTnot (xB (xDef f_is_form (xConsD (xVar 0) xNilD))))
    xNever
    xPass)
abbrev f_check_form : XF := mkF 1 1 b_check_form
instance : LocS b_check_form := by unfold b_check_form; infer_instance
/-- is_end(spans, value); slots: spans value -/
def b_is_end : XS :=
  (xSeq (xIfS (xTor (xTnot (xB (xUn (pIsi isiTuple) (xVar 1)))) (xB (xBin pNe (xCall cLen (xCons (xVar 1) xNil)) (xC (.int 2)))))
    (xRet (xC (.bl false)))
    xPass)
    (xRet (xAnd (xDef f_is_between (xConsD (xBin pIx (xVar 1) (xC (.int 0))) (xConsD (xC (.int 0)) (xConsD (xBin pSub (xVar 0) (xC (.int 1))) xNilD)))) (xDef f_is_between (xConsD (xBin pIx (xVar 1) (xC (.int 1))) (xConsD (xC (.int 0)) (xConsD (xC (.int 1)) xNilD)))))))
abbrev f_is_end : XF := mkF 2 2 b_is_end
instance : LocS b_is_end := by unfold b_is_end; infer_instance
/-- check_bounds(spans, bounds); slots: spans bounds bound k -/
def b_check_bounds : XS :=
  (xSeq (xIfS (xTor (xTnot (xB (xUn (pIsi isiTuple) (xVar 1)))) (xB (xBin pGt (xCall cLen (xCons (xVar 1) xNil)) (xC (.int 8)))))
    xNever
    xPass)
    (xSeq (xFor (xItA (xVar 1)) (.nm 2)
    (xSeq (xIfS (xTor (xTnot (xB (xUn (pIsi isiTuple) (xVar 2)))) (xTor (xB (xBin pNe (xCall cLen (xCons (xVar 2) xNil)) (xC (.int 3)))) (xTnot (xB (xDef f_is_end (xConsD (xVar 0) (xConsD (xBin pIx (xVar 2) (xC (.int 0))) xNilD)))))))
    xNever
    xPass)
    (xIfS (xTor (xTnot (xB (xDef f_is_end (xConsD (xVar 0) (xConsD (xBin pIx (xVar 2) (xC (.int 1))) xNilD))))) (xTor (xB (xBin pEq (xBin pIx (xVar 2) (xC (.int 0))) (xBin pIx (xVar 2) (xC (.int 1))))) (xTnot (xB (xDef f_is_between (xConsD (xBin pIx (xVar 2) (xC (.int 2))) (xConsD (xUn pNeg (xC (.int 20))) (xConsD (xC (.int 20)) xNilD))))))))
    xNever
    xPass)))
    (xIfS (xTnot (xB (xCall cAll (xCons (xLc (xRng1 (xBin pSub (xCall cLen (xCons (xVar 1) xNil)) (xC (.int 1)))) (.nm 3) xTyes
      (xBin pLt (xBin pIx (xVar 1) (xVar 3)) (xBin pIx (xVar 1) (xBin pAdd (xVar 3) (xC (.int 1))))) [3]) xNil))))
    xNever
    xPass)))
abbrev f_check_bounds : XF := mkF 2 4 b_check_bounds
instance : LocS b_check_bounds := by unfold b_check_bounds; infer_instance
/-- found_times(form, bounds); slots: form bounds many times time is_new number one other most low high begin end -/
def b_found_times : XS :=
  (xSeq (xSet 2 (xBin pAdd (xC (.int 1)) (xCall cMax (xCons (xLc (xItA (xVar 0)) (.tp [12, 13]) xTyes
      (xVar 13) [12, 13]) xNil))))
    (xSeq (xSet 3 (xUn uListRng (xVar 2)))
    (xSeq (xFor (xRng1 (xBin pAdd (xVar 2) (xC (.int 1)))) (.nm 4)
    (xSeq (xSet 5 (xC (.bl false)))
    (xSeq (xFor (xItA (xVar 1)) (.tp [7, 8, 9])
    (xSeq (xPar [10, 11] (xConsB (xBin pIx (xBin pIx (xVar 0) (xBin pIx (xVar 8) (xC (.int 0)))) (xBin pIx (xVar 8) (xC (.int 1)))) (xConsB (xBin pIx (xBin pIx (xVar 0) (xBin pIx (xVar 7) (xC (.int 0)))) (xBin pIx (xVar 7) (xC (.int 1)))) xNilD)))
    (xIfS (xB (xBin pLt (xBin pIx (xVar 3) (xVar 11)) (xBin pSub (xBin pIx (xVar 3) (xVar 10)) (xVar 9))))
    (xSeq (xPutL (xBin pSub (xBin pIx (xVar 3) (xVar 10)) (xVar 9)) (xVar 3) (xVar 11))
    (xSet 5 (xC (.bl true))))
    xPass)))
    (xSeq (xFor (xRng2 (xC (.int 1)) (xVar 2)) (.nm 6)
    (xIfS (xB (xBin pLe (xBin pIx (xVar 3) (xVar 6)) (xBin pIx (xVar 3) (xBin pSub (xVar 6) (xC (.int 1))))))
    (xSeq (xPutL (xBin pAdd (xBin pIx (xVar 3) (xBin pSub (xVar 6) (xC (.int 1)))) (xC (.int 1))) (xVar 3) (xVar 6))
    (xSet 5 (xC (.bl true))))
    xPass))
    (xSeq (xIfS (xB (xBin pGt (xBin pIx (xVar 3) (xC (.int 0))) (xC (.int 0))))
    (xRet (xC .non))
    xPass)
    (xIfS (xTnot (xB (xVar 5)))
    (xRet (xVar 3))
    xPass))))))
    (xRet (xC .non)))))
abbrev f_found_times : XF := mkF 2 14 b_found_times
instance : LocS b_found_times := by unfold b_found_times; infer_instance
/-- scene_at(form, times); slots: form times begin end -/
def b_scene_at : XS :=
  (xRet (xCall cTuple (xCons (xLc (xItA (xVar 0)) (.tp [2, 3]) xTyes
      (xTup (xCons (xBin pIx (xVar 1) (xVar 2)) (xCons (xBin pIx (xVar 1) (xVar 3)) xNil))) [2, 3]) xNil)))
abbrev f_scene_at : XF := mkF 2 4 b_scene_at
instance : LocS b_scene_at := by unfold b_scene_at; infer_instance
/-- earliest(form, bounds); slots: form bounds times -/
def b_earliest : XS :=
  (xSeq (xDrop (xDef f_check_form (xConsD (xVar 0) xNilD)))
    (xSeq (xDrop (xDef f_check_bounds (xConsD (xCall cLen (xCons (xVar 0) xNil)) (xConsD (xVar 1) xNilD))))
    (xSeq (xSet 2 (xDef f_found_times (xConsD (xVar 0) (xConsD (xVar 1) xNilD))))
    (xRet (xIf (xB (xIsN false (xVar 2))) (xC .non) (xDef f_scene_at (xConsD (xVar 0) (xConsD (xVar 2) xNilD))))))))
instance : LocS b_earliest := by unfold b_earliest; infer_instance
/-- check_both(web, bounds); slots: web bounds -/
def b_check_both : XS :=
  (xSeq (xDrop (xDef f_check_web (xConsD (xVar 0) xNilD)))
    (xSeq (xDrop (xDef f_check_bounds (xConsD (xBin pIx (xVar 0) (xC (.int 0))) (xConsD (xVar 1) xNilD))))
    (xDrop (xDef f_check_few (xConsD (xVar 0) xNilD)))))
abbrev f_check_both : XF := mkF 2 2 b_check_both
instance : LocS b_check_both := by unfold b_check_both; infer_instance
/-- shortest(web, bounds); slots: web bounds rows form times -/
def b_shortest : XS :=
  (xSeq (xDrop (xDef f_check_both (xConsD (xVar 0) (xConsD (xVar 1) xNilD))))
    (xSeq (xSet 2 (xLst xNil))
    (xSeq (xFor (xItA (xDef f_found_forms (xConsD (xVar 0) xNilD))) (.nm 3)
    (xSeq (xSet 4 (xDef f_found_times (xConsD (xVar 3) (xConsD (xVar 1) xNilD))))
    (xIfS (xB (xIsN true (xVar 4)))
    (xDrop (xApp (xVar 2) (xTup (xCons (xBin pIx (xVar 4) (xUn pNeg (xC (.int 1)))) (xCons (xVar 3) xNil)))))
    xPass)))
    (xRet (xIf (xB (xBin pNe (xVar 2) (xLst xNil))) (xCall cMin (xCons (xVar 2) xNil)) (xC .non))))))
instance : LocS b_shortest := by unfold b_shortest; infer_instance
/-- can_keep(web, bounds); slots: web bounds form -/
def b_can_keep : XS :=
  (xSeq (xDrop (xDef f_check_both (xConsD (xVar 0) (xConsD (xVar 1) xNilD))))
    (xRet (xCall cAny (xCons (xLc (xItA (xDef f_found_forms (xConsD (xVar 0) xNilD))) (.nm 2) xTyes
      (xIsN true (xDef f_found_times (xConsD (xVar 2) (xConsD (xVar 1) xNilD)))) [2]) xNil))))
instance : LocS b_can_keep := by unfold b_can_keep; infer_instance
/-- _law_kept(scene, bounds); slots: scene bounds one other most -/
def b_law_kept : XS :=
  (xSeq (xFor (xItA (xVar 1)) (.tp [2, 3, 4])
    (xIfS (xB (xBin pGt (xBin pSub (xBin pIx (xBin pIx (xVar 0) (xBin pIx (xVar 3) (xC (.int 0)))) (xBin pIx (xVar 3) (xC (.int 1)))) (xBin pIx (xBin pIx (xVar 0) (xBin pIx (xVar 2) (xC (.int 0)))) (xBin pIx (xVar 2) (xC (.int 1))))) (xVar 4)))
    (xRet (xC (.bl false)))
    xPass))
    (xRet (xC (.bl true))))
instance : LocS b_law_kept := by unfold b_law_kept; infer_instance
/-- rooms(scene); slots: scene found begin number taken other span room -/
def b_rooms : XS :=
  (xSeq (xDrop (xDef f_check_scene (xConsD (xVar 0) xNilD)))
    (xSeq (xSet 1 (xNewD false))
    (xSeq (xFor (xItA (xCall cSorted (xCons (xLc (xEnum (xVar 0)) (.tp [3, 6]) xTyes
      (xTup (xCons (xBin pIx (xVar 6) (xC (.int 0))) (xCons (xVar 3) xNil))) [3, 6]) xNil))) (.tp [2, 3])
    (xSeq (xSet 4 (xLockE 1 (xLc (xItL 1) (.nm 5) (xB (xDef f_share_moment (xConsD (xBin pIx (xVar 0) (xVar 5)) (xConsD (xBin pIx (xVar 0) (xVar 3)) xNilD))))
      (xGetD (xVar 1) (xVar 5)) [5])))
    (xPutD (xBin pIx (xLc (xRng1 (xCall cLen (xCons (xVar 0) xNil))) (.nm 7) (xB (xBin pNotIn (xVar 7) (xVar 4)))
      (xVar 7) [7]) (xC (.int 0))) (xVar 1) (xVar 3))))
    (xRet (xCall cTuple (xCons (xLc (xRng1 (xCall cLen (xCons (xVar 0) xNil))) (.nm 3) xTyes
      (xGetD (xVar 1) (xVar 3)) [3]) xNil))))))
abbrev f_rooms : XF := mkF 1 8 b_rooms
instance : LocS b_rooms := by unfold b_rooms; infer_instance
/-- found_at_once(scene); slots: scene moment last begin end -/
def b_found_at_once : XS :=
  (xRet (xCall cMax (xCons (xLc (xItA (xVar 0)) (.tp [1, 2]) xTyes
      (xCall cLen (xCons (xLc (xItA (xVar 0)) (.tp [3, 4]) (xB (xChain pLe pLt (xVar 3) (xVar 1) (xVar 4)))
      (xC (.int 1)) [3, 4]) xNil)) [1, 2]) xNil)))
abbrev f_found_at_once : XF := mkF 1 5 b_found_at_once
instance : LocS b_found_at_once := by unfold b_found_at_once; infer_instance
/-- at_once(scene); slots: scene -/
def b_at_once : XS :=
  (xSeq (xDrop (xDef f_check_scene (xConsD (xVar 0) xNilD)))
    (xRet (xDef f_found_at_once (xConsD (xVar 0) xNilD))))
abbrev f_at_once : XF := mkF 1 1 b_at_once
instance : LocS b_at_once := by unfold b_at_once; infer_instance
/-- naive_at_once(scene); slots: scene best moment begin end span -/
def b_naive_at_once : XS :=
  (xSeq (xDrop (xDef f_check_scene (xConsD (xVar 0) xNilD)))
    (xSeq (xSet 1 (xC (.int 0)))
    (xSeq (xFor (xItA (xUn uSortedSet (xLc (xItA (xVar 0)) (.tp [3, 4]) xTyes
      (xVar 3) [3, 4]))) (.nm 2)
    (xSet 1 (xCall cMax (xCons (xVar 1) (xCons (xCall cLen (xCons (xLc (xItA (xVar 0)) (.nm 5) (xB (xDef f_share_moment (xConsD (xVar 5) (xConsD (xTup (xCons (xVar 2) (xCons (xBin pAdd (xVar 2) (xC (.int 1))) xNil))) xNilD))))
      (xC (.int 1)) [5]) xNil)) xNil)))))
    (xRet (xVar 1)))))
abbrev f_naive_at_once : XF := mkF 1 6 b_naive_at_once
instance : LocS b_naive_at_once := by unfold b_naive_at_once; infer_instance
/-- _law_most(form); slots: form moment begin end -/
def b_law_most : XS :=
  (xRet (xCall cMax (xCons (xLc (xRng1 (xC (.int 6))) (.nm 1) xTyes
      (xCall cLen (xCons (xLc (xItA (xVar 0)) (.tp [2, 3]) (xB (xChain pLe pLt (xVar 2) (xVar 1) (xVar 3)))
      (xC (.int 1)) [2, 3]) xNil)) [1]) xNil)))
instance : LocS b_law_most := by unfold b_law_most; infer_instance
/-- all_numbers(web); slots: web form -/
def b_all_numbers : XS :=
  (xSeq (xDrop (xDef f_check_web (xConsD (xVar 0) xNilD)))
    (xSeq (xDrop (xDef f_check_few (xConsD (xVar 0) xNilD)))
    (xRet (xLc (xItA (xDef f_found_forms (xConsD (xVar 0) xNilD))) (.nm 1) xTyes
      (xDef f_found_at_once (xConsD (xVar 1) xNilD)) [1]))))
abbrev f_all_numbers : XF := mkF 1 2 b_all_numbers
instance : LocS b_all_numbers := by unfold b_all_numbers; infer_instance
/-- least_at_once(web); slots: web some -/
def b_least_at_once : XS :=
  (xSeq (xSet 1 (xDef f_all_numbers (xConsD (xVar 0) xNilD)))
    (xRet (xIf (xB (xBin pNe (xVar 1) (xLst xNil))) (xCall cMin (xCons (xVar 1) xNil)) (xC .non))))
instance : LocS b_least_at_once := by unfold b_least_at_once; infer_instance
/-- most_at_once(web); slots: web some -/
def b_most_at_once : XS :=
  (xSeq (xSet 1 (xDef f_all_numbers (xConsD (xVar 0) xNilD)))
    (xRet (xIf (xB (xBin pNe (xVar 1) (xLst xNil))) (xCall cMax (xCons (xVar 1) xNil)) (xC .non))))
instance : LocS b_most_at_once := by unfold b_most_at_once; infer_instance
/-- first_with(web, many); slots: web many some form -/
def b_first_with : XS :=
  (xSeq (xDrop (xDef f_check_web (xConsD (xVar 0) xNilD)))
    (xSeq (xIfS (xTnot (xB (xDef f_is_between (xConsD (xVar 1) (xConsD (xC (.int 1)) (xConsD (xC (.int 5)) xNilD))))))
    xNever
    xPass)
    (xSeq (xDrop (xDef f_check_few (xConsD (xVar 0) xNilD)))
    (xSeq (xSet 2 (xLc (xItA (xDef f_found_forms (xConsD (xVar 0) xNilD))) (.nm 3) (xB (xBin pLe (xDef f_found_at_once (xConsD (xVar 3) xNilD)) (xVar 1)))
      (xVar 3) [3]))
    (xRet (xIf (xB (xBin pNe (xVar 2) (xLst xNil))) (xBin pIx (xVar 2) (xC (.int 0))) (xC .non)))))))
instance : LocS b_first_with := by unfold b_first_with; infer_instance
/-- part_without(web, row); slots: web row number claim -/
def b_part_without : XS :=
  (xRet (xTup (xCons (xBin pIx (xVar 0) (xC (.int 0))) (xCons (xCall cTuple (xCons (xLc (xEnum (xBin pIx (xVar 0) (xC (.int 1)))) (.tp [2, 3]) (xB (xBin pNotIn (xVar 2) (xVar 1)))
      (xVar 3) [2, 3]) xNil)) xNil))))
abbrev f_part_without : XF := mkF 2 4 b_part_without
instance : LocS b_part_without := by unfold b_part_without; infer_instance
/-- found_rows(web); slots: web found row -/
def b_found_rows : XS :=
  (xSeq (xDrop (xDef f_check_web (xConsD (xVar 0) xNilD)))
    (xSeq (xDrop (xDef f_check_few (xConsD (xVar 0) xNilD)))
    (xSeq (xSet 1 (xLst xNil))
    (xSeq (xFor (xItA (xDef f_all_choices (xConsD (xCall cLen (xCons (xBin pIx (xVar 0) (xC (.int 1))) xNil)) xNilD))) (.nm 2)
    (xSeq (xIfS (xTand (xB (xBin pNe (xVar 1) (xLst xNil))) (xB (xBin pGt (xCall cLen (xCons (xVar 2) xNil)) (xCall cLen (xCons (xBin pIx (xVar 1) (xC (.int 0))) xNil)))))
    (xRet (xVar 1))
    xPass)
    (xIfS (xB (xIsN true (xDef f_found_form_for (xConsD (xDef f_part_without (xConsD (xVar 0) (xConsD (xVar 2) xNilD))) xNilD))))
    (xDrop (xApp (xVar 1) (xVar 2)))
    xPass)))
    (xRet (xVar 1))))))
abbrev f_found_rows : XF := mkF 1 3 b_found_rows
instance : LocS b_found_rows := by unfold b_found_rows; infer_instance
/-- all_left_out(web); slots: web -/
def b_all_left_out : XS :=
  (xRet (xCall cTuple (xCons (xDef f_found_rows (xConsD (xVar 0) xNilD)) xNil)))
instance : LocS b_all_left_out := by unfold b_all_left_out; infer_instance
/-- found_best(web); slots: web found row form -/
def b_found_best : XS :=
  (xSeq (xSet 1 (xNewD false))
    (xSeq (xFor (xItA (xDef f_found_rows (xConsD (xVar 0) xNilD))) (.nm 2)
    (xFor (xItA (xDef f_found_forms (xConsD (xDef f_part_without (xConsD (xVar 0) (xConsD (xVar 2) xNilD))) xNilD))) (.nm 3)
    (xPutD (xC (.bl true)) (xVar 1) (xVar 3))))
    (xRet (xSortedD (xVar 1)))))
abbrev f_found_best : XF := mkF 1 4 b_found_best
instance : LocS b_found_best := by unfold b_found_best; infer_instance
/-- best_forms(web); slots: web -/
def b_best_forms : XS :=
  (xRet (xCall cTuple (xCons (xDef f_found_best (xConsD (xVar 0) xNilD)) xNil)))
instance : LocS b_best_forms := by unfold b_best_forms; infer_instance
/-- fewest_left_out(web); slots: web -/
def b_fewest_left_out : XS :=
  (xRet (xCall cLen (xCons (xBin pIx (xDef f_found_rows (xConsD (xVar 0) xNilD)) (xC (.int 0))) xNil)))
instance : LocS b_fewest_left_out := by unfold b_fewest_left_out; infer_instance
/-- fewest_let_in(web); slots: web -/
def b_fewest_let_in : XS :=
  (xRet (xCall cLen (xCons (xDef f_found_broken (xConsD (xVar 0) (xConsD (xBin pIx (xDef f_found_best (xConsD (xVar 0) xNilD)) (xC (.int 0))) xNilD))) xNil)))
instance : LocS b_fewest_let_in := by unfold b_fewest_let_in; infer_instance
def t_BACKWARD : Tab := [([98], (.str [66])), ([66], (.str [98])), ([109], (.str [77])), ([77], (.str [109])), ([111], (.str [79])), ([79], (.str [111])), ([115], (.str [102])), ([102], (.str [115])), ([83], (.str [70])), ([70], (.str [83]))]
/-- backward(web); slots: web found i j ways some letter -/
def b_backward : XS :=
  (xSeq (xDrop (xDef f_check_web (xConsD (xVar 0) xNilD)))
    (xSeq (xSet 1 (xNewD true))
    (xSeq (xFor (xItA (xBin pIx (xVar 0) (xC (.int 1)))) (.tp [2, 3, 4])
    (xSeq (xSet 5 (xCall cSorted (xCons (xLc (xItA (xVar 4)) (.nm 6) xTyes
      (xIf (xB (xUn (tabIn t_BACKWARD) (xVar 6))) (xUn (tabGet t_BACKWARD) (xVar 6)) (xVar 6)) [6]) xNil)))
    (xPutD (xC (.bl true)) (xVar 1) (xTup (xCons (xVar 2) (xCons (xVar 3) (xCons (xMeth .str mJoin (xC (.str [])) (xCons (xVar 5) xNil)) xNil)))))))
    (xRet (xTup (xCons (xBin pIx (xVar 0) (xC (.int 0))) (xCons (xCall cTuple (xCons (xSortedT (xVar 1)) xNil)) xNil)))))))
instance : LocS b_backward := by unfold b_backward; infer_instance
/-- renamed_web(web, order); slots: web order found i j ways one other -/
def b_renamed_web : XS :=
  (xSeq (xSet 2 (xNewD true))
    (xSeq (xFor (xItA (xBin pIx (xVar 0) (xC (.int 1)))) (.tp [3, 4, 5])
    (xSeq (xPar [6, 7] (xConsB (xBin pIx (xVar 1) (xVar 3)) (xConsB (xBin pIx (xVar 1) (xVar 4)) xNilD)))
    (xPutD (xC (.bl true)) (xVar 2) (xIf (xB (xBin pLt (xVar 6) (xVar 7))) (xTup (xCons (xVar 6) (xCons (xVar 7) (xCons (xVar 5) xNil)))) (xTup (xCons (xVar 7) (xCons (xVar 6) (xCons (xDef f_turned (xConsD (xVar 5) xNilD)) xNil))))))))
    (xRet (xTup (xCons (xBin pIx (xVar 0) (xC (.int 0))) (xCons (xCall cTuple (xCons (xSortedT (xVar 2)) xNil)) xNil))))))
abbrev f_renamed_web : XF := mkF 2 8 b_renamed_web
instance : LocS b_renamed_web := by unfold b_renamed_web; infer_instance
/-- is_order(spans, value); slots: spans value one -/
def b_is_order : XS :=
  (xSeq (xIfS (xTor (xTnot (xB (xUn (pIsi isiTuple) (xVar 1)))) (xB (xBin pNe (xCall cLen (xCons (xVar 1) xNil)) (xVar 0))))
    (xRet (xC (.bl false)))
    xPass)
    (xRet (xAnd (xCall cAll (xCons (xLc (xItA (xVar 1)) (.nm 2) xTyes
      (xDef f_is_between (xConsD (xVar 2) (xConsD (xC (.int 0)) (xConsD (xBin pSub (xVar 0) (xC (.int 1))) xNilD)))) [2]) xNil)) (xBin pEq (xUn uLenSetPt (xVar 1)) (xVar 0)))))
abbrev f_is_order : XF := mkF 2 3 b_is_order
instance : LocS b_is_order := by unfold b_is_order; infer_instance
/-- renamed(web, order); slots: web order -/
def b_renamed : XS :=
  (xSeq (xDrop (xDef f_check_web (xConsD (xVar 0) xNilD)))
    (xSeq (xIfS (xTnot (xB (xDef f_is_order (xConsD (xBin pIx (xVar 0) (xC (.int 0))) (xConsD (xVar 1) xNilD)))))
    xNever
    xPass)
    (xRet (xDef f_renamed_web (xConsD (xVar 0) (xConsD (xVar 1) xNilD))))))
instance : LocS b_renamed := by unfold b_renamed; infer_instance
/-- all_orders(spans); slots: spans rows time row one -/
def b_all_orders : XS :=
  (xSeq (xSet 1 (xLst (xCons (xTup xNil) xNil)))
    (xSeq (xFor (xRng1 (xVar 0)) (.nm 2)
    (xSet 1 (xLc2 (xItA (xVar 1)) (.nm 3) xTyes (xRng1 (xVar 0)) (.nm 4) (xB (xBin pNotIn (xVar 4) (xVar 3)))
      (xBin pAdd (xVar 3) (xTup (xCons (xVar 4) xNil))) [3, 4] [4])))
    (xRet (xVar 1))))
abbrev f_all_orders : XF := mkF 1 5 b_all_orders
instance : LocS b_all_orders := by unfold b_all_orders; infer_instance
/-- symmetries(web); slots: web order -/
def b_symmetries : XS :=
  (xSeq (xDrop (xDef f_check_web (xConsD (xVar 0) xNilD)))
    (xRet (xCall cTuple (xCons (xLc (xItA (xDef f_all_orders (xConsD (xBin pIx (xVar 0) (xC (.int 0))) xNilD))) (.nm 1) (xB (xIsN false (xDef f_found_parting (xConsD (xVar 0) (xConsD (xDef f_renamed_web (xConsD (xVar 0) (xConsD (xVar 1) xNilD))) xNilD)))))
      (xVar 1) [1]) xNil))))
instance : LocS b_symmetries := by unfold b_symmetries; infer_instance
/-- _law_orders(spans); slots: spans rows k later row one -/
def b_law_orders : XS :=
  (xSeq (xSet 1 (xLst (xCons (xTup xNil) xNil)))
    (xSeq (xFor (xRng1 (xVar 0)) (.nm 2)
    (xSeq (xSet 3 (xLst xNil))
    (xSeq (xFor (xItA (xVar 1)) (.nm 4)
    (xSet 3 (xBin pAdd (xVar 3) (xLc (xRng1 (xVar 0)) (.nm 5) (xB (xBin pNotIn (xVar 5) (xVar 4)))
      (xBin pAdd (xVar 4) (xTup (xCons (xVar 5) xNil))) [5]))))
    (xSet 1 (xVar 3)))))
    (xRet (xVar 1))))
instance : LocS b_law_orders := by unfold b_law_orders; infer_instance
/-- backward_scene(scene); slots: scene begin end -/
def b_backward_scene : XS :=
  (xSeq (xDrop (xDef f_check_scene (xConsD (xVar 0) xNilD)))
    (xRet (xCall cTuple (xCons (xLc (xItA (xVar 0)) (.tp [1, 2]) xTyes
      (xTup (xCons (xUn pNeg (xVar 2)) (xCons (xUn pNeg (xVar 1)) xNil))) [1, 2]) xNil))))
instance : LocS b_backward_scene := by unfold b_backward_scene; infer_instance
/-- _law_narrow(script, town, spans); slots: script town spans k many found -/
def b_law_narrow : XS :=
  (xSeq (xIfS (xB (xBin pEq (xVar 2) (xC (.int 1))))
    (xRet (xTup (xCons (xC (.int 1)) (xCons (xTup xNil) xNil))))
    xPass)
    (xSeq (xPar [4, 5] (xConsB (xDef f_law_draw (xConsD (xVar 0) (xConsD (xVar 1) (xConsD (xC (.int 5)) xNilD)))) (xConsB (xLst xNil) xNilD)))
    (xSeq (xFor (xRng1 (xVar 4)) (.nm 3)
    (xDrop (xApp (xVar 5) (xTup (xCons (xC (.int 0)) (xCons (xC (.int 1)) (xCons (xSl (xDef f_law_some (xConsD (xVar 0) (xConsD (xVar 1) xNilD))) none (some (xDef f_law_pick (xConsD (xVar 0) (xConsD (xVar 1) (xConsD (xLst (xCons (xC (.int 1)) (xCons (xC (.int 2)) (xCons (xC (.int 13)) xNil)))) xNilD)))))) xNil)))))))
    (xRet (xTup (xCons (xC (.int 2)) (xCons (xCall cTuple (xCons (xUn uSortedSetT (xVar 5)) xNil)) xNil)))))))
instance : LocS b_law_narrow := by unfold b_law_narrow; infer_instance
end XL
end
section
set_option Elab.async false
set_option linter.all false
set_option maxRecDepth 100000
set_option maxHeartbeats 4000000
set_option synthInstance.maxSize 100000
set_option synthInstance.maxHeartbeats 4000000
namespace XL
/-- law(script); slots: script town scene last counts pairs found dealt begin number taken other i j common moment span room end -/
def b_law_k50 : XS :=
  (xSeq (xSet 1 (xDef f_law_town (xConsD (xVar 0) xNilD)))
    (xSeq (xSet 2 (xDef f_law_scene (xConsD (xVar 0) (xConsD (xVar 1) (xConsD (xBin pAdd (xC (.int 1)) (xDef f_law_draw (xConsD (xVar 0) (xConsD (xVar 1) (xConsD (xC (.int 5)) xNilD))))) (xConsD (xDef f_law_pick (xConsD (xVar 0) (xConsD (xVar 1) (xConsD (xLst (xCons (xC (.int 2)) (xCons (xC (.int 4)) (xCons (xC (.int 9)) xNil)))) xNilD)))) xNilD))))))
    (xSeq (xSet 3 (xCall cMax (xCons (xLc (xItA (xVar 2)) (.nm 16) xTyes
      (xBin pIx (xVar 16) (xC (.int 1))) [16]) xNil)))
    (xSeq (xSet 4 (xLc (xRng1 (xVar 3)) (.nm 15) xTyes
      (xCall cLen (xCons (xLc (xItA (xVar 2)) (.tp [8, 18]) (xB (xChain pLe pLt (xVar 8) (xVar 15) (xVar 18)))
      (xC (.int 1)) [8, 18]) xNil)) [15]))
    (xSeq (xIfS (xTor (xB (xBin pNe (xDef f_at_once (xConsD (xVar 2) xNilD)) (xCall cMax (xCons (xVar 4) xNil)))) (xTor (xB (xBin pNe (xDef f_naive_at_once (xConsD (xVar 2) xNilD)) (xCall cMax (xCons (xVar 4) xNil)))) (xB (xBin pNe (xDef f_at_once (xConsD (xDef f_form_of (xConsD (xVar 2) xNilD)) xNilD)) (xCall cMax (xCons (xVar 4) xNil))))))
    (xRet (xC (.bl false)))
    xPass)
    (xSeq (xPar [6, 7] (xConsB (xDef f_rooms (xConsD (xVar 2) xNilD)) (xConsB (xNewD false) xNilD)))
    (xSeq (xFor (xItA (xCall cSorted (xCons (xLc (xRng1 (xCall cLen (xCons (xVar 2) xNil))) (.nm 9) xTyes
      (xTup (xCons (xBin pIx (xBin pIx (xVar 2) (xVar 9)) (xC (.int 0))) (xCons (xVar 9) xNil))) [9]) xNil))) (.tp [8, 9])
    (xSeq (xSet 10 (xLst xNil))
    (xSeq (xLockS 7 (xFor (xItL 7) (.nm 11)
    (xIfS (xTand (xB (xBin pLt (xBin pIx (xBin pIx (xVar 2) (xVar 11)) (xC (.int 0))) (xBin pIx (xBin pIx (xVar 2) (xVar 9)) (xC (.int 1))))) (xB (xBin pLt (xBin pIx (xBin pIx (xVar 2) (xVar 9)) (xC (.int 0))) (xBin pIx (xBin pIx (xVar 2) (xVar 11)) (xC (.int 1))))))
    (xDrop (xApp (xVar 10) (xGetD (xVar 7) (xVar 11))))
    xPass)))
    (xPutD (xCall cMin (xCons (xLc (xRng1 (xC (.int 5))) (.nm 17) (xB (xBin pNotIn (xVar 17) (xVar 10)))
      (xVar 17) [17]) xNil)) (xVar 7) (xVar 9)))))
    (xSeq (xIfS (xB (xBin pNe (xVar 6) (xCall cTuple (xCons (xLc (xRng1 (xCall cLen (xCons (xVar 2) xNil))) (.nm 9) xTyes
      (xGetD (xVar 7) (xVar 9)) [9]) xNil))))
    (xRet (xC (.bl false)))
    xPass)
    (xSeq (xIfS (xTor (xB (xBin pNe (xUn uLenSetPt (xVar 6)) (xDef f_at_once (xConsD (xVar 2) xNilD)))) (xB (xBin pNe (xCall cMaxT (xCons (xVar 6) xNil)) (xBin pSub (xDef f_at_once (xConsD (xVar 2) xNilD)) (xC (.int 1))))))
    (xRet (xC (.bl false)))
    xPass)
    (xSeq (xSet 5 (xBin pIx (xDef f_picture_of (xConsD (xVar 2) xNilD)) (xC (.int 1))))
    (xSeq (xFor (xItA (xDef f_law_pairs (xConsD (xCall cLen (xCons (xVar 2) xNil)) xNilD))) (.tp [12, 13])
    (xSeq (xSet 14 (xAnd (xBin pLt (xBin pIx (xBin pIx (xVar 2) (xVar 12)) (xC (.int 0))) (xBin pIx (xBin pIx (xVar 2) (xVar 13)) (xC (.int 1)))) (xBin pLt (xBin pIx (xBin pIx (xVar 2) (xVar 13)) (xC (.int 0))) (xBin pIx (xBin pIx (xVar 2) (xVar 12)) (xC (.int 1))))))
    (xSeq (xIfS (xTor (xB (xBin pNe (xBin pIn (xTup (xCons (xVar 12) (xCons (xVar 13) xNil))) (xVar 5)) (xVar 14))) (xTand (xB (xVar 14)) (xB (xBin pEq (xBin pIx (xVar 6) (xVar 12)) (xBin pIx (xVar 6) (xVar 13))))))
    (xRet (xC (.bl false)))
    xPass)
    (xIfS (xB (xBin pNe (xVar 14) (xBin pNotIn (xDef f_law_letter (xConsD (xBin pIx (xVar 2) (xVar 12)) (xConsD (xBin pIx (xVar 2) (xVar 13)) xNilD))) (xC (.str [98, 109, 66, 77])))))
    (xRet (xC (.bl false)))
    xPass))))
    (xRet (xIf (xB (xBin pLt (xCall cLen (xCons (xVar 2) xNil)) (xC (.int 5)))) (xBin pEq (xDef f_at_once (xConsD (xBin pAdd (xVar 2) (xTup (xCons (xTup (xCons (xVar 3) (xCons (xBin pAdd (xVar 3) (xC (.int 2))) xNil))) xNil))) xNilD)) (xDef f_at_once (xConsD (xVar 2) xNilD))) (xC (.bl true)))))))))))))))
abbrev f_law_k50 : XF := mkF 1 19 b_law_k50
instance : LocS b_law_k50 := by unfold b_law_k50; infer_instance
end XL
end
section
set_option Elab.async false
set_option linter.all false
set_option maxRecDepth 100000
set_option maxHeartbeats 4000000
set_option synthInstance.maxSize 100000
set_option synthInstance.maxHeartbeats 4000000
namespace K50
open PySem L2 PyProof.Rows XL

def topS (i : Nat) : Stmt := PySem.Challenge.pw_spansure_k50_whole_rooms.main.body.getD i (.Pass ⟨0, 0, 0, 0⟩)
abbrev s_law_town : Stmt := topS 22
theorem sc_law_town : FnScope ["script"] ["script"] (defScope s_law_town) := ⟨rfl, rfl, rfl, by decide +kernel, rfl, by decide +kernel, by decide +kernel⟩
abbrev s_law_draw : Stmt := topS 23
theorem sc_law_draw : FnScope ["script", "town", "limit", "at", "left", "number"] ["script", "town", "limit"] (defScope s_law_draw) := ⟨rfl, rfl, rfl, by decide +kernel, rfl, by decide +kernel, by decide +kernel⟩
abbrev s_law_scene : Stmt := topS 26
theorem sc_law_scene : FnScope ["script", "town", "spans", "far", "found", "k", "begin"] ["script", "town", "spans", "far"] (defScope s_law_scene) := ⟨rfl, rfl, rfl, by decide +kernel, rfl, by decide +kernel, by decide +kernel⟩
abbrev s_law_pairs : Stmt := topS 27
theorem sc_law_pairs : FnScope ["spans", "found", "i", "j"] ["spans"] (defScope s_law_pairs) := ⟨rfl, rfl, rfl, by decide +kernel, rfl, by decide +kernel, by decide +kernel⟩
abbrev s_law_pick : Stmt := topS 24
theorem sc_law_pick : FnScope ["script", "town", "choices"] ["script", "town", "choices"] (defScope s_law_pick) := ⟨rfl, rfl, rfl, by decide +kernel, rfl, by decide +kernel, by decide +kernel⟩
abbrev s_is_between : Stmt := topS 4
theorem sc_is_between : FnScope ["value", "low", "high"] ["value", "low", "high"] (defScope s_is_between) := ⟨rfl, rfl, rfl, by decide +kernel, rfl, by decide +kernel, by decide +kernel⟩
abbrev s_is_scene : Stmt := topS 5
theorem sc_is_scene : FnScope ["value", "span"] ["value"] (defScope s_is_scene) := ⟨rfl, rfl, rfl, by decide +kernel, rfl, by decide +kernel, by decide +kernel⟩
abbrev s_check_scene : Stmt := topS 6
theorem sc_check_scene : FnScope ["scene"] ["scene"] (defScope s_check_scene) := ⟨rfl, rfl, rfl, by decide +kernel, rfl, by decide +kernel, by decide +kernel⟩
abbrev s_letter_of : Stmt := topS 9
theorem sc_letter_of : FnScope ["one", "other"] ["one", "other"] (defScope s_letter_of) := ⟨rfl, rfl, rfl, by decide +kernel, rfl, by decide +kernel, by decide +kernel⟩
abbrev s_share_moment : Stmt := topS 13
theorem sc_share_moment : FnScope ["one", "other"] ["one", "other"] (defScope s_share_moment) := ⟨rfl, rfl, rfl, by decide +kernel, rfl, by decide +kernel, by decide +kernel⟩
abbrev s_rooms : Stmt := topS 16
theorem sc_rooms : FnScope ["scene", "found", "begin", "number", "taken", "other", "span", "room"] ["scene"] (defScope s_rooms) := ⟨rfl, rfl, rfl, by decide +kernel, rfl, by decide +kernel, by decide +kernel⟩
abbrev s_pairs_of : Stmt := topS 11
theorem sc_pairs_of : FnScope ["spans", "i", "j"] ["spans"] (defScope s_pairs_of) := ⟨rfl, rfl, rfl, by decide +kernel, rfl, by decide +kernel, by decide +kernel⟩
abbrev s_picture_of : Stmt := topS 18
theorem sc_picture_of : FnScope ["scene", "some", "i", "j"] ["scene"] (defScope s_picture_of) := ⟨rfl, rfl, rfl, by decide +kernel, rfl, by decide +kernel, by decide +kernel⟩
abbrev s_found_at_once : Stmt := topS 14
theorem sc_found_at_once : FnScope ["scene", "moment", "last", "begin", "end"] ["scene"] (defScope s_found_at_once) := ⟨rfl, rfl, rfl, by decide +kernel, rfl, by decide +kernel, by decide +kernel⟩
abbrev s_at_once : Stmt := topS 15
theorem sc_at_once : FnScope ["scene"] ["scene"] (defScope s_at_once) := ⟨rfl, rfl, rfl, by decide +kernel, rfl, by decide +kernel, by decide +kernel⟩
abbrev s_naive_at_once : Stmt := topS 20
theorem sc_naive_at_once : FnScope ["scene", "best", "moment", "begin", "end", "span"] ["scene"] (defScope s_naive_at_once) := ⟨rfl, rfl, rfl, by decide +kernel, rfl, by decide +kernel, by decide +kernel⟩
abbrev s_found_form : Stmt := topS 7
theorem sc_found_form : FnScope ["scene", "ends", "span", "end", "begin"] ["scene"] (defScope s_found_form) := ⟨rfl, rfl, rfl, by decide +kernel, rfl, by decide +kernel, by decide +kernel⟩
abbrev s_form_of : Stmt := topS 8
theorem sc_form_of : FnScope ["scene"] ["scene"] (defScope s_form_of) := ⟨rfl, rfl, rfl, by decide +kernel, rfl, by decide +kernel, by decide +kernel⟩
abbrev s_law_letter : Stmt := topS 25
theorem sc_law_letter : FnScope ["one", "other", "first", "last"] ["one", "other"] (defScope s_law_letter) := ⟨rfl, rfl, rfl, by decide +kernel, rfl, by decide +kernel, by decide +kernel⟩
abbrev s_law_k50 : Stmt := topS 28
theorem sc_law_k50 : FnScope ["script", "town", "scene", "last", "counts", "pairs", "found", "dealt", "begin", "number", "taken", "other", "i", "j", "common", "moment", "span", "room", "end"] ["script"] (defScope s_law_k50) := ⟨rfl, rfl, rfl, by decide +kernel, rfl, by decide +kernel, by decide +kernel⟩
structure Txt (w : World) (K : PySem.W.Frag) (mg : Str → Option Value) : Prop where
  z_bool : mg "bool" = none
  z_enumerate : mg "enumerate" = none
  z_int : mg "int" = none
  z_isinstance : mg "isinstance" = none
  z_len : mg "len" = none
  z_list : mg "list" = none
  z_max : mg "max" = none
  z_min : mg "min" = none
  z_range : mg "range" = none
  z_set : mg "set" = none
  z_sorted : mg "sorted" = none
  z_tuple : mg "tuple" = none
section
variable {P : Program} {w : World} {K : PySem.W.Frag} {mg : Str → Option Value}
theorem ok_law_town (T : Txt w K mg) (F : FunAt K mg "_law_town" s_law_town ["script"])  : DefOk P w K mg 1 "_law_town" ["script"] 1 1 b_law_town :=
  def_ok (j := 0) F sc_law_town rfl rfl fun base f cdv A outer s H E hr =>
    (xss_one (xs_ret (xe_bin op_addX (xe_lst (xa_cons xe_int xa_nil)) (xe_callTy (cr_listA rfl) (by rfl) T.z_list (by decide +kernel) (xa_cons (xv 0) xa_nil)))))
theorem ok_law_draw (T : Txt w K mg) (F : FunAt K mg "_law_draw" s_law_draw ["script", "town", "limit"])  : DefOk P w K mg 1 "_law_draw" ["script", "town", "limit"] 3 6 b_law_draw :=
  def_ok (j := 0) F sc_law_draw rfl rfl fun base f cdv A outer s H E hr =>
    (xss_cons (xs_putL (xe_bin op_addX (xe_ix (xv 1) xe_int (fun _ _ => rfl)) xe_int) (xv 1) xe_int)
    (xss_cons (xs_if (xt_cmp (op_eqX (rm64 hr)) (xv 0) (xe_lst xa_nil) rfl) (xss_one (xs_ret (xe_bin op_modX (xe_bin op_divX (xe_bin op_mulX (xe_bin op_mulX (xe_ix (xv 1) xe_int (fun _ _ => rfl)) (xe_ix (xv 1) xe_int (fun _ _ => rfl))) xe_int) xe_int) (xv 2)))) xss_nil)
    (xss_cons (xs_set (i := 3) sc_law_draw.nd rfl (by first | exact .inl rfl | exact .inr rfl) (xe_bin op_modX (xe_ix (xv 1) xe_int (fun _ _ => rfl)) (xe_callB cr_len (by rfl) T.z_len (by decide +kernel) (xa_cons (xv 0) xa_nil))))
    (xss_cons (xs_set (i := 4) sc_law_draw.nd rfl (by first | exact .inl rfl | exact .inr rfl) (xe_ix (xv 1) (xe_bin op_addX xe_int (xv 3)) (fun _ _ => rfl)))
    (xss_cons (xs_if ((xt_and (xt_cmp (op_geX (rm64 hr)) (xe_ix (xv 0) (xv 3) (fun _ _ => rfl)) (xe_bin op_powX xe_int xe_int) rfl) (xt_and1 (xt_cmp (op_gtX (rm64 hr)) (xv 4) xe_int rfl)))).pt (xss_cons (xs_putL (xe_bin op_divX (xv 4) (xv 2)) (xv 1) (xe_bin op_addX xe_int (xv 3)))
    (xss_one (xs_ret (xe_bin op_modX (xv 4) (xv 2))))) xss_nil)
    (xss_cons (xs_set (i := 5) sc_law_draw.nd rfl (by first | exact .inl rfl | exact .inr rfl) (xe_bin op_modX (xe_bin op_addX (xe_ix (xv 0) (xv 3) (fun _ _ => rfl)) (xe_bin op_mulX xe_int (xe_ix (xv 1) xe_int (fun _ _ => rfl)))) xe_int))
    (xss_cons (xs_set (i := 5) sc_law_draw.nd rfl (by first | exact .inl rfl | exact .inr rfl) (xe_bin op_modX (xe_bin op_powX (xv 5) xe_int) xe_int))
    (xss_one (xs_ret (xe_bin op_modX (xe_bin op_divX (xe_bin op_modX (xe_bin op_addX (xe_bin op_mulX (xe_bin op_divX (xv 5) xe_int) xe_int) (xv 5)) xe_int) xe_int) (xv 2)))))))))))
theorem ok_law_scene (T : Txt w K mg) (F : FunAt K mg "_law_scene" s_law_scene ["script", "town", "spans", "far"]) (D_law_draw : DefOk P w K mg 1 "_law_draw" ["script", "town", "limit"] 3 6 b_law_draw) : DefOk P w K mg 2 "_law_scene" ["script", "town", "spans", "far"] 4 7 b_law_scene :=
  def_ok (j := 1) F sc_law_scene rfl rfl fun base f cdv A outer s H E hr =>
    (xss_cons (xs_set (i := 4) sc_law_scene.nd rfl (by first | exact .inl rfl | exact .inr rfl) (xe_lst xa_nil))
    (xss_cons (xs_for PassesOwn.never rfl (xi_rng1 (by rfl) T.z_range (xv 2)) (xg_name (i := 5) sc_law_scene.nd rfl (by first | exact .inl rfl | exact .inr rfl))
    (xss_cons (xs_set (i := 6) sc_law_scene.nd rfl (by first | exact .inl rfl | exact .inr rfl) (xe_defD D_law_draw (hr.mono (by decide)) (by rfl) (xd_cons (xv 0) (xd_cons (xv 1) (xd_cons (xv 3) xd_nil)))))
    (xss_one (xs_drop (xe_append (xv 4) (xe_tup (xa_cons (xv 6) (xa_cons (xe_bin op_addX (xe_bin op_addX (xv 6) xe_int) (xe_defD D_law_draw (hr.mono (by decide)) (by rfl) (xd_cons (xv 0) (xd_cons (xv 1) (xd_cons (xv 3) xd_nil))))) xa_nil))))))))
    (xss_one (xs_ret (xe_callTy cr_tuple (by rfl) T.z_tuple (by decide +kernel) (xa_cons (xv 4) xa_nil))))))
theorem ok_law_pairs (T : Txt w K mg) (F : FunAt K mg "_law_pairs" s_law_pairs ["spans"])  : DefOk P w K mg 1 "_law_pairs" ["spans"] 1 4 b_law_pairs :=
  def_ok (j := 0) F sc_law_pairs rfl rfl fun base f cdv A outer s H E hr =>
    (xss_cons (xs_set (i := 1) sc_law_pairs.nd rfl (by first | exact .inl rfl | exact .inr rfl) (xe_lst xa_nil))
    (xss_cons (xs_for PassesOwn.never rfl (xi_rng1 (by rfl) T.z_range (xv 0)) (xg_name (i := 2) sc_law_pairs.nd rfl (by first | exact .inl rfl | exact .inr rfl))
    (xss_one (xs_set (i := 1) sc_law_pairs.nd rfl (by first | exact .inl rfl | exact .inr rfl) (xe_bin op_addX (xv 1) (xe_lc rfl sc_law_pairs.nd (xi_rng2 (by rfl) T.z_range (xe_bin op_addX (xv 2) xe_int) (xv 0)) (own := [("j", 3)]) (blkOk_by (by kernel_rfl)) (fun _ _ _ _ _ => (xg_name (i := 3) sc_law_pairs.nd rfl (by first | exact .inl rfl | exact .inr rfl))) (fun _ _ _ _ _ => xts_nil) (fun _ _ _ _ _ => (xe_tup (xa_cons (xv 2) (xa_cons (xv 3) xa_nil)))))))))
    (xss_one (xs_ret (xv 1)))))
theorem ok_law_pick (T : Txt w K mg) (F : FunAt K mg "_law_pick" s_law_pick ["script", "town", "choices"]) (D_law_draw : DefOk P w K mg 1 "_law_draw" ["script", "town", "limit"] 3 6 b_law_draw) : DefOk P w K mg 2 "_law_pick" ["script", "town", "choices"] 3 3 b_law_pick :=
  def_ok (j := 1) F sc_law_pick rfl rfl fun base f cdv A outer s H E hr =>
    (xss_one (xs_ret (xe_ix (xv 2) (xe_defD D_law_draw (hr.mono (by decide)) (by rfl) (xd_cons (xv 0) (xd_cons (xv 1) (xd_cons (xe_callB cr_len (by rfl) T.z_len (by decide +kernel) (xa_cons (xv 2) xa_nil)) xd_nil)))) (fun _ _ => rfl))))
theorem ok_is_between (T : Txt w K mg) (F : FunAt K mg "is_between" s_is_between ["value", "low", "high"])  : DefOk P w K mg 1 "is_between" ["value", "low", "high"] 3 3 b_is_between :=
  def_ok (j := 0) F sc_is_between rfl rfl fun base f cdv A outer s H E hr =>
    (xss_one (xs_ret (xe_and (xe_isi (by rfl) T.z_isinstance (by rfl) T.z_int XL.boot_int isi_int (xv 0)) (xe_and (xe_not (xe_isi (by rfl) T.z_isinstance (by rfl) T.z_bool XL.boot_bool isi_bool (xv 0))) (xe_one (xe_chain (op_leX (rm64 hr)) (op_leX (rm64 hr)) (xv 1) (xv 0) (xv 2)))))))
theorem ok_is_scene (T : Txt w K mg) (F : FunAt K mg "is_scene" s_is_scene ["value"]) (D_is_between : DefOk P w K mg 1 "is_between" ["value", "low", "high"] 3 3 b_is_between) : DefOk P w K mg 2 "is_scene" ["value"] 1 2 b_is_scene :=
  def_ok (j := 1) F sc_is_scene rfl rfl fun base f cdv A outer s H E hr =>
    (xss_cons (xs_if ((xt_or (xt_not (xt_B (xe_isi (by rfl) T.z_isinstance (by rfl) T.z_tuple XL.boot_tuple isi_tuple (xv 0)))) (xt_or1 (xt_not (xt_chain (op_leX (rm64 hr)) (op_leX (rm64 hr)) xe_int (xe_callB cr_len (by rfl) T.z_len (by decide +kernel) (xa_cons (xv 0) xa_nil)) xe_int))))).pt (xss_one (xs_ret xe_bl)) xss_nil)
    (xss_cons (xs_for PassesOwn.never rfl (xi_any (xv 0)) (xg_name (i := 1) sc_is_scene.nd rfl (by first | exact .inl rfl | exact .inr rfl))
    (xss_cons (xs_if ((xt_or (xt_not (xt_B (xe_isi (by rfl) T.z_isinstance (by rfl) T.z_tuple XL.boot_tuple isi_tuple (xv 1)))) (xt_or (xt_cmp (op_neX (rm64 hr)) (xe_callB cr_len (by rfl) T.z_len (by decide +kernel) (xa_cons (xv 1) xa_nil)) xe_int rfl) (xt_or1 (xt_not (xt_B (xe_defD D_is_between (hr.mono (by decide)) (by rfl) (xd_cons (xe_ix (xv 1) xe_int (fun _ _ => rfl)) (xd_cons (xe_un un_negX xe_int) (xd_cons xe_int xd_nil)))))))))).pt (xss_one (xs_ret xe_bl)) xss_nil)
    (xss_one (xs_if (xt_not (xt_B (xe_defD D_is_between (hr.mono (by decide)) (by rfl) (xd_cons (xe_ix (xv 1) xe_int (fun _ _ => rfl)) (xd_cons (xe_bin op_addX (xe_ix (xv 1) xe_int (fun _ _ => rfl)) xe_int) (xd_cons xe_int xd_nil)))))) (xss_one (xs_ret xe_bl)) xss_nil))))
    (xss_one (xs_ret xe_bl))))
theorem ok_check_scene (T : Txt w K mg) (F : FunAt K mg "check_scene" s_check_scene ["scene"]) (D_is_scene : DefOk P w K mg 2 "is_scene" ["value"] 1 2 b_is_scene) : DefOk P w K mg 3 "check_scene" ["scene"] 1 1 b_check_scene :=
  def_ok (j := 2) F sc_check_scene rfl rfl fun base f cdv A outer s H E hr =>
    (xss_one (xs_if (xt_not (xt_B (xe_defD D_is_scene (hr.mono (by decide)) (by rfl) (xd_cons (xv 0) xd_nil)))) xss_never xss_nil))
theorem ok_letter_of (T : Txt w K mg) (F : FunAt K mg "letter_of" s_letter_of ["one", "other"])  : DefOk P w K mg 1 "letter_of" ["one", "other"] 2 2 b_letter_of :=
  def_ok (j := 0) F sc_letter_of rfl rfl fun base f cdv A outer s H E hr =>
    (xss_cons (xs_if (xt_cmp (op_leX (rm64 hr)) (xe_ix (xv 0) xe_int (fun _ _ => rfl)) (xe_ix (xv 1) xe_int (fun _ _ => rfl)) rfl) (xss_one (xs_ret (xe_ifExp (xt_cmp (op_eqX (rm64 hr)) (xe_ix (xv 0) xe_int (fun _ _ => rfl)) (xe_ix (xv 1) xe_int (fun _ _ => rfl)) rfl) (xe_str (by rfl)) (xe_str (by rfl))))) xss_nil)
    (xss_cons (xs_if (xt_cmp (op_leX (rm64 hr)) (xe_ix (xv 1) xe_int (fun _ _ => rfl)) (xe_ix (xv 0) xe_int (fun _ _ => rfl)) rfl) (xss_one (xs_ret (xe_ifExp (xt_cmp (op_eqX (rm64 hr)) (xe_ix (xv 1) xe_int (fun _ _ => rfl)) (xe_ix (xv 0) xe_int (fun _ _ => rfl)) rfl) (xe_str (by rfl)) (xe_str (by rfl))))) xss_nil)
    (xss_cons (xs_if (xt_cmp (op_eqX (rm64 hr)) (xe_ix (xv 0) xe_int (fun _ _ => rfl)) (xe_ix (xv 1) xe_int (fun _ _ => rfl)) rfl) (xss_one (xs_ret (xe_ifExp (xt_cmp (op_eqX (rm64 hr)) (xe_ix (xv 0) xe_int (fun _ _ => rfl)) (xe_ix (xv 1) xe_int (fun _ _ => rfl)) rfl) (xe_str (by rfl)) (xe_ifExp (xt_cmp (op_ltX (rm64 hr)) (xe_ix (xv 0) xe_int (fun _ _ => rfl)) (xe_ix (xv 1) xe_int (fun _ _ => rfl)) rfl) (xe_str (by rfl)) (xe_str (by rfl)))))) xss_nil)
    (xss_cons (xs_if (xt_cmp (op_eqX (rm64 hr)) (xe_ix (xv 0) xe_int (fun _ _ => rfl)) (xe_ix (xv 1) xe_int (fun _ _ => rfl)) rfl) (xss_one (xs_ret (xe_ifExp (xt_cmp (op_gtX (rm64 hr)) (xe_ix (xv 0) xe_int (fun _ _ => rfl)) (xe_ix (xv 1) xe_int (fun _ _ => rfl)) rfl) (xe_str (by rfl)) (xe_str (by rfl))))) xss_nil)
    (xss_cons (xs_if (xt_cmp (op_ltX (rm64 hr)) (xe_ix (xv 0) xe_int (fun _ _ => rfl)) (xe_ix (xv 1) xe_int (fun _ _ => rfl)) rfl) (xss_one (xs_ret (xe_ifExp (xt_cmp (op_ltX (rm64 hr)) (xe_ix (xv 0) xe_int (fun _ _ => rfl)) (xe_ix (xv 1) xe_int (fun _ _ => rfl)) rfl) (xe_str (by rfl)) (xe_str (by rfl))))) xss_nil)
    (xss_one (xs_ret (xe_ifExp (xt_cmp (op_ltX (rm64 hr)) (xe_ix (xv 0) xe_int (fun _ _ => rfl)) (xe_ix (xv 1) xe_int (fun _ _ => rfl)) rfl) (xe_str (by rfl)) (xe_str (by rfl))))))))))
theorem ok_share_moment (T : Txt w K mg) (F : FunAt K mg "share_moment" s_share_moment ["one", "other"]) (D_letter_of : DefOk P w K mg 1 "letter_of" ["one", "other"] 2 2 b_letter_of) : DefOk P w K mg 2 "share_moment" ["one", "other"] 2 2 b_share_moment :=
  def_ok (j := 1) F sc_share_moment rfl rfl fun base f cdv A outer s H E hr =>
    (xss_one (xs_ret (xe_cmp (op_notInX (rm65 hr)) (xe_defD D_letter_of (hr.mono (by decide)) (by rfl) (xd_cons (xv 0) (xd_cons (xv 1) xd_nil))) (xe_str (by rfl)) rfl)))
theorem ok_rooms (T : Txt w K mg) (F : FunAt K mg "rooms" s_rooms ["scene"]) (D_check_scene : DefOk P w K mg 3 "check_scene" ["scene"] 1 1 b_check_scene) (D_share_moment : DefOk P w K mg 2 "share_moment" ["one", "other"] 2 2 b_share_moment) : DefOk P w K mg 4 "rooms" ["scene"] 1 8 b_rooms :=
  def_ok (j := 3) F sc_rooms rfl rfl fun base f cdv A outer s H E hr =>
    (xss_cons (xs_drop (xe_defD D_check_scene (hr.mono (by decide)) (by rfl) (xd_cons (xv 0) xd_nil)))
    (xss_cons (xs_set (i := 1) sc_rooms.nd rfl (by first | exact .inl rfl | exact .inr rfl) xe_newD)
    (xss_cons (xs_for PassesOwn.never rfl (xi_any (xe_callB (cr_sortedX (rm64 hr)) (by rfl) T.z_sorted (by decide +kernel) (xa_cons (xe_lc rfl sc_rooms.nd (xi_enum (by rfl) T.z_enumerate (xv 0)) (own := [("number", 3), ("span", 6)]) (blkOk_by (by kernel_rfl)) (fun _ _ _ _ _ => (xg_tup rfl (xgs_cons (pg_name (i := 3) sc_rooms.nd rfl (by first | exact .inl rfl | exact .inr rfl)) (xgs_cons (pg_name (i := 6) sc_rooms.nd rfl (by first | exact .inl rfl | exact .inr rfl)) xgs_nil)))) (fun _ _ _ _ _ => xts_nil) (fun _ _ _ _ _ => (xe_tup (xa_cons (xe_ix (xv 6) xe_int (fun _ _ => rfl)) (xa_cons (xv 3) xa_nil))))) xa_nil))) (xg_tup rfl (xgs_cons (pg_name (i := 2) sc_rooms.nd rfl (by first | exact .inl rfl | exact .inr rfl)) (xgs_cons (pg_name (i := 3) sc_rooms.nd rfl (by first | exact .inl rfl | exact .inr rfl)) xgs_nil)))
    (xss_cons (xs_set (i := 4) sc_rooms.nd rfl (by first | exact .inl rfl | exact .inr rfl) (xe_lock (i := 1) (xe_lc rfl sc_rooms.nd (xi_keys (pv 1)) (own := [("other", 5)]) (blkOk_by (by kernel_rfl)) (fun _ _ _ _ _ => (xg_name (i := 5) sc_rooms.nd rfl (by first | exact .inl rfl | exact .inr rfl))) (fun _ _ _ _ _ => (xts_one (xt_B (xe_defD D_share_moment (hr.mono (by decide)) (by rfl) (xd_cons (xe_ix (xv 0) (xv 5) (fun _ _ => rfl)) (xd_cons (xe_ix (xv 0) (xv 3) (fun _ _ => rfl)) xd_nil)))))) (fun _ _ _ _ _ => (xe_getD (rm64 hr) (xv 1) (xv 5) (fun _ _ => rfl))))))
    (xss_one (xs_putD (rm64 hr) (xe_ix (xe_lc rfl sc_rooms.nd (xi_rng1 (by rfl) T.z_range (xe_callB cr_len (by rfl) T.z_len (by decide +kernel) (xa_cons (xv 0) xa_nil))) (own := [("room", 7)]) (blkOk_by (by kernel_rfl)) (fun _ _ _ _ _ => (xg_name (i := 7) sc_rooms.nd rfl (by first | exact .inl rfl | exact .inr rfl))) (fun _ _ _ _ _ => (xts_one (xt_cmp (op_notInX (rm65 hr)) (xv 7) (xv 4) rfl))) (fun _ _ _ _ _ => (xv 7))) xe_int (fun _ _ => rfl)) (xv 1) (xv 3)))))
    (xss_one (xs_ret (xe_callTy cr_tuple (by rfl) T.z_tuple (by decide +kernel) (xa_cons (xe_lc rfl sc_rooms.nd (xi_rng1 (by rfl) T.z_range (xe_callB cr_len (by rfl) T.z_len (by decide +kernel) (xa_cons (xv 0) xa_nil))) (own := [("number", 3)]) (blkOk_by (by kernel_rfl)) (fun _ _ _ _ _ => (xg_name (i := 3) sc_rooms.nd rfl (by first | exact .inl rfl | exact .inr rfl))) (fun _ _ _ _ _ => xts_nil) (fun _ _ _ _ _ => (xe_getD (rm64 hr) (xv 1) (xv 3) (fun _ _ => rfl)))) xa_nil)))))))
theorem ok_pairs_of (T : Txt w K mg) (F : FunAt K mg "pairs_of" s_pairs_of ["spans"])  : DefOk P w K mg 1 "pairs_of" ["spans"] 1 3 b_pairs_of :=
  def_ok (j := 0) F sc_pairs_of rfl rfl fun base f cdv A outer s H E hr =>
    (xss_one (xs_ret (xe_lc2 rfl sc_pairs_of.nd (xi_rng1 (by rfl) T.z_range (xv 0)) (own := [("i", 1), ("j", 2)]) (vs1 := [2]) (blkOk_by (by kernel_rfl)) (by decide) (fun _ _ _ _ _ => (xg_name (i := 1) sc_pairs_of.nd rfl (by first | exact .inl rfl | exact .inr rfl))) (fun _ _ _ _ _ => xts_nil) (fun _ _ _ _ _ => (xi_rng2 (by rfl) T.z_range (xe_bin op_addX (xv 1) xe_int) (xv 0))) (fun _ _ _ _ _ => (xg_name (i := 2) sc_pairs_of.nd rfl (by first | exact .inl rfl | exact .inr rfl))) (fun _ _ _ _ _ => xts_nil) (fun _ _ _ _ _ => (xe_tup (xa_cons (xv 1) (xa_cons (xv 2) xa_nil)))))))
theorem ok_picture_of (T : Txt w K mg) (F : FunAt K mg "picture_of" s_picture_of ["scene"]) (D_check_scene : DefOk P w K mg 3 "check_scene" ["scene"] 1 1 b_check_scene) (D_pairs_of : DefOk P w K mg 1 "pairs_of" ["spans"] 1 3 b_pairs_of) (D_share_moment : DefOk P w K mg 2 "share_moment" ["one", "other"] 2 2 b_share_moment) : DefOk P w K mg 4 "picture_of" ["scene"] 1 4 b_picture_of :=
  def_ok (j := 3) F sc_picture_of rfl rfl fun base f cdv A outer s H E hr =>
    (xss_cons (xs_drop (xe_defD D_check_scene (hr.mono (by decide)) (by rfl) (xd_cons (xv 0) xd_nil)))
    (xss_cons (by first | exact xs_setLc (i := 1) rfl sc_picture_of.nd rfl rfl rfl (xi_any (xe_defD D_pairs_of (hr.mono (by decide)) (by rfl) (xd_cons (xe_callB cr_len (by rfl) T.z_len (by decide +kernel) (xa_cons (xv 0) xa_nil)) xd_nil))) (own := [("i", 2), ("j", 3)]) (blkOk_by (by kernel_rfl)) (fun _ _ _ _ _ => (xg_tup rfl (xgs_cons (pg_name (i := 2) sc_picture_of.nd rfl (by first | exact .inl rfl | exact .inr rfl)) (xgs_cons (pg_name (i := 3) sc_picture_of.nd rfl (by first | exact .inl rfl | exact .inr rfl)) xgs_nil)))) (fun _ _ _ _ _ => (xts_one (xt_B (xe_defD D_share_moment (hr.mono (by decide)) (by rfl) (xd_cons (xe_ix (xv 0) (xv 2) (fun _ _ => rfl)) (xd_cons (xe_ix (xv 0) (xv 3) (fun _ _ => rfl)) xd_nil)))))) (fun _ _ _ _ _ => (xe_tup (xa_cons (xv 2) (xa_cons (xv 3) xa_nil)))) | exact xs_set (i := 1) sc_picture_of.nd rfl (by first | exact .inl rfl | exact .inr rfl) (xe_lc rfl sc_picture_of.nd (xi_any (xe_defD D_pairs_of (hr.mono (by decide)) (by rfl) (xd_cons (xe_callB cr_len (by rfl) T.z_len (by decide +kernel) (xa_cons (xv 0) xa_nil)) xd_nil))) (own := [("i", 2), ("j", 3)]) (blkOk_by (by kernel_rfl)) (fun _ _ _ _ _ => (xg_tup rfl (xgs_cons (pg_name (i := 2) sc_picture_of.nd rfl (by first | exact .inl rfl | exact .inr rfl)) (xgs_cons (pg_name (i := 3) sc_picture_of.nd rfl (by first | exact .inl rfl | exact .inr rfl)) xgs_nil)))) (fun _ _ _ _ _ => (xts_one (xt_B (xe_defD D_share_moment (hr.mono (by decide)) (by rfl) (xd_cons (xe_ix (xv 0) (xv 2) (fun _ _ => rfl)) (xd_cons (xe_ix (xv 0) (xv 3) (fun _ _ => rfl)) xd_nil)))))) (fun _ _ _ _ _ => (xe_tup (xa_cons (xv 2) (xa_cons (xv 3) xa_nil))))))
    (xss_one (xs_ret (xe_tup (xa_cons (xe_callB cr_len (by rfl) T.z_len (by decide +kernel) (xa_cons (xv 0) xa_nil)) (xa_cons (xe_callTy cr_tuple (by rfl) T.z_tuple (by decide +kernel) (xa_cons (xv 1) xa_nil)) xa_nil)))))))
theorem ok_found_at_once (T : Txt w K mg) (F : FunAt K mg "found_at_once" s_found_at_once ["scene"])  : DefOk P w K mg 1 "found_at_once" ["scene"] 1 5 b_found_at_once :=
  def_ok (j := 0) F sc_found_at_once rfl rfl fun base f cdv A outer s H E hr =>
    (xss_one (xs_ret (xe_callB (cr_maxX rfl) (by rfl) T.z_max (by decide +kernel) (xa_cons (xe_lc rfl sc_found_at_once.nd (xi_any (xv 0)) (own := [("moment", 1), ("last", 2)]) (blkOk_by (by kernel_rfl)) (fun _ _ _ _ _ => (xg_tup rfl (xgs_cons (pg_name (i := 1) sc_found_at_once.nd rfl (by first | exact .inl rfl | exact .inr rfl)) (xgs_cons (pg_name (i := 2) sc_found_at_once.nd rfl (by first | exact .inl rfl | exact .inr rfl)) xgs_nil)))) (fun _ _ _ _ _ => xts_nil) (fun _ _ _ _ _ => (xe_callB cr_len (by rfl) T.z_len (by decide +kernel) (xa_cons (xe_lc rfl sc_found_at_once.nd (xi_any (xv 0)) (own := [("begin", 3), ("end", 4)]) (blkOk_by (by kernel_rfl)) (fun _ _ _ _ _ => (xg_tup rfl (xgs_cons (pg_name (i := 3) sc_found_at_once.nd rfl (by first | exact .inl rfl | exact .inr rfl)) (xgs_cons (pg_name (i := 4) sc_found_at_once.nd rfl (by first | exact .inl rfl | exact .inr rfl)) xgs_nil)))) (fun _ _ _ _ _ => (xts_one (xt_chain (op_leX (rm64 hr)) (op_ltX (rm64 hr)) (xv 3) (xv 1) (xv 4)))) (fun _ _ _ _ _ => xe_int)) xa_nil)))) xa_nil))))
theorem ok_at_once (T : Txt w K mg) (F : FunAt K mg "at_once" s_at_once ["scene"]) (D_check_scene : DefOk P w K mg 3 "check_scene" ["scene"] 1 1 b_check_scene) (D_found_at_once : DefOk P w K mg 1 "found_at_once" ["scene"] 1 5 b_found_at_once) : DefOk P w K mg 4 "at_once" ["scene"] 1 1 b_at_once :=
  def_ok (j := 3) F sc_at_once rfl rfl fun base f cdv A outer s H E hr =>
    (xss_cons (xs_drop (xe_defD D_check_scene (hr.mono (by decide)) (by rfl) (xd_cons (xv 0) xd_nil)))
    (xss_one (xs_ret (xe_defD D_found_at_once (hr.mono (by decide)) (by rfl) (xd_cons (xv 0) xd_nil)))))
theorem ok_naive_at_once (T : Txt w K mg) (F : FunAt K mg "naive_at_once" s_naive_at_once ["scene"]) (D_check_scene : DefOk P w K mg 3 "check_scene" ["scene"] 1 1 b_check_scene) (D_share_moment : DefOk P w K mg 2 "share_moment" ["one", "other"] 2 2 b_share_moment) : DefOk P w K mg 4 "naive_at_once" ["scene"] 1 6 b_naive_at_once :=
  def_ok (j := 3) F sc_naive_at_once rfl rfl fun base f cdv A outer s H E hr =>
    (xss_cons (xs_drop (xe_defD D_check_scene (hr.mono (by decide)) (by rfl) (xd_cons (xv 0) xd_nil)))
    (xss_cons (xs_set (i := 1) sc_naive_at_once.nd rfl (by first | exact .inl rfl | exact .inr rfl) xe_int)
    (xss_cons (xs_for PassesOwn.never rfl (xi_any (xe_sortedSet (rm64 hr) rfl (by rfl) T.z_sorted (by rfl) T.z_set (xe_lc rfl sc_naive_at_once.nd (xi_any (xv 0)) (own := [("begin", 3), ("end", 4)]) (blkOk_by (by kernel_rfl)) (fun _ _ _ _ _ => (xg_tup rfl (xgs_cons (pg_name (i := 3) sc_naive_at_once.nd rfl (by first | exact .inl rfl | exact .inr rfl)) (xgs_cons (pg_name (i := 4) sc_naive_at_once.nd rfl (by first | exact .inl rfl | exact .inr rfl)) xgs_nil)))) (fun _ _ _ _ _ => xts_nil) (fun _ _ _ _ _ => (xv 3))))) (xg_name (i := 2) sc_naive_at_once.nd rfl (by first | exact .inl rfl | exact .inr rfl))
    (xss_one (xs_set (i := 1) sc_naive_at_once.nd rfl (by first | exact .inl rfl | exact .inr rfl) (xe_callB (cr_maxX rfl) (by rfl) T.z_max (by decide +kernel) (xa_cons (xv 1) (xa_cons (xe_callB cr_len (by rfl) T.z_len (by decide +kernel) (xa_cons (xe_lc rfl sc_naive_at_once.nd (xi_any (xv 0)) (own := [("span", 5)]) (blkOk_by (by kernel_rfl)) (fun _ _ _ _ _ => (xg_name (i := 5) sc_naive_at_once.nd rfl (by first | exact .inl rfl | exact .inr rfl))) (fun _ _ _ _ _ => (xts_one (xt_B (xe_defD D_share_moment (hr.mono (by decide)) (by rfl) (xd_cons (xv 5) (xd_cons (xe_tup (xa_cons (xv 2) (xa_cons (xe_bin op_addX (xv 2) xe_int) xa_nil))) xd_nil)))))) (fun _ _ _ _ _ => xe_int)) xa_nil)) xa_nil))))))
    (xss_one (xs_ret (xv 1))))))
theorem ok_found_form (T : Txt w K mg) (F : FunAt K mg "found_form" s_found_form ["scene"])  : DefOk P w K mg 1 "found_form" ["scene"] 1 5 b_found_form :=
  def_ok (j := 0) F sc_found_form rfl rfl fun base f cdv A outer s H E hr =>
    (xss_cons (xs_set (i := 1) sc_found_form.nd rfl (by first | exact .inl rfl | exact .inr rfl) (xe_sortedSet (rm64 hr) rfl (by rfl) T.z_sorted (by rfl) T.z_set (xe_lc2 rfl sc_found_form.nd (xi_any (xv 0)) (own := [("span", 2), ("end", 3)]) (vs1 := [3]) (blkOk_by (by kernel_rfl)) (by decide) (fun _ _ _ _ _ => (xg_name (i := 2) sc_found_form.nd rfl (by first | exact .inl rfl | exact .inr rfl))) (fun _ _ _ _ _ => xts_nil) (fun _ _ _ _ _ => (xi_any (xv 2))) (fun _ _ _ _ _ => (xg_name (i := 3) sc_found_form.nd rfl (by first | exact .inl rfl | exact .inr rfl))) (fun _ _ _ _ _ => xts_nil) (fun _ _ _ _ _ => (xv 3)))))
    (xss_one (xs_ret (xe_callTy cr_tuple (by rfl) T.z_tuple (by decide +kernel) (xa_cons (xe_lc rfl sc_found_form.nd (xi_any (xv 0)) (own := [("begin", 4), ("end", 3)]) (blkOk_by (by kernel_rfl)) (fun _ _ _ _ _ => (xg_tup rfl (xgs_cons (pg_name (i := 4) sc_found_form.nd rfl (by first | exact .inl rfl | exact .inr rfl)) (xgs_cons (pg_name (i := 3) sc_found_form.nd rfl (by first | exact .inl rfl | exact .inr rfl)) xgs_nil)))) (fun _ _ _ _ _ => xts_nil) (fun _ _ _ _ _ => (xe_tup (xa_cons (xe_meth (ty := .lst) PySem.F.plainAttrs_list PySem.F.slot_list_index PySem.F.type_list_index (mt_indexX (rm65 hr)) (xv 1) (xa_cons (xv 4) xa_nil)) (xa_cons (xe_meth (ty := .lst) PySem.F.plainAttrs_list PySem.F.slot_list_index PySem.F.type_list_index (mt_indexX (rm65 hr)) (xv 1) (xa_cons (xv 3) xa_nil)) xa_nil))))) xa_nil)))))
theorem ok_form_of (T : Txt w K mg) (F : FunAt K mg "form_of" s_form_of ["scene"]) (D_check_scene : DefOk P w K mg 3 "check_scene" ["scene"] 1 1 b_check_scene) (D_found_form : DefOk P w K mg 1 "found_form" ["scene"] 1 5 b_found_form) : DefOk P w K mg 4 "form_of" ["scene"] 1 1 b_form_of :=
  def_ok (j := 3) F sc_form_of rfl rfl fun base f cdv A outer s H E hr =>
    (xss_cons (xs_drop (xe_defD D_check_scene (hr.mono (by decide)) (by rfl) (xd_cons (xv 0) xd_nil)))
    (xss_one (xs_ret (xe_defD D_found_form (hr.mono (by decide)) (by rfl) (xd_cons (xv 0) xd_nil)))))
theorem ok_law_letter (T : Txt w K mg) (F : FunAt K mg "_law_letter" s_law_letter ["one", "other"])  : DefOk P w K mg 1 "_law_letter" ["one", "other"] 2 4 b_law_letter :=
  def_ok (j := 0) F sc_law_letter rfl rfl fun base f cdv A outer s H E hr =>
    (xss_cons (xs_if ((xt_or (xt_cmp (op_ltX (rm64 hr)) (xe_ix (xv 0) xe_int (fun _ _ => rfl)) (xe_ix (xv 1) xe_int (fun _ _ => rfl)) rfl) (xt_or1 (xt_cmp (op_ltX (rm64 hr)) (xe_ix (xv 1) xe_int (fun _ _ => rfl)) (xe_ix (xv 0) xe_int (fun _ _ => rfl)) rfl)))).pt (xss_one (xs_ret (xe_ifExp (xt_cmp (op_ltX (rm64 hr)) (xe_ix (xv 0) xe_int (fun _ _ => rfl)) (xe_ix (xv 1) xe_int (fun _ _ => rfl)) rfl) (xe_str (by rfl)) (xe_str (by rfl))))) xss_nil)
    (xss_cons (xs_if ((xt_or (xt_cmp (op_eqX (rm64 hr)) (xe_ix (xv 0) xe_int (fun _ _ => rfl)) (xe_ix (xv 1) xe_int (fun _ _ => rfl)) rfl) (xt_or1 (xt_cmp (op_eqX (rm64 hr)) (xe_ix (xv 1) xe_int (fun _ _ => rfl)) (xe_ix (xv 0) xe_int (fun _ _ => rfl)) rfl)))).pt (xss_one (xs_ret (xe_ifExp (xt_cmp (op_eqX (rm64 hr)) (xe_ix (xv 0) xe_int (fun _ _ => rfl)) (xe_ix (xv 1) xe_int (fun _ _ => rfl)) rfl) (xe_str (by rfl)) (xe_str (by rfl))))) xss_nil)
    (xss_cons (xs_set (i := 2) sc_law_letter.nd rfl (by first | exact .inl rfl | exact .inr rfl) (xe_bin op_subX (xe_bin op_addX xe_int (xe_callTy cr_int (by rfl) T.z_int (by decide +kernel) (xa_cons (xe_cmp (op_gtX (rm64 hr)) (xe_ix (xv 0) xe_int (fun _ _ => rfl)) (xe_ix (xv 1) xe_int (fun _ _ => rfl)) rfl) xa_nil))) (xe_callTy cr_int (by rfl) T.z_int (by decide +kernel) (xa_cons (xe_cmp (op_ltX (rm64 hr)) (xe_ix (xv 0) xe_int (fun _ _ => rfl)) (xe_ix (xv 1) xe_int (fun _ _ => rfl)) rfl) xa_nil))))
    (xss_cons (xs_set (i := 3) sc_law_letter.nd rfl (by first | exact .inl rfl | exact .inr rfl) (xe_bin op_subX (xe_bin op_addX xe_int (xe_callTy cr_int (by rfl) T.z_int (by decide +kernel) (xa_cons (xe_cmp (op_gtX (rm64 hr)) (xe_ix (xv 0) xe_int (fun _ _ => rfl)) (xe_ix (xv 1) xe_int (fun _ _ => rfl)) rfl) xa_nil))) (xe_callTy cr_int (by rfl) T.z_int (by decide +kernel) (xa_cons (xe_cmp (op_ltX (rm64 hr)) (xe_ix (xv 0) xe_int (fun _ _ => rfl)) (xe_ix (xv 1) xe_int (fun _ _ => rfl)) rfl) xa_nil))))
    (xss_one (xs_ret (xe_ix (xe_ix (xe_tup (xa_cons (xe_str (by rfl)) (xa_cons (xe_str (by rfl)) (xa_cons (xe_str (by rfl)) xa_nil)))) (xv 2) (fun _ _ => rfl)) (xv 3) (fun _ _ => rfl))))))))
theorem ok_law_k50 (T : Txt w K mg) (F : FunAt K mg "law" s_law_k50 ["script"]) (D_law_town : DefOk P w K mg 1 "_law_town" ["script"] 1 1 b_law_town) (D_law_scene : DefOk P w K mg 2 "_law_scene" ["script", "town", "spans", "far"] 4 7 b_law_scene) (D_law_pick : DefOk P w K mg 2 "_law_pick" ["script", "town", "choices"] 3 3 b_law_pick) (D_law_draw : DefOk P w K mg 1 "_law_draw" ["script", "town", "limit"] 3 6 b_law_draw) (D_at_once : DefOk P w K mg 4 "at_once" ["scene"] 1 1 b_at_once) (D_naive_at_once : DefOk P w K mg 4 "naive_at_once" ["scene"] 1 6 b_naive_at_once) (D_form_of : DefOk P w K mg 4 "form_of" ["scene"] 1 1 b_form_of) (D_rooms : DefOk P w K mg 4 "rooms" ["scene"] 1 8 b_rooms) (D_picture_of : DefOk P w K mg 4 "picture_of" ["scene"] 1 4 b_picture_of) (D_law_pairs : DefOk P w K mg 1 "_law_pairs" ["spans"] 1 4 b_law_pairs) (D_law_letter : DefOk P w K mg 1 "_law_letter" ["one", "other"] 2 4 b_law_letter) : DefOk P w K mg 5 "law" ["script"] 1 19 b_law_k50 :=
  def_ok (j := 4) F sc_law_k50 rfl rfl fun base f cdv A outer s H E hr =>
    (xss_cons (xs_set (i := 1) sc_law_k50.nd rfl (by first | exact .inl rfl | exact .inr rfl) (xe_defD D_law_town (hr.mono (by decide)) (by rfl) (xd_cons (xv 0) xd_nil)))
    (xss_cons (xs_set (i := 2) sc_law_k50.nd rfl (by first | exact .inl rfl | exact .inr rfl) (xe_defD D_law_scene (hr.mono (by decide)) (by rfl) (xd_cons (xv 0) (xd_cons (xv 1) (xd_cons (xe_bin op_addX xe_int (xe_defD D_law_draw (hr.mono (by decide)) (by rfl) (xd_cons (xv 0) (xd_cons (xv 1) (xd_cons xe_int xd_nil))))) (xd_cons (xe_defD D_law_pick (hr.mono (by decide)) (by rfl) (xd_cons (xv 0) (xd_cons (xv 1) (xd_cons (xe_lst (xa_cons xe_int (xa_cons xe_int (xa_cons xe_int xa_nil)))) xd_nil)))) xd_nil))))))
    (xss_cons (xs_set (i := 3) sc_law_k50.nd rfl (by first | exact .inl rfl | exact .inr rfl) (xe_callB (cr_maxX rfl) (by rfl) T.z_max (by decide +kernel) (xa_cons (xe_lc rfl sc_law_k50.nd (xi_any (xv 2)) (own := [("span", 16)]) (blkOk_by (by kernel_rfl)) (fun _ _ _ _ _ => (xg_name (i := 16) sc_law_k50.nd rfl (by first | exact .inl rfl | exact .inr rfl))) (fun _ _ _ _ _ => xts_nil) (fun _ _ _ _ _ => (xe_ix (xv 16) xe_int (fun _ _ => rfl)))) xa_nil)))
    (xss_cons (by first | exact xs_setLc (i := 4) rfl sc_law_k50.nd rfl rfl rfl (xi_rng1 (by rfl) T.z_range (xv 3)) (own := [("moment", 15)]) (blkOk_by (by kernel_rfl)) (fun _ _ _ _ _ => (xg_name (i := 15) sc_law_k50.nd rfl (by first | exact .inl rfl | exact .inr rfl))) (fun _ _ _ _ _ => xts_nil) (fun _ _ _ _ _ => (xe_callB cr_len (by rfl) T.z_len (by decide +kernel) (xa_cons (xe_lc rfl sc_law_k50.nd (xi_any (xv 2)) (own := [("begin", 8), ("end", 18)]) (blkOk_by (by kernel_rfl)) (fun _ _ _ _ _ => (xg_tup rfl (xgs_cons (pg_name (i := 8) sc_law_k50.nd rfl (by first | exact .inl rfl | exact .inr rfl)) (xgs_cons (pg_name (i := 18) sc_law_k50.nd rfl (by first | exact .inl rfl | exact .inr rfl)) xgs_nil)))) (fun _ _ _ _ _ => (xts_one (xt_chain (op_leX (rm64 hr)) (op_ltX (rm64 hr)) (xv 8) (xv 15) (xv 18)))) (fun _ _ _ _ _ => xe_int)) xa_nil))) | exact xs_set (i := 4) sc_law_k50.nd rfl (by first | exact .inl rfl | exact .inr rfl) (xe_lc rfl sc_law_k50.nd (xi_rng1 (by rfl) T.z_range (xv 3)) (own := [("moment", 15)]) (blkOk_by (by kernel_rfl)) (fun _ _ _ _ _ => (xg_name (i := 15) sc_law_k50.nd rfl (by first | exact .inl rfl | exact .inr rfl))) (fun _ _ _ _ _ => xts_nil) (fun _ _ _ _ _ => (xe_callB cr_len (by rfl) T.z_len (by decide +kernel) (xa_cons (xe_lc rfl sc_law_k50.nd (xi_any (xv 2)) (own := [("begin", 8), ("end", 18)]) (blkOk_by (by kernel_rfl)) (fun _ _ _ _ _ => (xg_tup rfl (xgs_cons (pg_name (i := 8) sc_law_k50.nd rfl (by first | exact .inl rfl | exact .inr rfl)) (xgs_cons (pg_name (i := 18) sc_law_k50.nd rfl (by first | exact .inl rfl | exact .inr rfl)) xgs_nil)))) (fun _ _ _ _ _ => (xts_one (xt_chain (op_leX (rm64 hr)) (op_ltX (rm64 hr)) (xv 8) (xv 15) (xv 18)))) (fun _ _ _ _ _ => xe_int)) xa_nil)))))
    (xss_cons (xs_if ((xt_or (xt_cmp (op_neX (rm64 hr)) (xe_defD D_at_once (hr.mono (by decide)) (by rfl) (xd_cons (xv 2) xd_nil)) (xe_callB (cr_maxX rfl) (by rfl) T.z_max (by decide +kernel) (xa_cons (xv 4) xa_nil)) rfl) (xt_or (xt_cmp (op_neX (rm64 hr)) (xe_defD D_naive_at_once (hr.mono (by decide)) (by rfl) (xd_cons (xv 2) xd_nil)) (xe_callB (cr_maxX rfl) (by rfl) T.z_max (by decide +kernel) (xa_cons (xv 4) xa_nil)) rfl) (xt_or1 (xt_cmp (op_neX (rm64 hr)) (xe_defD D_at_once (hr.mono (by decide)) (by rfl) (xd_cons (xe_defD D_form_of (hr.mono (by decide)) (by rfl) (xd_cons (xv 2) xd_nil)) xd_nil)) (xe_callB (cr_maxX rfl) (by rfl) T.z_max (by decide +kernel) (xa_cons (xv 4) xa_nil)) rfl))))).pt (xss_one (xs_ret xe_bl)) xss_nil)
    (xss_cons (by first | exact xs_par (i := 6) (j := 7) rfl sc_law_k50.nd rfl rfl (by decide) rfl rfl (xd_consB (xe_defD D_rooms (hr.mono (by decide)) (by rfl) (xd_cons (xv 2) xd_nil)) (xd_consB xe_newD xd_nil)) rfl | exact (xs_parT (is := [6, 7]) (xd_consB (xe_defD D_rooms (hr.mono (by decide)) (by rfl) (xd_cons (xv 2) xd_nil)) (xd_consB xe_newD xd_nil)) rfl (pgs_cons (pg_name (i := 6) sc_law_k50.nd rfl (by first | exact .inl rfl | exact .inr rfl)) (pgs_cons (pg_name (i := 7) sc_law_k50.nd rfl (by first | exact .inl rfl | exact .inr rfl)) pgs_nil)) (by decide)))
    (xss_cons (xs_for PassesOwn.never rfl (xi_any (xe_callB (cr_sortedX (rm64 hr)) (by rfl) T.z_sorted (by decide +kernel) (xa_cons (xe_lc rfl sc_law_k50.nd (xi_rng1 (by rfl) T.z_range (xe_callB cr_len (by rfl) T.z_len (by decide +kernel) (xa_cons (xv 2) xa_nil))) (own := [("number", 9)]) (blkOk_by (by kernel_rfl)) (fun _ _ _ _ _ => (xg_name (i := 9) sc_law_k50.nd rfl (by first | exact .inl rfl | exact .inr rfl))) (fun _ _ _ _ _ => xts_nil) (fun _ _ _ _ _ => (xe_tup (xa_cons (xe_ix (xe_ix (xv 2) (xv 9) (fun _ _ => rfl)) xe_int (fun _ _ => rfl)) (xa_cons (xv 9) xa_nil))))) xa_nil))) (xg_tup rfl (xgs_cons (pg_name (i := 8) sc_law_k50.nd rfl (by first | exact .inl rfl | exact .inr rfl)) (xgs_cons (pg_name (i := 9) sc_law_k50.nd rfl (by first | exact .inl rfl | exact .inr rfl)) xgs_nil)))
    (xss_cons (xs_set (i := 10) sc_law_k50.nd rfl (by first | exact .inl rfl | exact .inr rfl) (xe_lst xa_nil))
    (xss_cons (xs_lock (i := 7) (xs_for PassesOwn.never rfl (xi_keys (pv 7)) (xg_name (i := 11) sc_law_k50.nd rfl (by first | exact .inl rfl | exact .inr rfl))
    (xss_one (xs_if ((xt_and (xt_cmp (op_ltX (rm64 hr)) (xe_ix (xe_ix (xv 2) (xv 11) (fun _ _ => rfl)) xe_int (fun _ _ => rfl)) (xe_ix (xe_ix (xv 2) (xv 9) (fun _ _ => rfl)) xe_int (fun _ _ => rfl)) rfl) (xt_and1 (xt_cmp (op_ltX (rm64 hr)) (xe_ix (xe_ix (xv 2) (xv 9) (fun _ _ => rfl)) xe_int (fun _ _ => rfl)) (xe_ix (xe_ix (xv 2) (xv 11) (fun _ _ => rfl)) xe_int (fun _ _ => rfl)) rfl)))).pt (xss_one (xs_drop (xe_append (xv 10) (xe_getD (rm64 hr) (xv 7) (xv 11) (fun _ _ => rfl))))) xss_nil))))
    (xss_one (xs_putD (rm64 hr) (xe_callB (cr_minX rfl) (by rfl) T.z_min (by decide +kernel) (xa_cons (xe_lc rfl sc_law_k50.nd (xi_rng1 (by rfl) T.z_range xe_int) (own := [("room", 17)]) (blkOk_by (by kernel_rfl)) (fun _ _ _ _ _ => (xg_name (i := 17) sc_law_k50.nd rfl (by first | exact .inl rfl | exact .inr rfl))) (fun _ _ _ _ _ => (xts_one (xt_cmp (op_notInX (rm65 hr)) (xv 17) (xv 10) rfl))) (fun _ _ _ _ _ => (xv 17))) xa_nil)) (xv 7) (xv 9))))))
    (xss_cons (xs_if (xt_cmp (op_neX (rm64 hr)) (xv 6) (xe_callTy cr_tuple (by rfl) T.z_tuple (by decide +kernel) (xa_cons (xe_lc rfl sc_law_k50.nd (xi_rng1 (by rfl) T.z_range (xe_callB cr_len (by rfl) T.z_len (by decide +kernel) (xa_cons (xv 2) xa_nil))) (own := [("number", 9)]) (blkOk_by (by kernel_rfl)) (fun _ _ _ _ _ => (xg_name (i := 9) sc_law_k50.nd rfl (by first | exact .inl rfl | exact .inr rfl))) (fun _ _ _ _ _ => xts_nil) (fun _ _ _ _ _ => (xe_getD (rm64 hr) (xv 7) (xv 9) (fun _ _ => rfl)))) xa_nil)) rfl) (xss_one (xs_ret xe_bl)) xss_nil)
    (xss_cons (xs_if ((xt_or (xt_cmp (op_neX (rm64 hr)) (xe_lenSetPt rfl (by rfl) T.z_len (by rfl) T.z_set (xv 6)) (xe_defD D_at_once (hr.mono (by decide)) (by rfl) (xd_cons (xv 2) xd_nil)) rfl) (xt_or1 (xt_cmp (op_neX (rm64 hr)) (xe_callB (cr_maxT rfl) (by rfl) T.z_max (by decide +kernel) (xa_cons (xv 6) xa_nil)) (xe_bin op_subX (xe_defD D_at_once (hr.mono (by decide)) (by rfl) (xd_cons (xv 2) xd_nil)) xe_int) rfl)))).pt (xss_one (xs_ret xe_bl)) xss_nil)
    (xss_cons (xs_set (i := 5) sc_law_k50.nd rfl (by first | exact .inl rfl | exact .inr rfl) (xe_ix (xe_defD D_picture_of (hr.mono (by decide)) (by rfl) (xd_cons (xv 2) xd_nil)) xe_int (fun _ _ => rfl)))
    (xss_cons (xs_for PassesOwn.never rfl (xi_any (xe_defD D_law_pairs (hr.mono (by decide)) (by rfl) (xd_cons (xe_callB cr_len (by rfl) T.z_len (by decide +kernel) (xa_cons (xv 2) xa_nil)) xd_nil))) (xg_tup rfl (xgs_cons (pg_name (i := 12) sc_law_k50.nd rfl (by first | exact .inl rfl | exact .inr rfl)) (xgs_cons (pg_name (i := 13) sc_law_k50.nd rfl (by first | exact .inl rfl | exact .inr rfl)) xgs_nil)))
    (xss_cons (xs_set (i := 14) sc_law_k50.nd rfl (by first | exact .inl rfl | exact .inr rfl) (xe_and (xe_cmp (op_ltX (rm64 hr)) (xe_ix (xe_ix (xv 2) (xv 12) (fun _ _ => rfl)) xe_int (fun _ _ => rfl)) (xe_ix (xe_ix (xv 2) (xv 13) (fun _ _ => rfl)) xe_int (fun _ _ => rfl)) rfl) (xe_one (xe_cmp (op_ltX (rm64 hr)) (xe_ix (xe_ix (xv 2) (xv 13) (fun _ _ => rfl)) xe_int (fun _ _ => rfl)) (xe_ix (xe_ix (xv 2) (xv 12) (fun _ _ => rfl)) xe_int (fun _ _ => rfl)) rfl))))
    (xss_cons (xs_if ((xt_or (xt_cmp (op_neX (rm64 hr)) (xe_cmp (op_inX (rm65 hr)) (xe_tup (xa_cons (xv 12) (xa_cons (xv 13) xa_nil))) (xv 5) rfl) (xv 14) rfl) (xt_or1 ((xt_and (xt_B (xv 14)) (xt_and1 (xt_cmp (op_eqX (rm64 hr)) (xe_ix (xv 6) (xv 12) (fun _ _ => rfl)) (xe_ix (xv 6) (xv 13) (fun _ _ => rfl)) rfl)))).pt))).pt (xss_one (xs_ret xe_bl)) xss_nil)
    (xss_one (xs_if (xt_cmp (op_neX (rm64 hr)) (xv 14) (xe_cmp (op_notInX (rm65 hr)) (xe_defD D_law_letter (hr.mono (by decide)) (by rfl) (xd_cons (xe_ix (xv 2) (xv 12) (fun _ _ => rfl)) (xd_cons (xe_ix (xv 2) (xv 13) (fun _ _ => rfl)) xd_nil))) (xe_str (by rfl)) rfl) rfl) (xss_one (xs_ret xe_bl)) xss_nil)))))
    (xss_one (xs_ret (xe_ifExp (xt_cmp (op_ltX (rm64 hr)) (xe_callB cr_len (by rfl) T.z_len (by decide +kernel) (xa_cons (xv 2) xa_nil)) xe_int rfl) (xe_cmp (op_eqX (rm64 hr)) (xe_defD D_at_once (hr.mono (by decide)) (by rfl) (xd_cons (xe_bin op_addX (xv 2) (xe_tup (xa_cons (xe_tup (xa_cons (xv 3) (xa_cons (xe_bin op_addX (xv 3) xe_int) xa_nil))) xa_nil))) xd_nil)) (xe_defD D_at_once (hr.mono (by decide)) (by rfl) (xd_cons (xv 2) xd_nil)) rfl) xe_bl))))))))))))))
/-- the law, of what the top has written -/
theorem all_ok (T : Txt w K mg) (F_law_town : FunAt K mg "_law_town" s_law_town ["script"]) (F_law_draw : FunAt K mg "_law_draw" s_law_draw ["script", "town", "limit"]) (F_law_scene : FunAt K mg "_law_scene" s_law_scene ["script", "town", "spans", "far"]) (F_law_pairs : FunAt K mg "_law_pairs" s_law_pairs ["spans"]) (F_law_pick : FunAt K mg "_law_pick" s_law_pick ["script", "town", "choices"]) (F_is_between : FunAt K mg "is_between" s_is_between ["value", "low", "high"]) (F_is_scene : FunAt K mg "is_scene" s_is_scene ["value"]) (F_check_scene : FunAt K mg "check_scene" s_check_scene ["scene"]) (F_letter_of : FunAt K mg "letter_of" s_letter_of ["one", "other"]) (F_share_moment : FunAt K mg "share_moment" s_share_moment ["one", "other"]) (F_rooms : FunAt K mg "rooms" s_rooms ["scene"]) (F_pairs_of : FunAt K mg "pairs_of" s_pairs_of ["spans"]) (F_picture_of : FunAt K mg "picture_of" s_picture_of ["scene"]) (F_found_at_once : FunAt K mg "found_at_once" s_found_at_once ["scene"]) (F_at_once : FunAt K mg "at_once" s_at_once ["scene"]) (F_naive_at_once : FunAt K mg "naive_at_once" s_naive_at_once ["scene"]) (F_found_form : FunAt K mg "found_form" s_found_form ["scene"]) (F_form_of : FunAt K mg "form_of" s_form_of ["scene"]) (F_law_letter : FunAt K mg "_law_letter" s_law_letter ["one", "other"]) (F_law_k50 : FunAt K mg "law" s_law_k50 ["script"]) : DefOk P w K mg 5 "law" ["script"] 1 19 b_law_k50 := by
  have D_law_town := ok_law_town (P := P) T F_law_town 
  have D_law_draw := ok_law_draw (P := P) T F_law_draw 
  have D_law_scene := ok_law_scene (P := P) T F_law_scene D_law_draw
  have D_law_pairs := ok_law_pairs (P := P) T F_law_pairs 
  have D_law_pick := ok_law_pick (P := P) T F_law_pick D_law_draw
  have D_is_between := ok_is_between (P := P) T F_is_between 
  have D_is_scene := ok_is_scene (P := P) T F_is_scene D_is_between
  have D_check_scene := ok_check_scene (P := P) T F_check_scene D_is_scene
  have D_letter_of := ok_letter_of (P := P) T F_letter_of 
  have D_share_moment := ok_share_moment (P := P) T F_share_moment D_letter_of
  have D_rooms := ok_rooms (P := P) T F_rooms D_check_scene D_share_moment
  have D_pairs_of := ok_pairs_of (P := P) T F_pairs_of 
  have D_picture_of := ok_picture_of (P := P) T F_picture_of D_check_scene D_pairs_of D_share_moment
  have D_found_at_once := ok_found_at_once (P := P) T F_found_at_once 
  have D_at_once := ok_at_once (P := P) T F_at_once D_check_scene D_found_at_once
  have D_naive_at_once := ok_naive_at_once (P := P) T F_naive_at_once D_check_scene D_share_moment
  have D_found_form := ok_found_form (P := P) T F_found_form 
  have D_form_of := ok_form_of (P := P) T F_form_of D_check_scene D_found_form
  have D_law_letter := ok_law_letter (P := P) T F_law_letter 
  have D_law_k50 := ok_law_k50 (P := P) T F_law_k50 D_law_town D_law_scene D_law_pick D_law_draw D_at_once D_naive_at_once D_form_of D_rooms D_picture_of D_law_pairs D_law_letter
  exact D_law_k50
end
theorem fin {P : Program} {w : World} {K : PySem.W.Frag} {h : Heap} {mg : Str → Option Value} {fa : Addr} {nm : Str} (X : K.In h) (hmg : mg nm = some (.ref fa)) (hnm : nm = "law") (T : Txt w K mg) (F_law_town : FunAt K mg "_law_town" s_law_town ["script"]) (F_law_draw : FunAt K mg "_law_draw" s_law_draw ["script", "town", "limit"]) (F_law_scene : FunAt K mg "_law_scene" s_law_scene ["script", "town", "spans", "far"]) (F_law_pairs : FunAt K mg "_law_pairs" s_law_pairs ["spans"]) (F_law_pick : FunAt K mg "_law_pick" s_law_pick ["script", "town", "choices"]) (F_is_between : FunAt K mg "is_between" s_is_between ["value", "low", "high"]) (F_is_scene : FunAt K mg "is_scene" s_is_scene ["value"]) (F_check_scene : FunAt K mg "check_scene" s_check_scene ["scene"]) (F_letter_of : FunAt K mg "letter_of" s_letter_of ["one", "other"]) (F_share_moment : FunAt K mg "share_moment" s_share_moment ["one", "other"]) (F_rooms : FunAt K mg "rooms" s_rooms ["scene"]) (F_pairs_of : FunAt K mg "pairs_of" s_pairs_of ["spans"]) (F_picture_of : FunAt K mg "picture_of" s_picture_of ["scene"]) (F_found_at_once : FunAt K mg "found_at_once" s_found_at_once ["scene"]) (F_at_once : FunAt K mg "at_once" s_at_once ["scene"]) (F_naive_at_once : FunAt K mg "naive_at_once" s_naive_at_once ["scene"]) (F_found_form : FunAt K mg "found_form" s_found_form ["scene"]) (F_form_of : FunAt K mg "form_of" s_form_of ["scene"]) (F_law_letter : FunAt K mg "_law_letter" s_law_letter ["one", "other"]) (F_law_k50 : FunAt K mg "law" s_law_k50 ["script"]) :
    ∃ fd : FuncData, (∀ (s : Shared) (u : Value), BindsTo s fd ⟨[u], []⟩ [("script", u)]) ∧ ∀ base : Heap, K.In base → base.Ns mainGlobals mg → FnOk P w K mg base CX0 5 fa fd ["script"] (spOf K 1 (mkF 1 19 b_law_k50)) := by
  subst hnm
  exact law_fin hmg (all_ok T F_law_town F_law_draw F_law_scene F_law_pairs F_law_pick F_is_between F_is_scene F_check_scene F_letter_of F_share_moment F_rooms F_pairs_of F_picture_of F_found_at_once F_at_once F_naive_at_once F_found_form F_form_of F_law_letter F_law_k50)
end K50
end
section
set_option Elab.async false
set_option linter.all false
set_option autoImplicit false
set_option maxRecDepth 100000
set_option maxHeartbeats 1000000
namespace XL
/-! ### plain evaluation: the combinators as equations -/
section
variable {ρ : Env} {S : Sto} {a b c : XE} {f g : P → P → Option R} {t u : XT} {xs : XA} {ys : XD} {s s' : XS} {i j : Nat} {d : P} {ds es : List P}
@[simp] theorem e_Var : xVar i ρ S = match ρ[i]? with | some (some (.p d)) => some (.p d, S) | some (some (.ref l)) => some (.ref l, S) | _ => none := rfl
@[simp] theorem e_C : xC d ρ S = some (.p d, S) := rfl
@[simp] theorem e_Bin : xBin f a b ρ S = (a ρ S).bind fun x => (b ρ x.2).bind fun y => (x.1.rd y.2).bind fun p => (y.1.rd y.2).bind fun q => (f p q).map fun r => (r, y.2) := rfl
@[simp] theorem e_Un {f : P → Option R} : xUn f a ρ S = (a ρ S).bind fun x => (x.1.rd x.2).bind fun p => (f p).map fun r => (r, x.2) := rfl
@[simp] theorem e_Chain : xChain f g a b c ρ S =
  (a ρ S).bind fun x => (b ρ x.2).bind fun y => (x.1.rd y.2).bind fun p => (y.1.rd y.2).bind fun q => (f p q).bind fun r => match r with
    | .p (.bl true) => (c ρ y.2).bind fun z => (y.1.rd z.2).bind fun q => (z.1.rd z.2).bind fun w => (g q w).map fun r => (r, z.2)
    | .p (.bl false) => some (.p (.bl false), y.2)
    | _ => none := rfl
@[simp] theorem e_And : xAnd a b ρ S = (a ρ S).bind fun x => match x.1 with
  | .p (.bl true) => b ρ x.2
  | .p (.bl false) => some (.p (.bl false), x.2)
  | _ => none := rfl
@[simp] theorem e_Or : xOr a b ρ S = (a ρ S).bind fun x => match x.1 with
  | .p (.bl true) => some (.p (.bl true), x.2)
  | .p (.bl false) => b ρ x.2
  | _ => none := rfl
@[simp] theorem e_Not : xNot a ρ S = (a ρ S).bind fun x => match x.1 with
  | .p (.bl c) => some (.p (.bl (!c)), x.2)
  | _ => none := rfl
@[simp] theorem e_If : xIf t a b ρ S = (t ρ S).bind fun x => if x.1 then a ρ x.2 else b ρ x.2 := rfl
@[simp] theorem e_B : xB a ρ S = (a ρ S).bind fun x => match x.1 with
  | .p (.bl c) => some (c, x.2)
  | _ => none := rfl
@[simp] theorem e_Tand : xTand t u ρ S = (t ρ S).bind fun x => if x.1 then u ρ x.2 else some (false, x.2) := rfl
@[simp] theorem e_Tor : xTor t u ρ S = (t ρ S).bind fun x => if x.1 then some (true, x.2) else u ρ x.2 := rfl
@[simp] theorem e_Tnot : xTnot t ρ S = (t ρ S).map fun x => (!x.1, x.2) := rfl
@[simp] theorem e_Tyes : xTyes ρ S = some (true, S) := rfl
@[simp] theorem e_Nil : xNil ρ S = some ([], S) := rfl
@[simp] theorem e_Cons : xCons a xs ρ S = (a ρ S).bind fun x => (xs ρ x.2).map fun y => (x.1 :: y.1, y.2) := rfl
@[simp] theorem e_Tup : xTup xs ρ S = (xs ρ S).bind fun x => (fzs x.1).bind fun ds => if ds.length ≤ big then some (.p (.tup ds), x.2) else none := rfl
@[simp] theorem e_Lst : xLst xs ρ S = (xs ρ S).bind fun x => (fzs x.1).bind fun ds => if ds.length ≤ big then some (.frl ds, x.2) else none := rfl
@[simp] theorem e_Call {f : List P → Option R} : xCall f xs ρ S = (xs ρ S).bind fun x => (rds x.2 x.1).bind fun ds => (f ds).map fun r => (r, x.2) := rfl
@[simp] theorem e_NilD : xNilD ρ S = some ([], S) := rfl
@[simp] theorem e_ConsB : xConsB a ys ρ S = (a ρ S).bind fun x => (ys ρ (x.1.box x.2).2).map fun y => ((x.1.box x.2).1 :: y.1, y.2) := rfl
@[simp] theorem e_ConsD : xConsD a ys ρ S = (a ρ S).bind fun x => (ys ρ (x.1.arg x.2).2).map fun y => ((x.1.arg x.2).1 :: y.1, y.2) := rfl
@[simp] theorem e_Def {f : XF} : xDef f ys ρ S = (ys ρ S).bind fun x => f x.1 x.2 := rfl
@[simp] theorem e_Set : xSet i a ρ S = (a ρ S).map fun x => (.nx (ρ.set i (some (x.1.box x.2).1)), (x.1.box x.2).2) := rfl
@[simp] theorem e_Unp {is : List Nat} : xUnp is a ρ S = (a ρ S).bind fun x => (x.1.rd x.2).bind fun d => ((Tg.tp is).put d ρ).map fun ρ' => (.nx ρ', x.2) := rfl
@[simp] theorem e_Par {is : List Nat} : xPar is ys ρ S = (ys ρ S).bind fun x => (setAllD is x.1 ρ).map fun ρ' => (.nx ρ', x.2) := rfl
@[simp] theorem e_Drop : xDrop a ρ S = (a ρ S).map fun x => (.nx ρ, x.2) := rfl
@[simp] theorem e_Ret : xRet a ρ S = (a ρ S).map fun x => (.rt x.1, x.2) := rfl
@[simp] theorem e_Pass : xPass ρ S = some (.nx ρ, S) := rfl
@[simp] theorem e_Seq : xSeq s s' ρ S = (s ρ S).bind fun x => match x.1 with | .nx ρ' => s' ρ' x.2 | fl => some (fl, x.2) := rfl
@[simp] theorem e_IfS : xIfS t s s' ρ S = (t ρ S).bind fun x => if x.1 then s ρ x.2 else s' ρ x.2 := rfl
@[simp] theorem e_Meth {ty : Ty} {f : P → List P → Option R} : xMeth ty f a xs ρ S = (a ρ S).bind fun x => (x.1.rd x.2).bind fun p0 => if isTy ty p0 then
  (xs ρ x.2).bind fun y => (x.1.rd y.2).bind fun p => (rds y.2 y.1).bind fun ps => (f p ps).map fun r => (r, y.2) else none := rfl
@[simp] theorem e_App : xApp a b ρ S = (a ρ S).bind fun x => match x.1 with
  | .ref l => match x.2[l]? with
    | some (.lst _) => (b ρ x.2).bind fun y => match y.2[l]? with
      | some (.lst ds) => (y.1.fz).bind fun d => if ds.length < big then some (.p .non, y.2.set l (.lst (ds ++ [d]))) else none
      | _ => none
    | _ => none
  | _ => none := rfl
/-- append -/
theorem app_ok {l : Nat} {S1 S2 : Sto} {r : R} {ds ds' : List P} {d : P} (h : a ρ S = some (.ref l, S1)) (h1 : S1[l]? = some (.lst ds')) (hb : b ρ S1 = some (r, S2)) (h2 : S2[l]? = some (.lst ds)) (hd : r.fz = some d) (hl : ds.length < 1000000) : xDrop (xApp a b) ρ S = some (.nx ρ, S2.set l (.lst (ds ++ [d]))) := by
  have hl' : ds.length < big := hl
  simp only [xDrop, xApp, h, Option.bind_some, h1, hb, h2, hd, hl', if_true, Option.map_some]
@[simp] theorem e_PutL {e o i : XE} : xPutL e o i ρ S = (e ρ S).bind fun v => (o ρ v.2).bind fun x => (i ρ x.2).bind fun y => match x.1, y.1 with
  | .ref l, .p (.int j) => match y.2[l]? with
    | some (.lst ds) => (v.1.fz).bind fun d => (ixP ds.length j).map fun k => (.nx ρ, y.2.set l (.lst (ds.set k d)))
    | _ => none
  | _, _ => none := rfl
@[simp] theorem rd_p : (R.p d).rd S = some d := rfl
@[simp] theorem rd_frl : (R.frl ds).rd S = some (.lst ds) := rfl
@[simp] theorem fz_p : (R.p d).fz = some d := rfl
@[simp] theorem fz_frl : (R.frl ds).fz = some (.lst ds) := rfl
@[simp] theorem box_p : (R.p d).box S = (.p d, S) := rfl
@[simp] theorem box_ref {l : Nat} : (R.ref l).box S = (.ref l, S) := rfl
@[simp] theorem box_frl : (R.frl ds).box S = (.ref S.length, S ++ [.lst ds]) := rfl
@[simp] theorem arg_p : (R.p d).arg S = (.p d, S) := rfl
@[simp] theorem arg_ref {l : Nat} : (R.ref l).arg S = (.ref l, S) := rfl
@[simp] theorem arg_frl : (R.frl ds).arg S = (.p (.lst ds), S) := rfl
@[simp] theorem rds_nil : rds S [] = some [] := rfl
@[simp] theorem rds_cons {r : R} {rs : List R} : rds S (r :: rs) = (r.rd S).bind fun d => (rds S rs).map fun ds => d :: ds := rfl
@[simp] theorem fzs_nil : fzs [] = some [] := rfl
@[simp] theorem fzs_cons {r : R} {rs : List R} : fzs (r :: rs) = (r.fz).bind fun d => (fzs rs).map fun ds => d :: ds := rfl
theorem rd_ref {l : Nat} (h : S[l]? = some (.lst ds)) : (R.ref l).rd S = some (.lst ds) := by simp [R.rd, h]
@[simp] theorem put_nm : (Tg.nm i).put d ρ = some (ρ.set i (some (.p d))) := rfl
@[simp] theorem put_tp {is : List Nat} : (Tg.tp is).put (.tup ds) ρ = setAll is ds ρ := rfl
@[simp] theorem fin_p {n : Nat} : finish n (.p d) S = some (.p d, S.take n) := rfl
@[simp] theorem fin_frl {n : Nat} : finish n (.frl ds) S = some (.frl ds, S.take n) := rfl
end
@[simp] theorem big_is : big = 1000000 := rfl
@[simp] theorem fit_int (n : Nat) (i : Int) : P.fit n (.int i) = true := by cases n <;> rfl
@[simp] theorem fit_bl (n : Nat) (b : Bool) : P.fit n (.bl b) = true := by cases n <;> rfl
@[simp] theorem fit_ints (n : Nat) (ns : List Int) : (ns.map P.int).all (P.fit n) = true := by simp
@[simp] theorem fit_lst (n : Nat) (ds : List P) : P.fit (n + 1) (.lst ds) = ds.all (P.fit n) := rfl
@[simp] theorem fit_tup (n : Nat) (ds : List P) : P.fit (n + 1) (.tup ds) = ds.all (P.fit n) := rfl
@[simp] theorem fit_lst60 (ds : List P) : P.fit 60 (.lst ds) = ds.all (P.fit 59) := rfl
@[simp] theorem fit_tup60 (ds : List P) : P.fit 60 (.tup ds) = ds.all (P.fit 59) := rfl
@[simp] theorem add_int (i j : Int) : pAdd (.int i) (.int j) = some (.p (.int (i + j))) := rfl
@[simp] theorem sub_int (i j : Int) : pSub (.int i) (.int j) = some (.p (.int (i - j))) := rfl
@[simp] theorem neg_int (i : Int) : pNeg (.int i) = some (.p (.int (-i))) := rfl
theorem mul_int (i j : Int) (h : -18446744073709551616 < i) (h2 : i < 18446744073709551616) : pMul (.int i) (.int j) = some (.p (.int (i * j))) := by
  exact if_pos (.inl ⟨h, h2⟩)
theorem mul_int' (i j : Int) (h : -18446744073709551616 < j) (h2 : j < 18446744073709551616) : pMul (.int i) (.int j) = some (.p (.int (i * j))) := by
  exact if_pos (.inr ⟨h, h2⟩)
theorem div_int (i j : Int) (h : 0 < j) (h2 : j < 1073741824) : pDiv (.int i) (.int j) = some (.p (.int (i / j))) := by
  exact if_pos ⟨h, h2⟩
theorem mod_int (i j : Int) (h : 0 < j) : pMod (.int i) (.int j) = some (.p (.int (i % j))) := by
  exact if_pos h
theorem pow_int (i : Int) (j : Nat) (h : j ≤ 1000000) (h0 : 0 ≤ i) (h2 : i < 18446744073709551616) : pPow (.int i) (.int (j : Int)) = some (.p (.int (i ^ j))) := by
  have hl : lim64 = 18446744073709551616 := rfl
  have : pPow (.int i) (.int (j : Int)) = some (.p (.int (i ^ (j : Int).toNat))) := if_pos ⟨Int.natCast_nonneg j, by omega, by rw [hl]; omega⟩
  rw [this]; simp
@[simp] theorem lt_int (i j : Int) : pLt (.int i) (.int j) = some (.p (.bl (decide (i < j)))) := rfl
@[simp] theorem le_int (i j : Int) : pLe (.int i) (.int j) = some (.p (.bl (decide (i ≤ j)))) := rfl
@[simp] theorem gt_int (i j : Int) : pGt (.int i) (.int j) = some (.p (.bl (decide (j < i)))) := rfl
@[simp] theorem ge_int (i j : Int) : pGe (.int i) (.int j) = some (.p (.bl (decide (j ≤ i)))) := rfl
@[simp] theorem eq_int (i j : Int) : pEq (.int i) (.int j) = some (.p (.bl (decide (i = j)))) := by simp [pEq, P.pyeq]
@[simp] theorem ne_int (i j : Int) : pNe (.int i) (.int j) = some (.p (.bl (!decide (i = j)))) := by simp [pNe, P.pyeq]
@[simp] theorem ix_tup0 (x : P) (xs : List P) : pIx (.tup (x :: xs)) (.int 0) = some (.p x) := by simp [pIx, ixP]
@[simp] theorem ix_tup1 (x y : P) (xs : List P) : pIx (.tup (x :: y :: xs)) (.int 1) = some (.p y) := by simp [pIx, ixP]
@[simp] theorem ix_tup2 (x y z : P) (xs : List P) : pIx (.tup (x :: y :: z :: xs)) (.int 2) = some (.p z) := by simp [pIx, ixP]
@[simp] theorem ix_lst0 (x : P) (xs : List P) : pIx (.lst (x :: xs)) (.int 0) = some (.p x) := by simp [pIx, ixP]
@[simp] theorem ix_lst1 (x y : P) (xs : List P) : pIx (.lst (x :: y :: xs)) (.int 1) = some (.p y) := by simp [pIx, ixP]
@[simp] theorem len_lst (ds : List P) : cLen [.lst ds] = some (.p (.int ds.length)) := rfl
@[simp] theorem len_tup (ds : List P) : cLen [.tup ds] = some (.p (.int ds.length)) := rfl
@[simp] theorem c_tuple (ds : List P) : cTuple [.lst ds] = some (.p (.tup ds)) := rfl
@[simp] theorem c_tuple' (ds : List P) : cTuple [.tup ds] = some (.p (.tup ds)) := rfl
@[simp] theorem c_list (ds : List P) : cList [.lst ds] = some (.frl ds) := rfl
@[simp] theorem c_listA (ds : List P) : cListA [.lst ds] = some (.frl ds) := rfl
@[simp] theorem c_listA' (ds : List P) : cListA [.tup ds] = some (.frl ds) := rfl
@[simp] theorem c_list' (ds : List P) : cList [.tup ds] = some (.frl ds) := rfl
@[simp] theorem isi_app (f : P → Bool) (d : P) : pIsi f d = some (.p (.bl (f d))) := rfl
@[simp] theorem isiInt_int (i : Int) : isiInt (.int i) = true := rfl
@[simp] theorem isiBool_int (i : Int) : isiBool (.int i) = false := rfl
@[simp] theorem isiTuple_tup (ds : List P) : isiTuple (.tup ds) = true := rfl
@[simp] theorem isiStr_str (s : List Nat) : isiStr (.str s) = true := rfl
theorem ixP_of {n : Nat} {i : Int} (h0 : 0 ≤ i) (h : i.toNat < n) : ixP n i = some i.toNat := by
  unfold ixP
  rw [if_pos h0, if_pos h]
theorem ix_lst_of {ds : List P} {i : Int} {d : P} (h0 : 0 ≤ i) (h : ds[i.toNat]? = some d) : pIx (.lst ds) (.int i) = some (.p d) := by
  have hl := (List.getElem?_eq_some_iff.mp h).1
  simp [pIx, ixP_of h0 hl, h]
theorem ix_tup_of {ds : List P} {i : Int} {d : P} (h0 : 0 ≤ i) (h : ds[i.toNat]? = some d) : pIx (.tup ds) (.int i) = some (.p d) := by
  have hl := (List.getElem?_eq_some_iff.mp h).1
  simp [pIx, ixP_of h0 hl, h]
/-- a def that gives data and leaves the cells -/
theorem mkF_p {k n : Nat} {b : XS} {args : List D} {S S' : Sto} {d : P} (hk : args.length = k) (h : b (startE n args) S = some (.rt (.p d), S')) (hs : S'.take S.length = S) : mkF k n b args S = some (.p d, S) := by
  unfold mkF
  rw [if_pos hk, h]
  simp [hs]
/-! ### step by step -/
section
variable {ρ ρ' : Env} {S S' : Sto} {t : XT} {s s' : XS} {r : R}
theorem seq_nx (h : s ρ S = some (.nx ρ', S')) : xSeq s s' ρ S = s' ρ' S' := by rw [e_Seq, h]; rfl
theorem seq_rt (h : s ρ S = some (.rt r, S')) : xSeq s s' ρ S = some (.rt r, S') := by rw [e_Seq, h]; rfl
theorem ifS_t (h : t ρ S = some (true, S')) : xIfS t s s' ρ S = s ρ S' := by rw [e_IfS, h]; rfl
theorem ifS_f (h : t ρ S = some (false, S')) : xIfS t s s' ρ S = s' ρ S' := by rw [e_IfS, h]; rfl
theorem if_no (h : t ρ S = some (false, S)) : xIfS t s xPass ρ S = some (.nx ρ, S) := ifS_f h
theorem set_p {i : Nat} {a : XE} {d : P} (h : a ρ S = some (.p d, S')) : xSet i a ρ S = some (.nx (ρ.set i (some (.p d))), S') := by rw [e_Set, h]; rfl
theorem set_frl {i : Nat} {a : XE} {ds : List P} (h : a ρ S = some (.frl ds, S')) : xSet i a ρ S = some (.nx (ρ.set i (some (.ref S'.length))), S' ++ [.lst ds]) := by rw [e_Set, h]; rfl
theorem ret_p {a : XE} {d : P} (h : a ρ S = some (.p d, S')) : xRet a ρ S = some (.rt (.p d), S') := by rw [e_Ret, h]; rfl
theorem bin_p {f : P → P → Option R} {a b : XE} {p q : P} {S1 S2 : Sto} (ha : a ρ S = some (.p p, S1)) (hb : b ρ S1 = some (.p q, S2)) : xBin f a b ρ S = (f p q).map fun r => (r, S2) := by rw [e_Bin, ha]; simp [hb]
end
/-! ### draws -/
/-- the cell of draws: a count and what is left of each number -/
def Town (ns : List Int) (l : Nat) (c : Int) (S : Sto) : Prop := ∃ (t0 : Int) (tr : List Int), S[l]? = some (.lst (.int t0 :: tr.map P.int)) ∧ tr.length = ns.length ∧ 0 ≤ t0 ∧ t0 ≤ c
end XL
end
section
set_option Elab.async false
set_option linter.all false
set_option autoImplicit false
set_option maxRecDepth 100000
set_option maxHeartbeats 1000000
namespace XL
/-! ### slots that hold values: what a cell holds stands in the slot itself -/
inductive Tag where
  | own
  | gst
  | lck
deriving DecidableEq
inductive V where
  | p (d : P)
  | l (g : Tag) (ds : List P)
  | d (g : Tag) (lk t : Bool) (kvs : List (P × P))
abbrev VEnv := List (Option V)
def V.cell : V → Option Cell
  | .p _ => none
  | .l _ ds => some (.lst ds)
  | .d _ lk t kvs => some (.dct lk t kvs)
def V.tag : V → Tag
  | .p _ => .own
  | .l g _ => g
  | .d g _ _ _ => g
def V.withTag (h : Tag) : V → V
  | .p x => .p x
  | .l _ ds => .l h ds
  | .d _ lk t kvs => .d h lk t kvs
inductive U where
  | p (d : P)
  | sl (i : Nat)
  | frl (ds : List P)
  | frd (t : Bool) (kvs : List (P × P))
structure Rep (K : Nat → Option Nat) (b n : Nat) (ρ : Env) (S : Sto) (σ : VEnv) : Prop where
  hK : ∀ (i k : Nat), K i = some k → k < n
  bn : b ≤ n
  nS : n ≤ S.length
  len : ρ.length = σ.length
  dat : ∀ (i : Nat) (d : P), σ[i]? = some (some (.p d)) → ρ[i]? = some (some (.p d))
  cel : ∀ (i : Nat) (v : V) (c : Cell), σ[i]? = some (some v) → v.cell = some c → ∃ k, ρ[i]? = some (some (.ref k)) ∧ S[k]? = some c ∧ (v.tag = .own → b ≤ k) ∧ (v.tag ≠ .own → K i = some k)
  inj : ∀ (i j : Nat) (v w : V) (k : Nat), σ[i]? = some (some v) → σ[j]? = some (some w) → v.cell ≠ none → w.cell ≠ none → ρ[i]? = some (some (.ref k)) → ρ[j]? = some (some (.ref k)) → i = j
/-- a cell that some slot holds -/
def Lv (ρ : Env) (σ : VEnv) (k : Nat) : Prop := ∃ (i : Nat) (v : V), σ[i]? = some (some v) ∧ v.cell ≠ none ∧ ρ[i]? = some (some (.ref k))
structure Exv (ρ : Env) (σ : VEnv) (S : Sto) (ρ' : Env) (σ' : VEnv) (S' : Sto) : Prop where
  len : S.length ≤ S'.length
  frm : ∀ j, j < S.length → ¬ Lv ρ σ j → S'[j]? = S[j]? ∧ ¬ Lv ρ' σ' j
theorem Exv.refl (ρ : Env) (σ : VEnv) (S : Sto) : Exv ρ σ S ρ σ S := ⟨Nat.le_refl _, fun _ _ h => ⟨rfl, h⟩⟩
theorem Exv.trans {ρ ρ1 ρ2 : Env} {σ σ1 σ2 : VEnv} {S S1 S2 : Sto} (h : Exv ρ σ S ρ1 σ1 S1) (k : Exv ρ1 σ1 S1 ρ2 σ2 S2) : Exv ρ σ S ρ2 σ2 S2 :=
  ⟨Nat.le_trans h.len k.len, fun j hj hn => by
    obtain ⟨a, b⟩ := h.frm j hj hn
    obtain ⟨c, d⟩ := k.frm j (Nat.lt_of_lt_of_le hj h.len) b
    exact ⟨c.trans a, d⟩⟩
def RepU (ρ : Env) : U → R → Prop
  | .p d, r => r = .p d
  | .sl i, r => ∃ l, r = .ref l ∧ ρ[i]? = some (some (.ref l))
  | .frl ds, r => r = .frl ds
  | .frd t kvs, r => r = .frd t kvs
def U.rd (σ : VEnv) : U → Option P
  | .p d => some d
  | .sl i => match σ[i]? with
    | some (some (.l _ ds)) => some (.lst ds)
    | _ => none
  | .frl ds => some (.lst ds)
  | .frd _ _ => none
def U.fz : U → Option P
  | .p d => some d
  | .frl ds => some (.lst ds)
  | _ => none
section
variable {K : Nat → Option Nat} {b n : Nat} {ρ : Env} {S : Sto} {σ : VEnv}
theorem Rep.rd (h : Rep K b n ρ S σ) {u : U} {r : R} {p : P} (hu : RepU ρ u r) (e : u.rd σ = some p) : r.rd S = some p := by
  cases u with
  | p d => cases hu; exact e
  | frl ds => cases hu; exact e
  | frd t kvs => cases e
  | sl i =>
    obtain ⟨l, rfl, hl⟩ := hu
    simp only [U.rd] at e
    split at e
    · rename_i g ds c
      cases e
      obtain ⟨k, a1, a2, _⟩ := h.cel i _ _ c rfl
      rw [hl] at a1; cases a1
      simp [R.rd, a2]
    · cases e
theorem fz_rep {u : U} {r : R} {p : P} (hu : RepU ρ u r) (e : u.fz = some p) : r.fz = some p := by
  cases u with
  | p d => cases hu; exact e
  | frl ds => cases hu; exact e
  | frd t kvs => cases e
  | sl i => cases e
theorem Rep.lv_lt (h : Rep K b n ρ S σ) {k : Nat} (l : Lv ρ σ k) : k < S.length := by
  obtain ⟨i, v, h1, h2, h3⟩ := l
  cases hc : v.cell with
  | none => exact absurd hc h2
  | some c =>
    obtain ⟨k', a1, a2, _⟩ := h.cel i v c h1 hc
    rw [h3] at a1; cases a1
    exact (List.getElem?_eq_some_iff.mp a2).1
/-- less known -/
def Forget (σ σ' : VEnv) : Prop := σ'.length = σ.length ∧ ∀ (i : Nat) (v : V), σ'[i]? = some (some v) → σ[i]? = some (some v)
theorem Forget.refl (σ : VEnv) : Forget σ σ := ⟨rfl, fun _ _ h => h⟩
theorem Rep.forget (h : Rep K b n ρ S σ) {σ' : VEnv} (f : Forget σ σ') : Rep K b n ρ S σ' :=
  ⟨h.hK, h.bn, h.nS, h.len.trans f.1.symm, fun i d e => h.dat i d (f.2 i _ e), fun i v c e hc => h.cel i v c (f.2 i _ e) hc, fun i j v w k e1 e2 => h.inj i j v w k (f.2 i _ e1) (f.2 j _ e2)⟩
theorem Lv.forget {σ' : VEnv} (f : Forget σ σ') {k : Nat} (h : Lv ρ σ' k) : Lv ρ σ k := by
  obtain ⟨i, v, h1, h2⟩ := h
  exact ⟨i, v, f.2 i v h1, h2⟩
theorem Exv.forget {ρ' : Env} {σ' σ'' : VEnv} {S' : Sto} (h : Exv ρ σ S ρ' σ' S') (f : Forget σ' σ'') : Exv ρ σ S ρ' σ'' S' :=
  ⟨h.len, fun j hj hn => by
    obtain ⟨a, b⟩ := h.frm j hj hn
    exact ⟨a, fun q => b (q.forget f)⟩⟩
theorem set_get {α : Type} {l : List α} {i j : Nat} {x y : α} (h : (l.set i x)[j]? = some y) : (j = i ∧ y = x ∧ i < l.length) ∨ (j ≠ i ∧ l[j]? = some y) := by
  by_cases c : i = j
  · subst c
    have hl : i < l.length := by
      have := (List.getElem?_eq_some_iff.mp h).1; simpa using this
    rw [List.getElem?_set_self hl] at h
    exact .inl ⟨rfl, (Option.some.inj h).symm, hl⟩
  · rw [List.getElem?_set_ne c] at h
    exact .inr ⟨fun q => c q.symm, h⟩
theorem Rep.set_p (h : Rep K b n ρ S σ) {i : Nat} (d : P) (hi : i < σ.length) : Rep K b n (ρ.set i (some (.p d))) S (σ.set i (some (.p d))) := by
  refine ⟨h.hK, h.bn, h.nS, by simp [h.len], fun j e he => ?_, fun j v c he hc => ?_, fun j k v w m e1 e2 c1 c2 r1 r2 => ?_⟩
  · rcases set_get he with ⟨rfl, q, _⟩ | ⟨ne, q⟩
    · cases q; exact List.getElem?_set_self (h.len ▸ hi)
    · rw [List.getElem?_set_ne (fun z => ne z.symm)]; exact h.dat j e q
  · rcases set_get he with ⟨rfl, q, _⟩ | ⟨ne, q⟩
    · cases q; cases hc
    · rw [List.getElem?_set_ne (fun z => ne z.symm)]; exact h.cel j v c q hc
  · rcases set_get e1 with ⟨rfl, q, _⟩ | ⟨ne1, q1⟩
    · cases q; exact absurd rfl c1
    · rcases set_get e2 with ⟨rfl, q, _⟩ | ⟨ne2, q2⟩
      · cases q; exact absurd rfl c2
      · rw [List.getElem?_set_ne (fun z => ne1 z.symm)] at r1
        rw [List.getElem?_set_ne (fun z => ne2 z.symm)] at r2
        exact h.inj j k v w m q1 q2 c1 c2 r1 r2
theorem ext_set_p {i : Nat} (d : P) : Exv ρ σ S (ρ.set i (some (.p d))) (σ.set i (some (.p d))) S :=
  ⟨Nat.le_refl _, fun j hj hn => ⟨rfl, fun ⟨k, v, h1, h2, h3⟩ => by
    rcases set_get h1 with ⟨rfl, q, _⟩ | ⟨ne, q⟩
    · cases q; exact h2 rfl
    · rw [List.getElem?_set_ne (fun z => ne z.symm)] at h3
      exact hn ⟨k, v, q, h2, h3⟩⟩⟩
/-- more cells behind -/
theorem Rep.more (h : Rep K b n ρ S σ) (T : Sto) : Rep K b n ρ (S ++ T) σ :=
  ⟨h.hK, h.bn, by rw [List.length_append]; exact Nat.le_trans h.nS (Nat.le_add_right _ _), h.len, h.dat, fun i v c e hc => by
    obtain ⟨k, a1, a2, a3⟩ := h.cel i v c e hc
    exact ⟨k, a1, by rw [List.getElem?_append_left (List.getElem?_eq_some_iff.mp a2).1]; exact a2, a3⟩, h.inj⟩
theorem ext_more (T : Sto) : Exv ρ σ S ρ σ (S ++ T) := ⟨by simp, fun j hj hn => ⟨List.getElem?_append_left hj, hn⟩⟩
/-- a slot gets a cell that no slot holds -/
theorem Rep.set_c (h : Rep K b n ρ S σ) {i k : Nat} {v : V} {c : Cell} (hi : i < σ.length) (hv : v.cell = some c) (hg : v.tag = .own) (hS : S[k]? = some c) (hk : b ≤ k) (hn : ¬ Lv ρ σ k) : Rep K b n (ρ.set i (some (.ref k))) S (σ.set i (some v)) := by
  refine ⟨h.hK, h.bn, h.nS, by simp [h.len], fun j e he => ?_, fun j w c' he hc => ?_, fun j j' w w' m e1 e2 c1 c2 r1 r2 => ?_⟩
  · rcases set_get he with ⟨rfl, q, _⟩ | ⟨ne, q⟩
    · cases q; cases hv
    · rw [List.getElem?_set_ne (fun z => ne z.symm)]; exact h.dat j e q
  · rcases set_get he with ⟨rfl, q, _⟩ | ⟨ne, q⟩
    · cases q
      rw [hv] at hc; cases hc
      exact ⟨k, List.getElem?_set_self (h.len ▸ hi), hS, fun _ => hk, fun z => absurd hg z⟩
    · rw [List.getElem?_set_ne (fun z => ne z.symm)]; exact h.cel j w c' q hc
  · rcases set_get e1 with ⟨rfl, q, _⟩ | ⟨ne1, q1⟩ <;> rcases set_get e2 with ⟨rfl, q', _⟩ | ⟨ne2, q2⟩
    · rfl
    · cases q
      rw [List.getElem?_set_self (h.len ▸ hi)] at r1; cases r1
      rw [List.getElem?_set_ne (fun z => ne2 z.symm)] at r2
      exact absurd ⟨j', w', q2, c2, r2⟩ hn
    · cases q'
      rw [List.getElem?_set_self (h.len ▸ hi)] at r2; cases r2
      rw [List.getElem?_set_ne (fun z => ne1 z.symm)] at r1
      exact absurd ⟨j, w, q1, c1, r1⟩ hn
    · rw [List.getElem?_set_ne (fun z => ne1 z.symm)] at r1
      rw [List.getElem?_set_ne (fun z => ne2 z.symm)] at r2
      exact h.inj j j' w w' m q1 q2 c1 c2 r1 r2
theorem lv_set {i k j : Nat} {x : Option D} {v : V} (h : Lv (ρ.set i x) (σ.set i (some v)) j) (hx : x = some (.ref k)) (hi : i < ρ.length) : j = k ∨ Lv ρ σ j := by
  obtain ⟨m, w, h1, h2, h3⟩ := h
  rcases set_get h1 with ⟨rfl, q, _⟩ | ⟨ne, q⟩
  · rw [List.getElem?_set_self hi, hx] at h3; cases h3; exact .inl rfl
  · rw [List.getElem?_set_ne (fun z => ne z.symm)] at h3
    exact .inr ⟨m, w, q, h2, h3⟩
theorem Rep.set_new (h : Rep K b n ρ S σ) {i : Nat} {v : V} {c : Cell} (hi : i < σ.length) (hv : v.cell = some c) (hg : v.tag = .own) : Rep K b n (ρ.set i (some (.ref S.length))) (S ++ [c]) (σ.set i (some v)) ∧ Exv ρ σ S (ρ.set i (some (.ref S.length))) (σ.set i (some v)) (S ++ [c]) := by
  refine ⟨(h.more [c]).set_c hi hv hg (by simp) (Nat.le_trans h.bn h.nS) (fun q => ?_), by simp, fun j hj hn => ⟨List.getElem?_append_left hj, fun q => ?_⟩⟩
  · exact absurd (h.lv_lt q) (Nat.lt_irrefl _)
  · rcases lv_set q rfl (h.len ▸ hi) with z | z
    · omega
    · exact hn z
/-- what a slot's cell holds changes -/
theorem Rep.upd (h : Rep K b n ρ S σ) {i k : Nat} {v v' : V} {c' : Cell} (hi : σ[i]? = some (some v)) (hv : v.cell ≠ none) (hk : ρ[i]? = some (some (.ref k))) (hv' : v'.cell = some c') (ht : v'.tag = v.tag) : Rep K b n ρ (S.set k c') (σ.set i (some v')) ∧ Exv ρ σ S ρ (σ.set i (some v')) (S.set k c') := by
  have hil := (List.getElem?_eq_some_iff.mp hi).1
  have hkl : k < S.length := h.lv_lt ⟨i, v, hi, hv, hk⟩
  have lvn : ∀ j, Lv ρ (σ.set i (some v')) j → Lv ρ σ j := fun j q => by
    obtain ⟨m, w, h1, h2, h3⟩ := q
    rcases set_get h1 with ⟨rfl, q, _⟩ | ⟨ne, q⟩
    · exact ⟨m, v, hi, hv, h3⟩
    · exact ⟨m, w, q, h2, h3⟩
  refine ⟨⟨h.hK, h.bn, by simp [h.nS], by simp [h.len], fun j e he => ?_, fun j w c he hc => ?_, fun j j' w w' m e1 e2 c1 c2 r1 r2 => ?_⟩, by simp, fun j hj hn => ⟨?_, fun q => hn (lvn j q)⟩⟩
  · rcases set_get he with ⟨rfl, q, _⟩ | ⟨ne, q⟩
    · cases q; cases hv'
    · exact h.dat j e q
  · rcases set_get he with ⟨rfl, q, _⟩ | ⟨ne, q⟩
    · cases q
      rw [hv'] at hc; cases hc
      cases hvc : v.cell with
      | none => exact absurd hvc hv
      | some c0 =>
        obtain ⟨k', a1, a2, a3, a4⟩ := h.cel j v c0 hi hvc
        rw [hk] at a1; cases a1
        exact ⟨k, hk, List.getElem?_set_self hkl, fun z => a3 (ht ▸ z), fun z => a4 (ht ▸ z)⟩
    · obtain ⟨k', a1, a2, a3⟩ := h.cel j w c q hc
      refine ⟨k', a1, ?_, a3⟩
      rw [List.getElem?_set_ne (fun z => ?_)]; · exact a2
      subst z
      exact ne (h.inj j i w v k q hi (by rw [hc]; exact fun z => nomatch z) hv a1 hk)
  · have f : ∀ {x : Nat} {y : V}, (σ.set i (some v'))[x]? = some (some y) → y.cell ≠ none → ∃ z, σ[x]? = some (some z) ∧ z.cell ≠ none := fun {x y} e c => by
      rcases set_get e with ⟨rfl, q, _⟩ | ⟨ne, q⟩
      · exact ⟨v, hi, hv⟩
      · exact ⟨y, q, c⟩
    obtain ⟨z1, a1, a2⟩ := f e1 c1
    obtain ⟨z2, b1, b2⟩ := f e2 c2
    exact h.inj j j' z1 z2 m a1 b1 a2 b2 r1 r2
  · have ne : k ≠ j := fun z => hn ⟨i, v, hi, hv, by rw [← z]; exact hk⟩
    exact List.getElem?_set_ne ne
end
end XL
end
section
set_option Elab.async false
set_option linter.all false
set_option autoImplicit false
set_option maxRecDepth 100000
set_option maxHeartbeats 1000000
namespace XL
/-- Z of x, x not yet put in -/
def At {α : Type} (x : α) (Z : α → Prop) : Prop := Z x
def WPE (x : XE) (σ : VEnv) (Q : U → VEnv → Prop) : Prop := ∀ (K : Nat → Option Nat) (b n : Nat) (ρ : Env) (S : Sto), Rep K b n ρ S σ → ∃ r S' u σ', x ρ S = some (r, S') ∧ Rep K b n ρ S' σ' ∧ RepU ρ u r ∧ Exv ρ σ S ρ σ' S' ∧ Q u σ'
def WPT (x : XT) (σ : VEnv) (Q : Bool → VEnv → Prop) : Prop := ∀ (K : Nat → Option Nat) (b n : Nat) (ρ : Env) (S : Sto), Rep K b n ρ S σ → ∃ c S' σ', x ρ S = some (c, S') ∧ Rep K b n ρ S' σ' ∧ Exv ρ σ S ρ σ' S' ∧ Q c σ'
def RepUs (ρ : Env) : List U → List R → Prop
  | [], [] => True
  | u :: us, r :: rs => RepU ρ u r ∧ RepUs ρ us rs
  | _, _ => False
def WPA (x : XA) (σ : VEnv) (Q : List U → VEnv → Prop) : Prop := ∀ (K : Nat → Option Nat) (b n : Nat) (ρ : Env) (S : Sto), Rep K b n ρ S σ → ∃ r S' u σ', x ρ S = some (r, S') ∧ Rep K b n ρ S' σ' ∧ RepUs ρ u r ∧ Exv ρ σ S ρ σ' S' ∧ Q u σ'
/-- what a primitive gives -/
def QR (Q : U → VEnv → Prop) (σ : VEnv) : R → Prop
  | .p d => Q (.p d) σ
  | .frl ds => Q (.frl ds) σ
  | .frd t kvs => Q (.frd t kvs) σ
  | .ref _ => False
theorem QR.get {Q : U → VEnv → Prop} {σ : VEnv} {r : R} (h : QR Q σ r) (ρ : Env) : ∃ u, RepU ρ u r ∧ Q u σ := by
  cases r with
  | p d => exact ⟨.p d, rfl, h⟩
  | frl d => exact ⟨.frl d, rfl, h⟩
  | frd t d => exact ⟨.frd t d, rfl, h⟩
  | ref l => exact h.elim
def urds (σ : VEnv) : List U → Option (List P)
  | [] => some []
  | u :: us => (u.rd σ).bind fun d => (urds σ us).map fun ds => d :: ds
def ufzs : List U → Option (List P)
  | [] => some []
  | u :: us => (u.fz).bind fun d => (ufzs us).map fun ds => d :: ds
theorem rds_rep {K : Nat → Option Nat} {b n : Nat} {ρ : Env} {S : Sto} {σ : VEnv} (h : Rep K b n ρ S σ) : ∀ {us : List U} {rs : List R} {ds : List P}, RepUs ρ us rs → urds σ us = some ds → rds S rs = some ds
  | [], [], ds, _, e => e
  | [], _ :: _, _, hu, _ => hu.elim
  | _ :: _, [], _, hu, _ => hu.elim
  | u :: us, r :: rs, ds, hu, e => by
    simp only [urds, Option.bind_eq_some_iff, Option.map_eq_some_iff] at e
    obtain ⟨d, h1, ds', h2, rfl⟩ := e
    simp [rds, h.rd hu.1 h1, rds_rep h hu.2 h2]
theorem fzs_rep {ρ : Env} : ∀ {us : List U} {rs : List R} {ds : List P}, RepUs ρ us rs → ufzs us = some ds → fzs rs = some ds
  | [], [], ds, _, e => e
  | [], _ :: _, _, hu, _ => hu.elim
  | _ :: _, [], _, hu, _ => hu.elim
  | u :: us, r :: rs, ds, hu, e => by
    simp only [ufzs, Option.bind_eq_some_iff, Option.map_eq_some_iff] at e
    obtain ⟨d, h1, ds', h2, rfl⟩ := e
    simp [fzs, fz_rep hu.1 h1, fzs_rep hu.2 h2]
section
variable {σ : VEnv} {Q : U → VEnv → Prop} {QT : Bool → VEnv → Prop} {QA : List U → VEnv → Prop} {a b c : XE} {t u : XT} {xs : XA} {f g : P → P → Option R} {i : Nat}
theorem WPE.mono {Q' : U → VEnv → Prop} (h : WPE a σ Q) (k : ∀ u σ, Q u σ → Q' u σ) : WPE a σ Q' := fun K b n ρ S H => by
  obtain ⟨r, S', u, σ', e, R', h2, h3, h4⟩ := h K b n ρ S H
  exact ⟨r, S', u, σ', e, R', h2, h3, k _ _ h4⟩
theorem WPT.mono {Q' : Bool → VEnv → Prop} (h : WPT t σ QT) (k : ∀ u σ, QT u σ → Q' u σ) : WPT t σ Q' := fun K b n ρ S H => by
  obtain ⟨r, S', σ', e, R', h3, h4⟩ := h K b n ρ S H
  exact ⟨r, S', σ', e, R', h3, k _ _ h4⟩
theorem wpe_varp {d : P} (h : σ[i]? = some (some (.p d))) (q : Q (.p d) σ) : WPE (xVar i) σ Q := fun K b n ρ S H =>
  ⟨.p d, S, .p d, σ, by simp [H.dat i d h], H, rfl, .refl _ _ _, q⟩
theorem wpe_varc {v : V} (h : σ[i]? = some (some v)) (hv : v.cell ≠ none) (q : Q (.sl i) σ) : WPE (xVar i) σ Q := fun K b n ρ S H => by
  cases hc : v.cell with
  | none => exact absurd hc hv
  | some c =>
    obtain ⟨k, a1, a2, _⟩ := H.cel i v c h hc
    exact ⟨.ref k, S, .sl i, σ, by simp [a1], H, ⟨k, rfl, a1⟩, .refl _ _ _, q⟩
theorem wpe_varl {g : Tag} {ds : List P} (h : σ[i]? = some (some (.l g ds))) (q : Q (.sl i) σ) : WPE (xVar i) σ Q := wpe_varc h (fun z => nomatch z) q
theorem wpe_vard {g : Tag} {lk t : Bool} {kvs : List (P × P)} (h : σ[i]? = some (some (.d g lk t kvs))) (q : Q (.sl i) σ) : WPE (xVar i) σ Q := wpe_varc h (fun z => nomatch z) q
theorem wpe_c {d : P} (q : Q (.p d) σ) : WPE (xC d) σ Q := fun K b n ρ S H => ⟨.p d, S, .p d, σ, rfl, H, rfl, .refl _ _ _, q⟩
theorem wpe_bin (h : WPE a σ fun u σ1 => WPE b σ1 fun w σ2 => ∃ p, u.rd σ2 = some p ∧ ∃ q, w.rd σ2 = some q ∧ ∃ r, f p q = some r ∧ QR Q σ2 r) : WPE (xBin f a b) σ Q := fun K b n ρ S H => by
  obtain ⟨r1, S1, u1, σ1, e1, R1, U1, X1, h⟩ := h K b n ρ S H
  obtain ⟨r2, S2, u2, σ2, e2, R2, U2, X2, p, hp, q, hq, r, hr, hQ⟩ := h K b n ρ S1 R1
  obtain ⟨u, hu, hQ⟩ := hQ.get ρ
  exact ⟨r, S2, u, σ2, by simp [e1, e2, R2.rd U1 hp, R2.rd U2 hq, hr], R2, hu, X1.trans X2, hQ⟩
theorem wpe_un {f : P → Option R} (h : WPE a σ fun u σ1 => ∃ p, u.rd σ1 = some p ∧ ∃ r, f p = some r ∧ QR Q σ1 r) : WPE (xUn f a) σ Q := fun K b n ρ S H => by
  obtain ⟨r1, S1, u1, σ1, e1, R1, U1, X1, p, hp, r, hr, hQ⟩ := h K b n ρ S H
  obtain ⟨u, hu, hQ⟩ := hQ.get ρ
  exact ⟨r, S1, u, σ1, by simp [e1, R1.rd U1 hp, hr], R1, hu, X1, hQ⟩
theorem wpe_chain (h : WPE a σ fun u σ1 => WPE b σ1 fun w σ2 => ∃ p, u.rd σ2 = some p ∧ ∃ q, w.rd σ2 = some q ∧ ∃ c0, f p q = some (.p (.bl c0)) ∧ (c0 = true → WPE c σ2 fun z σ3 => ∃ q', w.rd σ3 = some q' ∧ ∃ v, z.rd σ3 = some v ∧ ∃ r, g q' v = some r ∧ QR Q σ3 r) ∧ (c0 = false → Q (.p (.bl false)) σ2)) : WPE (xChain f g a b c) σ Q := fun K b n ρ S H => by
  obtain ⟨r1, S1, u1, σ1, e1, R1, U1, X1, h⟩ := h K b n ρ S H
  obtain ⟨r2, S2, u2, σ2, e2, R2, U2, X2, p, hp, q, hq, c0, hr, ht, hf⟩ := h K b n ρ S1 R1
  cases c0 with
  | false => exact ⟨.p (.bl false), S2, .p (.bl false), σ2, by simp [e1, e2, R2.rd U1 hp, R2.rd U2 hq, hr], R2, rfl, X1.trans X2, hf rfl⟩
  | true =>
    obtain ⟨r3, S3, u3, σ3, e3, R3, U3, X3, q', hq', v, hv, r, hr', hQ⟩ := ht rfl K b n ρ S2 R2
    obtain ⟨u, hu, hQ⟩ := hQ.get ρ
    exact ⟨r, S3, u, σ3, by simp [e1, e2, R2.rd U1 hp, R2.rd U2 hq, hr, e3, R3.rd U2 hq', R3.rd U3 hv, hr'], R3, hu, (X1.trans X2).trans X3, hQ⟩
theorem wpe_and (h : WPE a σ fun u σ1 => ∃ c0, u = .p (.bl c0) ∧ (c0 = true → WPE b σ1 Q) ∧ (c0 = false → Q (.p (.bl false)) σ1)) : WPE (xAnd a b) σ Q := fun K b n ρ S H => by
  obtain ⟨r1, S1, u1, σ1, e1, R1, U1, X1, c0, rfl, ht, hf⟩ := h K b n ρ S H
  cases U1
  cases c0 with
  | false => exact ⟨.p (.bl false), S1, .p (.bl false), σ1, by simp [e1], R1, rfl, X1, hf rfl⟩
  | true =>
    obtain ⟨r2, S2, u2, σ2, e2, R2, U2, X2, q⟩ := ht rfl K b n ρ S1 R1
    exact ⟨r2, S2, u2, σ2, by simp [e1, e2], R2, U2, X1.trans X2, q⟩
theorem wpe_or (h : WPE a σ fun u σ1 => ∃ c0, u = .p (.bl c0) ∧ (c0 = false → WPE b σ1 Q) ∧ (c0 = true → Q (.p (.bl true)) σ1)) : WPE (xOr a b) σ Q := fun K b n ρ S H => by
  obtain ⟨r1, S1, u1, σ1, e1, R1, U1, X1, c0, rfl, ht, hf⟩ := h K b n ρ S H
  cases U1
  cases c0 with
  | true => exact ⟨.p (.bl true), S1, .p (.bl true), σ1, by simp [e1], R1, rfl, X1, hf rfl⟩
  | false =>
    obtain ⟨r2, S2, u2, σ2, e2, R2, U2, X2, q⟩ := ht rfl K b n ρ S1 R1
    exact ⟨r2, S2, u2, σ2, by simp [e1, e2], R2, U2, X1.trans X2, q⟩
theorem wpe_not (h : WPE a σ fun u σ1 => ∃ c0, u = .p (.bl c0) ∧ Q (.p (.bl (!c0))) σ1) : WPE (xNot a) σ Q := fun K b n ρ S H => by
  obtain ⟨r1, S1, u1, σ1, e1, R1, U1, X1, c0, rfl, q⟩ := h K b n ρ S H
  cases U1
  exact ⟨.p (.bl (!c0)), S1, .p (.bl (!c0)), σ1, by simp [e1], R1, rfl, X1, q⟩
theorem wpe_if (h : WPT t σ fun c0 σ1 => (c0 = true → WPE a σ1 Q) ∧ (c0 = false → WPE b σ1 Q)) : WPE (xIf t a b) σ Q := fun K b n ρ S H => by
  obtain ⟨c0, S1, σ1, e1, R1, X1, ht, hf⟩ := h K b n ρ S H
  cases c0 with
  | true =>
    obtain ⟨r2, S2, u2, σ2, e2, R2, U2, X2, q⟩ := ht rfl K b n ρ S1 R1
    exact ⟨r2, S2, u2, σ2, by simp [e1, e2], R2, U2, X1.trans X2, q⟩
  | false =>
    obtain ⟨r2, S2, u2, σ2, e2, R2, U2, X2, q⟩ := hf rfl K b n ρ S1 R1
    exact ⟨r2, S2, u2, σ2, by simp [e1, e2], R2, U2, X1.trans X2, q⟩
theorem wpt_B (h : WPE a σ fun u σ1 => ∃ c0, u = .p (.bl c0) ∧ QT c0 σ1) : WPT (xB a) σ QT := fun K b n ρ S H => by
  obtain ⟨r1, S1, u1, σ1, e1, R1, U1, X1, c0, rfl, q⟩ := h K b n ρ S H
  cases U1
  exact ⟨c0, S1, σ1, by simp [e1], R1, X1, q⟩
theorem wpt_and (h : WPT t σ fun c0 σ1 => (c0 = true → WPT u σ1 QT) ∧ (c0 = false → QT false σ1)) : WPT (xTand t u) σ QT := fun K b n ρ S H => by
  obtain ⟨c0, S1, σ1, e1, R1, X1, ht, hf⟩ := h K b n ρ S H
  cases c0 with
  | false => exact ⟨false, S1, σ1, by simp [e1], R1, X1, hf rfl⟩
  | true =>
    obtain ⟨c2, S2, σ2, e2, R2, X2, q⟩ := ht rfl K b n ρ S1 R1
    exact ⟨c2, S2, σ2, by simp [e1, e2], R2, X1.trans X2, q⟩
theorem wpt_or (h : WPT t σ fun c0 σ1 => (c0 = false → WPT u σ1 QT) ∧ (c0 = true → QT true σ1)) : WPT (xTor t u) σ QT := fun K b n ρ S H => by
  obtain ⟨c0, S1, σ1, e1, R1, X1, ht, hf⟩ := h K b n ρ S H
  cases c0 with
  | true => exact ⟨true, S1, σ1, by simp [e1], R1, X1, hf rfl⟩
  | false =>
    obtain ⟨c2, S2, σ2, e2, R2, X2, q⟩ := ht rfl K b n ρ S1 R1
    exact ⟨c2, S2, σ2, by simp [e1, e2], R2, X1.trans X2, q⟩
theorem wpt_not (h : WPT t σ fun c0 σ1 => QT (!c0) σ1) : WPT (xTnot t) σ QT := fun K b n ρ S H => by
  obtain ⟨c0, S1, σ1, e1, R1, X1, q⟩ := h K b n ρ S H
  exact ⟨!c0, S1, σ1, by simp [e1], R1, X1, q⟩
theorem wpt_yes (q : QT true σ) : WPT xTyes σ QT := fun K b n ρ S H => ⟨true, S, σ, rfl, H, .refl _ _ _, q⟩
theorem wpa_nil (q : QA [] σ) : WPA xNil σ QA := fun K b n ρ S H => ⟨[], S, [], σ, rfl, H, trivial, .refl _ _ _, q⟩
theorem wpa_cons (h : WPE a σ fun u σ1 => WPA xs σ1 fun us σ2 => QA (u :: us) σ2) : WPA (xCons a xs) σ QA := fun K b n ρ S H => by
  obtain ⟨r1, S1, u1, σ1, e1, R1, U1, X1, h⟩ := h K b n ρ S H
  obtain ⟨r2, S2, u2, σ2, e2, R2, U2, X2, q⟩ := h K b n ρ S1 R1
  exact ⟨r1 :: r2, S2, u1 :: u2, σ2, by simp [e1, e2], R2, ⟨U1, U2⟩, X1.trans X2, q⟩
theorem wpe_tup (h : WPA xs σ fun us σ1 => ∃ ds, ufzs us = some ds ∧ ds.length ≤ 1000000 ∧ Q (.p (.tup ds)) σ1) : WPE (xTup xs) σ Q := fun K b n ρ S H => by
  obtain ⟨r1, S1, u1, σ1, e1, R1, U1, X1, ds, h1, h2, q⟩ := h K b n ρ S H
  exact ⟨.p (.tup ds), S1, .p (.tup ds), σ1, by simp [e1, fzs_rep U1 h1, h2], R1, rfl, X1, q⟩
theorem wpe_lst (h : WPA xs σ fun us σ1 => ∃ ds, ufzs us = some ds ∧ ds.length ≤ 1000000 ∧ Q (.frl ds) σ1) : WPE (xLst xs) σ Q := fun K b n ρ S H => by
  obtain ⟨r1, S1, u1, σ1, e1, R1, U1, X1, ds, h1, h2, q⟩ := h K b n ρ S H
  exact ⟨.frl ds, S1, .frl ds, σ1, by simp [e1, fzs_rep U1 h1, h2], R1, rfl, X1, q⟩
theorem wpe_call {f : List P → Option R} (h : WPA xs σ fun us σ1 => ∃ ds, urds σ1 us = some ds ∧ ∃ r, f ds = some r ∧ QR Q σ1 r) : WPE (xCall f xs) σ Q := fun K b n ρ S H => by
  obtain ⟨r1, S1, u1, σ1, e1, R1, U1, X1, ds, h1, r, hr, hQ⟩ := h K b n ρ S H
  obtain ⟨u, hu, hQ⟩ := hQ.get ρ
  exact ⟨r, S1, u, σ1, by simp [e1, rds_rep R1 U1 h1, hr], R1, hu, X1, hQ⟩
theorem wpe_meth {ty : Ty} {f : P → List P → Option R} (h : WPE a σ fun u σ1 => ∃ p0, u.rd σ1 = some p0 ∧ isTy ty p0 = true ∧ WPA xs σ1 fun us σ2 => ∃ p, u.rd σ2 = some p ∧ ∃ ps, urds σ2 us = some ps ∧ ∃ r, f p ps = some r ∧ QR Q σ2 r) : WPE (xMeth ty f a xs) σ Q := fun K b n ρ S H => by
  obtain ⟨r1, S1, u1, σ1, e1, R1, U1, X1, p0, hp0, ht, h⟩ := h K b n ρ S H
  obtain ⟨r2, S2, u2, σ2, e2, R2, U2, X2, p, hp, ps, hps, r, hr, hQ⟩ := h K b n ρ S1 R1
  obtain ⟨u, hu, hQ⟩ := hQ.get ρ
  exact ⟨r, S2, u, σ2, by simp [e1, R1.rd U1 hp0, ht, e2, R2.rd U1 hp, rds_rep R2 U2 hps, hr], R2, hu, X1.trans X2, hQ⟩
/-! ### cells -/
theorem Rep.lst {K : Nat → Option Nat} {b n : Nat} {ρ : Env} {S : Sto} {g : Tag} {ds : List P} {l : Nat} (H : Rep K b n ρ S σ) (h : σ[i]? = some (some (.l g ds))) (hl : ρ[i]? = some (some (.ref l))) : S[l]? = some (.lst ds) := by
  obtain ⟨k, a1, a2, _⟩ := H.cel i _ _ h rfl
  rw [hl] at a1; cases a1; exact a2
theorem Rep.dct {K : Nat → Option Nat} {b n : Nat} {ρ : Env} {S : Sto} {g : Tag} {lk t : Bool} {kvs : List (P × P)} {l : Nat} (H : Rep K b n ρ S σ) (h : σ[i]? = some (some (.d g lk t kvs))) (hl : ρ[i]? = some (some (.ref l))) : S[l]? = some (.dct lk t kvs) := by
  obtain ⟨k, a1, a2, _⟩ := H.cel i _ _ h rfl
  rw [hl] at a1; cases a1; exact a2
theorem wpe_app {b : XE} (h : WPE a σ fun u σ1 => ∃ i, u = .sl i ∧ (∃ g ds, σ1[i]? = some (some (.l g ds))) ∧ WPE b σ1 fun w σ2 => ∃ g ds, σ2[i]? = some (some (.l g ds)) ∧ g ≠ .lck ∧ ∃ d, w.fz = some d ∧ ds.length < 1000000 ∧ At (σ2.set i (some (.l g (ds ++ [d])))) fun σ3 => Q (.p .non) σ3) : WPE (xApp a b) σ Q := fun K b n ρ S H => by
  obtain ⟨r1, S1, u1, σ1, e1, R1, U1, X1, i, rfl, ⟨g0, ds0, h0⟩, h⟩ := h K b n ρ S H
  obtain ⟨l, rfl, hl⟩ := U1
  obtain ⟨r2, S2, u2, σ2, e2, R2, U2, X2, g, ds, h1, hg, d, hd, hlen, q⟩ := h K b n ρ S1 R1
  have c1 := R1.lst h0 hl
  have c2 := R2.lst h1 hl
  obtain ⟨R3, X3⟩ := R2.upd (v' := .l g (ds ++ [d])) h1 (fun z => nomatch z) hl rfl rfl
  exact ⟨.p .non, S2.set l (.lst (ds ++ [d])), .p .non, _, by simp [e1, c1, e2, c2, fz_rep U2 hd, hlen], R3, rfl, (X1.trans X2).trans X3, q⟩
theorem wpe_ext {b : XE} (h : WPE a σ fun u σ1 => ∃ i, u = .sl i ∧ (∃ g ds, σ1[i]? = some (some (.l g ds))) ∧ WPE b σ1 fun w σ2 => ∃ g ds, σ2[i]? = some (some (.l g ds)) ∧ g ≠ .lck ∧ ∃ es, w = .frl es ∧ ds.length + es.length ≤ 1000000 ∧ At (σ2.set i (some (.l g (ds ++ es)))) fun σ3 => Q (.p .non) σ3) : WPE (xExt a b) σ Q := fun K b n ρ S H => by
  obtain ⟨r1, S1, u1, σ1, e1, R1, U1, X1, i, rfl, ⟨g0, ds0, h0⟩, h⟩ := h K b n ρ S H
  obtain ⟨l, rfl, hl⟩ := U1
  obtain ⟨r2, S2, u2, σ2, e2, R2, U2, X2, g, ds, h1, hg, es, rfl, hlen, q⟩ := h K b n ρ S1 R1
  cases U2
  have c1 := R1.lst h0 hl
  have c2 := R2.lst h1 hl
  obtain ⟨R3, X3⟩ := R2.upd (v' := .l g (ds ++ es)) h1 (fun z => nomatch z) hl rfl rfl
  exact ⟨.p .non, S2.set l (.lst (ds ++ es)), .p .non, _, by simp [xExt, e1, c1, e2, c2, hlen], R3, rfl, (X1.trans X2).trans X3, q⟩
theorem wpe_pop (h : WPE a σ fun u σ1 => ∃ i, u = .sl i ∧ ∃ g ds d, σ1[i]? = some (some (.l g (ds ++ [d]))) ∧ g ≠ .lck ∧ At (σ1.set i (some (.l g ds))) fun σ2 => Q (.p d) σ2) : WPE (xPop a) σ Q := fun K b n ρ S H => by
  obtain ⟨r1, S1, u1, σ1, e1, R1, U1, X1, i, rfl, g, ds, d, h1, hg, q⟩ := h K b n ρ S H
  obtain ⟨l, rfl, hl⟩ := U1
  have c1 := R1.lst h1 hl
  obtain ⟨R3, X3⟩ := R1.upd (v' := .l g ds) h1 (fun z => nomatch z) hl rfl rfl
  exact ⟨.p d, S1.set l (.lst ds), .p d, _, by simp [xPop, e1, c1], R3, rfl, X1.trans X3, q⟩
/-! ### dicts -/
theorem wpe_newD {t : Bool} (q : Q (.frd t []) σ) : WPE (xNewD t) σ Q := fun K b n ρ S H => ⟨.frd t [], S, .frd t [], σ, rfl, H, rfl, .refl _ _ _, q⟩
theorem wpe_getD {b : XE} (h : WPE a σ fun u σ1 => ∃ i, u = .sl i ∧ WPE b σ1 fun w σ2 => ∃ g lk t kvs, σ2[i]? = some (some (.d g lk t kvs)) ∧ ∃ k, w.rd σ2 = some k ∧ keyOk t k = true ∧ ∃ v, lookD kvs k = some v ∧ Q (.p v) σ2) : WPE (xGetD a b) σ Q := fun K b n ρ S H => by
  obtain ⟨r1, S1, u1, σ1, e1, R1, U1, X1, i, rfl, h⟩ := h K b n ρ S H
  obtain ⟨l, rfl, hl⟩ := U1
  obtain ⟨r2, S2, u2, σ2, e2, R2, U2, X2, g, lk, t, kvs, h1, k, hk, ok, v, hv, q⟩ := h K b n ρ S1 R1
  have c2 := R2.dct h1 hl
  exact ⟨.p v, S2, .p v, σ2, by simp [xGetD, e1, e2, R.dict, c2, R2.rd U2 hk, ok, hv], R2, rfl, X1.trans X2, q⟩
theorem wpe_inD {neg : Bool} {b : XE} (h : WPE a σ fun w σ1 => WPE b σ1 fun u σ2 => ∃ i, u = .sl i ∧ ∃ g lk t kvs, σ2[i]? = some (some (.d g lk t kvs)) ∧ ∃ k, w.rd σ2 = some k ∧ keyOk t k = true ∧ Q (.p (.bl (neg != (lookD kvs k).isSome))) σ2) : WPE (xInD neg a b) σ Q := fun K b n ρ S H => by
  obtain ⟨r1, S1, u1, σ1, e1, R1, U1, X1, h⟩ := h K b n ρ S H
  obtain ⟨r2, S2, u2, σ2, e2, R2, U2, X2, i, rfl, g, lk, t, kvs, h1, k, hk, ok, q⟩ := h K b n ρ S1 R1
  obtain ⟨l, rfl, hl⟩ := U2
  have c2 := R2.dct h1 hl
  exact ⟨_, S2, .p (.bl (neg != (lookD kvs k).isSome)), σ2, by simp [xInD, e1, e2, R.dict, c2, R2.rd U1 hk, ok], R2, rfl, X1.trans X2, q⟩
theorem wpe_lenD (h : WPE a σ fun u σ1 => ∃ i, u = .sl i ∧ ∃ g kvs, σ1[i]? = some (some (.d g false false kvs)) ∧ Q (.p (.int kvs.length)) σ1) : WPE (xLenD a) σ Q := fun K b n ρ S H => by
  obtain ⟨r1, S1, u1, σ1, e1, R1, U1, X1, i, rfl, g, kvs, h1, q⟩ := h K b n ρ S H
  obtain ⟨l, rfl, hl⟩ := U1
  have c2 := R1.dct h1 hl
  exact ⟨_, S1, .p (.int kvs.length), σ1, by simp [xLenD, e1, c2], R1, rfl, X1, q⟩
theorem wpe_sortedD (h : WPE a σ fun u σ1 => ∃ i, u = .sl i ∧ ∃ g kvs, σ1[i]? = some (some (.d g false false kvs)) ∧ (kvs.map (·.1)).all isStrP = true ∧ kvs.length < 64 ∧ Q (.frl (sortP (kvs.map (·.1)))) σ1) : WPE (xSortedD a) σ Q := fun K b n ρ S H => by
  obtain ⟨r1, S1, u1, σ1, e1, R1, U1, X1, i, rfl, g, kvs, h1, k1, k2, q⟩ := h K b n ρ S H
  obtain ⟨l, rfl, hl⟩ := U1
  have c2 := R1.dct h1 hl
  exact ⟨_, S1, .frl (sortP (kvs.map (·.1))), σ1, by simp only [xSortedD, e1, Option.bind_some, c2]; rw [if_pos (by rw [k1]; simpa using k2)], R1, rfl, X1, q⟩
theorem wpe_sortedT (h : WPE a σ fun u σ1 => ∃ i, u = .sl i ∧ ∃ g kvs, σ1[i]? = some (some (.d g false true kvs)) ∧ sortOk (kvs.map (·.1)) = true ∧ kvs.length < 4000 ∧ Q (.frl (sortP (kvs.map (·.1)))) σ1) : WPE (xSortedT a) σ Q := fun K b n ρ S H => by
  obtain ⟨r1, S1, u1, σ1, e1, R1, U1, X1, i, rfl, g, kvs, h1, k1, k2, q⟩ := h K b n ρ S H
  obtain ⟨l, rfl, hl⟩ := U1
  have c2 := R1.dct h1 hl
  exact ⟨_, S1, .frl (sortP (kvs.map (·.1))), σ1, by simp only [xSortedT, e1, Option.bind_some, c2]; rw [if_pos (by rw [k1]; simpa using k2)], R1, rfl, X1, q⟩
theorem wpe_copyD (h : WPE a σ fun u σ1 => ∃ i, u = .sl i ∧ ∃ g kvs, σ1[i]? = some (some (.d g false true kvs)) ∧ (((kvs.map (·.1)).all fun k => decide (k ∈ pairs10)) && decide ((kvs.map (·.1)).Nodup)) = true ∧ Q (.frd true kvs) σ1) : WPE (xCopyD a) σ Q := fun K b n ρ S H => by
  obtain ⟨r1, S1, u1, σ1, e1, R1, U1, X1, i, rfl, g, kvs, h1, k1, q⟩ := h K b n ρ S H
  obtain ⟨l, rfl, hl⟩ := U1
  have c2 := R1.dct h1 hl
  exact ⟨_, S1, .frd true kvs, σ1, by simp only [xCopyD, e1, Option.bind_some, c2]; rw [if_pos k1], R1, rfl, X1, q⟩
def U.isNon : U → Bool
  | .p .non => true
  | _ => false
theorem wpe_isN {neg : Bool} (h : WPE a σ fun u σ1 => Q (.p (.bl (neg != u.isNon))) σ1) : WPE (xIsN neg a) σ Q := fun K b n ρ S H => by
  obtain ⟨r1, S1, u1, σ1, e1, R1, U1, X1, q⟩ := h K b n ρ S H
  refine ⟨_, S1, .p (.bl (neg != u1.isNon)), σ1, ?_, R1, rfl, X1, q⟩
  have : isNonR r1 = u1.isNon := by
    cases u1 with
    | p d => cases U1; cases d <;> rfl
    | sl i => obtain ⟨l, rfl, _⟩ := U1; rfl
    | frl ds => cases U1; rfl
    | frd t ds => cases U1; rfl
  simp [xIsN, e1, this]
def WPP (x : Option XE) (σ : VEnv) (Q : Option Int → VEnv → Prop) : Prop := match x with
  | none => Q none σ
  | some e => WPE e σ fun u σ1 => ∃ i, u = .p (.int i) ∧ Q (some i) σ1
theorem part_rep {x : Option XE} {QP : Option Int → VEnv → Prop} (h : WPP x σ QP) {K : Nat → Option Nat} {b n : Nat} {ρ : Env} {S : Sto} (H : Rep K b n ρ S σ) : ∃ o S' σ', xPart x ρ S = some (o, S') ∧ Rep K b n ρ S' σ' ∧ Exv ρ σ S ρ σ' S' ∧ QP o σ' := by
  cases x with
  | none => exact ⟨none, S, σ, rfl, H, .refl _ _ _, h⟩
  | some e =>
    obtain ⟨r1, S1, u1, σ1, e1, R1, U1, X1, i, rfl, q⟩ := h K b n ρ S H
    cases U1
    exact ⟨some i, S1, σ1, by simp [xPart, e1], R1, X1, q⟩
theorem wpe_slice {lo hi : Option XE} (h : WPE a σ fun u σ1 => WPP lo σ1 fun l σ2 => WPP hi σ2 fun h σ3 => ∃ p, u.rd σ3 = some p ∧ ∃ r, pSl p l h = some r ∧ QR Q σ3 r) : WPE (xSl a lo hi) σ Q := fun K b n ρ S H => by
  obtain ⟨r1, S1, u1, σ1, e1, R1, U1, X1, h⟩ := h K b n ρ S H
  obtain ⟨l, S2, σ2, e2, R2, X2, h⟩ := part_rep h R1
  obtain ⟨l', S3, σ3, e3, R3, X3, p, hp, r, hr, hQ⟩ := part_rep h R2
  obtain ⟨u, hu, hQ⟩ := hQ.get ρ
  exact ⟨r, S3, u, σ3, by simp [xSl, e1, e2, e3, R3.rd U1 hp, hr], R3, hu, (X1.trans X2).trans X3, hQ⟩
end
end XL
end
section
set_option Elab.async false
set_option linter.all false
set_option autoImplicit false
set_option maxRecDepth 100000
set_option maxHeartbeats 1000000
namespace XL
/-! ### what is dropped behind a turn -/
theorem keptCells_get {S : Sto} {ks : List Nat} {k : Nat} {c : Cell} (hk : k ∈ ks) (hc : S[k]? = some c) : (keptCells S ks)[ks.idxOf k]? = some c := by
  unfold keptCells
  have hi := List.idxOf_lt_length_of_mem hk
  rw [List.getElem?_map, List.getElem?_eq_getElem hi, List.getElem_idxOf hi]
  simp [List.getD_eq_getElem?_getD, hc]
theorem ren_get {n0 : Nat} {ρ : Env} {i k : Nat} {ks : List Nat} (h : ρ[i]? = some (some (.ref k))) : (ρ.map (renSlot n0 ks))[i]? = some (some (.ref (renRef n0 ks k))) := by
  rw [List.getElem?_map, h]; rfl
theorem ren_back {n0 : Nat} {ρ : Env} {i k : Nat} {ks : List Nat} (h : (ρ.map (renSlot n0 ks))[i]? = some (some (.ref k))) : ∃ k', ρ[i]? = some (some (.ref k')) ∧ renRef n0 ks k' = k := by
  rw [List.getElem?_map] at h
  cases e : ρ[i]? with
  | none => rw [e] at h; cases h
  | some o =>
    rw [e] at h
    cases o with
    | none => cases h
    | some x =>
      cases x with
      | p d => cases h
      | ref l =>
        simp only [Option.map_some, renSlot, Option.some.injEq, D.ref.injEq] at h
        exact ⟨l, rfl, h⟩
theorem ren_inj {n0 : Nat} {ks : List Nat} {k k' : Nat} (h : n0 ≤ k → k ∈ ks) (h' : n0 ≤ k' → k' ∈ ks) (e : renRef n0 ks k = renRef n0 ks k') : k = k' := by
  unfold renRef at e
  by_cases c : k < n0 <;> by_cases c' : k' < n0
  · rw [if_pos c, if_pos c'] at e; exact e
  · rw [if_pos c, if_neg c'] at e; omega
  · rw [if_neg c, if_pos c'] at e; omega
  · rw [if_neg c, if_neg c'] at e
    have e' : ks.idxOf k = ks.idxOf k' := by omega
    have m1 := h (by omega)
    have m2 := h' (by omega)
    have h1 := List.getElem_idxOf (List.idxOf_lt_length_of_mem m1)
    have h2 := List.getElem_idxOf (List.idxOf_lt_length_of_mem m2)
    rw [← h1, ← h2]; simp only [e']
section
variable {K : Nat → Option Nat} {b n : Nat} {ρ : Env} {S : Sto} {σ : VEnv}
theorem gc_rep {n0 : Nat} (H : Rep K b n ρ S σ) (hn : n ≤ n0) (h0 : n0 ≤ S.length) : Rep K b n (gc n0 ρ S).1 (gc n0 ρ S).2 σ ∧ n0 ≤ (gc n0 ρ S).2.length ∧ (∀ j, j < n0 → (gc n0 ρ S).2[j]? = S[j]?) ∧ ∀ j, j < n0 → Lv (gc n0 ρ S).1 σ j → Lv ρ σ j := by
  unfold gc
  by_cases c : S.length ≤ n0
  · rw [if_pos c]; exact ⟨H, h0, fun _ _ => rfl, fun _ _ h => h⟩
  rw [if_neg c]
  simp only
  generalize hks : slotRefs n0 ρ = ks
  have hmem : ∀ {i k : Nat}, ρ[i]? = some (some (.ref k)) → n0 ≤ k → k ∈ ks := fun {i k} e q => by
    rw [← hks]; exact slots_mem q (List.mem_of_getElem? e)
  have tl : (S.take n0).length = n0 := by rw [List.length_take]; omega
  have low : ∀ j, j < n0 → (S.take n0 ++ keptCells S ks)[j]? = S[j]? := fun j hj => by
    rw [List.getElem?_append_left (by omega), List.getElem?_take_of_lt hj]
  have get : ∀ {i k : Nat} {c : Cell}, ρ[i]? = some (some (.ref k)) → S[k]? = some c → (S.take n0 ++ keptCells S ks)[renRef n0 ks k]? = some c := fun {i k c} e q => by
    unfold renRef
    by_cases z : k < n0
    · rw [if_pos z, low k z]; exact q
    · rw [if_neg z, List.getElem?_append_right (by omega), tl, Nat.add_sub_cancel_left]
      exact keptCells_get (hmem e (by omega)) q
  refine ⟨⟨H.hK, H.bn, by rw [List.length_append, tl]; omega, by simp [H.len], fun i d e => ?_, fun i v c e hc => ?_, fun i j v w k e1 e2 c1 c2 r1 r2 => ?_⟩, by rw [List.length_append, tl]; omega, low, fun j hj hl => ?_⟩
  · rw [List.getElem?_map, H.dat i d e]; rfl
  · obtain ⟨k, a1, a2, a3, a4⟩ := H.cel i v c e hc
    refine ⟨renRef n0 ks k, ren_get a1, get a1 a2, fun z => ?_, fun z => ?_⟩
    · have h1 := a3 z
      have h2 := H.bn
      unfold renRef; split <;> omega
    · have h1 := a4 z
      have h2 := H.hK i k h1
      have : renRef n0 ks k = k := by unfold renRef; rw [if_pos (by omega)]
      rw [this]; exact h1
  · obtain ⟨k1, b1, b2⟩ := ren_back r1
    obtain ⟨k2, d1, d2⟩ := ren_back r2
    have := ren_inj (hmem b1) (hmem d1) (b2.trans d2.symm)
    subst this
    exact H.inj i j v w k1 e1 e2 c1 c2 b1 d1
  · obtain ⟨i, v, h1, h2, h3⟩ := hl
    obtain ⟨k1, b1, b2⟩ := ren_back h3
    unfold renRef at b2
    split at b2
    · subst b2; exact ⟨i, v, h1, h2, b1⟩
    · omega
end
/-! ### statements -/
inductive VFl where
  | nx (σ : VEnv)
  | rt (u : U) (σ : VEnv)
  | bk (σ : VEnv)
  | ct (σ : VEnv)
def OutF (K : Nat → Option Nat) (b n : Nat) (ρ : Env) (σ : VEnv) (S : Sto) (fl : Fl) (S' : Sto) : VFl → Prop
  | .nx σ' => ∃ ρ', fl = .nx ρ' ∧ Rep K b n ρ' S' σ' ∧ Exv ρ σ S ρ' σ' S'
  | .rt u σ' => ∃ ρ' r, fl = .rt r ∧ Rep K b n ρ' S' σ' ∧ RepU ρ' u r ∧ Exv ρ σ S ρ' σ' S'
  | .bk σ' => ∃ ρ', fl = .bk ρ' ∧ Rep K b n ρ' S' σ' ∧ Exv ρ σ S ρ' σ' S'
  | .ct σ' => ∃ ρ', fl = .ct ρ' ∧ Rep K b n ρ' S' σ' ∧ Exv ρ σ S ρ' σ' S'
def WPS (s : XS) (σ : VEnv) (Q : VFl → Prop) : Prop := ∀ (K : Nat → Option Nat) (b n : Nat) (ρ : Env) (S : Sto), Rep K b n ρ S σ → ∃ fl S' vf, s ρ S = some (fl, S') ∧ OutF K b n ρ σ S fl S' vf ∧ Q vf
theorem OutF.pre {K : Nat → Option Nat} {b n : Nat} {ρ ρ0 : Env} {σ σ0 : VEnv} {S S0 S' : Sto} {fl : Fl} {vf : VFl} (X : Exv ρ0 σ0 S0 ρ σ S) (h : OutF K b n ρ σ S fl S' vf) : OutF K b n ρ0 σ0 S0 fl S' vf := by
  cases vf with
  | nx σ' => obtain ⟨ρ', a1, a2, a3⟩ := h; exact ⟨ρ', a1, a2, X.trans a3⟩
  | rt u σ' => obtain ⟨ρ', r, a1, a2, a3, a4⟩ := h; exact ⟨ρ', r, a1, a2, a3, X.trans a4⟩
  | bk σ' => obtain ⟨ρ', a1, a2, a3⟩ := h; exact ⟨ρ', a1, a2, X.trans a3⟩
  | ct σ' => obtain ⟨ρ', a1, a2, a3⟩ := h; exact ⟨ρ', a1, a2, X.trans a3⟩
def SetU (i : Nat) (σ : VEnv) (Q : VEnv → Prop) : U → Prop
  | .p d => Q (σ.set i (some (.p d)))
  | .frl ds => Q (σ.set i (some (.l .own ds)))
  | .frd t kvs => Q (σ.set i (some (.d .own false t kvs)))
  | .sl j => ∃ v, σ[j]? = some (some v) ∧ v.cell ≠ none ∧ v.tag = .own ∧ Q ((σ.set j none).set i (some v))
def seqK (s : XS) (Q : VFl → Prop) : VFl → Prop
  | .nx σ => WPS s σ Q
  | fl => Q fl
section
variable {σ : VEnv} {Q : VFl → Prop} {a b : XE} {s s' : XS} {t : XT} {i : Nat}
theorem WPS.mono {Q' : VFl → Prop} (h : WPS s σ Q) (k : ∀ f, Q f → Q' f) : WPS s σ Q' := fun K b n ρ S H => by
  obtain ⟨fl, S', vf, e, o, q⟩ := h K b n ρ S H
  exact ⟨fl, S', vf, e, o, k _ q⟩
theorem wps_seq (h : WPS s σ (seqK s' Q)) : WPS (xSeq s s') σ Q := fun K b n ρ S H => by
  obtain ⟨fl, S1, vf, e, o, q⟩ := h K b n ρ S H
  cases vf with
  | nx σ1 =>
    obtain ⟨ρ1, rfl, R1, X1⟩ := o
    obtain ⟨fl2, S2, vf2, e2, o2, q2⟩ := q K b n ρ1 S1 R1
    exact ⟨fl2, S2, vf2, by rw [seq_nx e, e2], o2.pre X1, q2⟩
  | rt u σ1 => obtain ⟨ρ1, r, rfl, R1, U1, X1⟩ := o; exact ⟨.rt r, S1, .rt u σ1, by simp [e], ⟨ρ1, r, rfl, R1, U1, X1⟩, q⟩
  | bk σ1 => obtain ⟨ρ1, rfl, R1, X1⟩ := o; exact ⟨.bk ρ1, S1, .bk σ1, by simp [e], ⟨ρ1, rfl, R1, X1⟩, q⟩
  | ct σ1 => obtain ⟨ρ1, rfl, R1, X1⟩ := o; exact ⟨.ct ρ1, S1, .ct σ1, by simp [e], ⟨ρ1, rfl, R1, X1⟩, q⟩
theorem Rep.move {K : Nat → Option Nat} {b n : Nat} {ρ : Env} {S : Sto} {j k : Nat} {v : V} (H : Rep K b n ρ S σ) (hi : i < σ.length) (hv : σ[j]? = some (some v)) (hc : v.cell ≠ none) (ht : v.tag = .own) (hk : ρ[j]? = some (some (.ref k))) : Rep K b n (ρ.set i (some (.ref k))) S ((σ.set j none).set i (some v)) ∧ Exv ρ σ S (ρ.set i (some (.ref k))) ((σ.set j none).set i (some v)) S := by
  have hj := (List.getElem?_eq_some_iff.mp hv).1
  have fg : Forget σ (σ.set j none) := ⟨by simp, fun m w e => by
    rcases set_get e with ⟨_, q, _⟩ | ⟨_, q⟩
    · cases q
    · exact q⟩
  have nl : ¬ Lv ρ (σ.set j none) k := fun ⟨m, w, e1, e2, e3⟩ => by
    rcases set_get e1 with ⟨_, q, _⟩ | ⟨ne, q⟩
    · cases q
    · exact ne (H.inj m j w v k q hv e2 hc e3 hk)
  cases hcc : v.cell with
  | none => exact absurd hcc hc
  | some c =>
    obtain ⟨k', a1, a2, a3, _⟩ := H.cel j v c hv hcc
    rw [hk] at a1; cases a1
    refine ⟨(H.forget fg).set_c (by simpa using hi) hcc ht a2 (a3 ht) nl, Nat.le_refl _, fun m hm hn => ⟨rfl, fun q => ?_⟩⟩
    rcases lv_set q rfl (by rw [H.len]; exact hi) with z | z
    · subst z; exact hn ⟨j, v, hv, hc, hk⟩
    · exact hn (z.forget fg)
theorem wps_set (h : WPE a σ fun u σ1 => Nat.blt i σ1.length = true ∧ SetU i σ1 (fun σ2 => Q (.nx σ2)) u) : WPS (xSet i a) σ Q := fun K b n ρ S H => by
  obtain ⟨r, S1, u, σ1, e, R1, U1, X1, hi, q⟩ := h K b n ρ S H
  have hi : i < σ1.length := by simpa [Nat.blt_eq] using hi
  cases u with
  | p d => cases U1; exact ⟨.nx _, S1, .nx _, by simp [e], ⟨_, rfl, R1.set_p d hi, X1.trans (ext_set_p d)⟩, q⟩
  | frl ds =>
    cases U1
    obtain ⟨R2, X2⟩ := R1.set_new (v := .l .own ds) hi rfl rfl
    exact ⟨.nx _, _, .nx _, by simp [e], ⟨_, rfl, R2, X1.trans X2⟩, q⟩
  | frd t kvs =>
    cases U1
    obtain ⟨R2, X2⟩ := R1.set_new (v := .d .own false t kvs) hi rfl rfl
    exact ⟨.nx _, _, .nx _, by simp [e, R.box], ⟨_, rfl, R2, X1.trans X2⟩, q⟩
  | sl j =>
    obtain ⟨l, rfl, hl⟩ := U1
    obtain ⟨v, hv, hc, ht, q⟩ := q
    obtain ⟨R2, X2⟩ := R1.move hi hv hc ht hl
    exact ⟨.nx _, S1, .nx _, by simp [e], ⟨_, rfl, R2, X1.trans X2⟩, q⟩
theorem wps_drop (h : WPE a σ fun u σ1 => Q (.nx σ1)) : WPS (xDrop a) σ Q := fun K b n ρ S H => by
  obtain ⟨r, S1, u, σ1, e, R1, U1, X1, q⟩ := h K b n ρ S H
  exact ⟨.nx ρ, S1, .nx σ1, by simp [e], ⟨ρ, rfl, R1, X1⟩, q⟩
theorem wps_ret (h : WPE a σ fun u σ1 => Q (.rt u σ1)) : WPS (xRet a) σ Q := fun K b n ρ S H => by
  obtain ⟨r, S1, u, σ1, e, R1, U1, X1, q⟩ := h K b n ρ S H
  exact ⟨.rt r, S1, .rt u σ1, by simp [e], ⟨ρ, r, rfl, R1, U1, X1⟩, q⟩
theorem wps_pass (q : Q (.nx σ)) : WPS xPass σ Q := fun K b n ρ S H => ⟨.nx ρ, S, .nx σ, rfl, ⟨ρ, rfl, H, .refl _ _ _⟩, q⟩
theorem wps_if (h : WPT t σ fun c σ1 => (c = true → WPS s σ1 Q) ∧ (c = false → WPS s' σ1 Q)) : WPS (xIfS t s s') σ Q := fun K b n ρ S H => by
  obtain ⟨c, S1, σ1, e1, R1, X1, ht, hf⟩ := h K b n ρ S H
  cases c with
  | true =>
    obtain ⟨fl, S2, vf, e2, o, q⟩ := ht rfl K b n ρ S1 R1
    exact ⟨fl, S2, vf, by rw [ifS_t e1, e2], o.pre X1, q⟩
  | false =>
    obtain ⟨fl, S2, vf, e2, o, q⟩ := hf rfl K b n ρ S1 R1
    exact ⟨fl, S2, vf, by rw [ifS_f e1, e2], o.pre X1, q⟩
def setAllV : List Nat → List P → VEnv → Option VEnv
  | [], [], σ => some σ
  | i :: is, d :: ds, σ => if Nat.blt i σ.length then setAllV is ds (σ.set i (some (.p d))) else none
  | _, _, _ => none
def Tg.putV (t : Tg) (d : P) (σ : VEnv) : Option VEnv := match t with
  | .nm i => if Nat.blt i σ.length then some (σ.set i (some (.p d))) else none
  | .tp is => match d with
    | .tup ds => setAllV is ds σ
    | _ => none
theorem setAll_rep {K : Nat → Option Nat} {b n : Nat} {S : Sto} : ∀ {is : List Nat} {ds : List P} {ρ : Env} {σ σ' : VEnv}, Rep K b n ρ S σ → setAllV is ds σ = some σ' → ∃ ρ', setAll is ds ρ = some ρ' ∧ Rep K b n ρ' S σ' ∧ Exv ρ σ S ρ' σ' S
  | [], [], ρ, σ, σ', H, e => by cases e; exact ⟨ρ, rfl, H, .refl _ _ _⟩
  | [], _ :: _, ρ, σ, σ', H, e => by cases e
  | _ :: _, [], ρ, σ, σ', H, e => by cases e
  | i :: is, d :: ds, ρ, σ, σ', H, e => by
    simp only [setAllV] at e
    split at e
    · rename_i hi
      have hi : i < σ.length := by simpa [Nat.blt_eq] using hi
      obtain ⟨ρ', a1, a2, a3⟩ := setAll_rep (H.set_p d hi) e
      exact ⟨ρ', a1, a2, (ext_set_p d).trans a3⟩
    · cases e
theorem putV_rep {K : Nat → Option Nat} {b n : Nat} {S : Sto} {t : Tg} {d : P} {ρ : Env} {σ σ' : VEnv} (H : Rep K b n ρ S σ) (e : t.putV d σ = some σ') : ∃ ρ', t.put d ρ = some ρ' ∧ Rep K b n ρ' S σ' ∧ Exv ρ σ S ρ' σ' S := by
  cases t with
  | nm i =>
    simp only [Tg.putV] at e
    split at e
    · rename_i hi
      have hi : i < σ.length := by simpa [Nat.blt_eq] using hi
      cases e
      exact ⟨_, rfl, H.set_p d hi, ext_set_p d⟩
    · cases e
  | tp is =>
    cases d with
    | tup ds => exact setAll_rep H e
    | _ => cases e
theorem wps_unp {is : List Nat} (h : WPE a σ fun u σ1 => ∃ d, u.rd σ1 = some d ∧ ∃ σ2, (Tg.tp is).putV d σ1 = some σ2 ∧ Q (.nx σ2)) : WPS (xUnp is a) σ Q := fun K b n ρ S H => by
  obtain ⟨r, S1, u, σ1, e, R1, U1, X1, d, hd, σ2, hp, q⟩ := h K b n ρ S H
  obtain ⟨ρ2, p1, R2, X2⟩ := putV_rep R1 hp
  exact ⟨.nx ρ2, S1, .nx σ2, by simp only [e_Unp, e, Option.bind_some, R1.rd U1 hd, p1, Option.map_some], ⟨ρ2, rfl, R2, X1.trans X2⟩, q⟩
theorem wps_unpL {is : List Nat} (h : WPE a σ fun u σ1 => ∃ ds, u.rd σ1 = some (.lst ds) ∧ ∃ σ2, setAllV is ds σ1 = some σ2 ∧ Q (.nx σ2)) : WPS (xUnpL is a) σ Q := fun K b n ρ S H => by
  obtain ⟨r, S1, u, σ1, e, R1, U1, X1, d, hd, σ2, hp, q⟩ := h K b n ρ S H
  obtain ⟨ρ2, p1, R2, X2⟩ := setAll_rep R1 hp
  exact ⟨.nx ρ2, S1, .nx σ2, by simp only [xUnpL, e, Option.bind_some, R1.rd U1 hd, p1, Option.map_some], ⟨ρ2, rfl, R2, X1.trans X2⟩, q⟩
theorem wps_putL {e o k : XE} (h : WPE e σ fun w σ1 => WPE o σ1 fun u σ2 => WPE k σ2 fun z σ3 => ∃ i, u = .sl i ∧ ∃ g ds, σ3[i]? = some (some (.l g ds)) ∧ g ≠ .lck ∧ ∃ j, z = .p (.int j) ∧ ∃ d, w.fz = some d ∧ ∃ m, ixP ds.length j = some m ∧ At (σ3.set i (some (.l g (ds.set m d)))) fun σ4 => Q (.nx σ4)) : WPS (xPutL e o k) σ Q := fun K b n ρ S H => by
  obtain ⟨r1, S1, u1, σ1, e1, R1, U1, X1, h⟩ := h K b n ρ S H
  obtain ⟨r2, S2, u2, σ2, e2, R2, U2, X2, h⟩ := h K b n ρ S1 R1
  obtain ⟨r3, S3, u3, σ3, e3, R3, U3, X3, i, rfl, g, ds, h1, hg, j, rfl, d, hd, m, hm, q⟩ := h K b n ρ S2 R2
  obtain ⟨l, rfl, hl⟩ := U2
  cases U3
  have c3 := R3.lst h1 hl
  obtain ⟨R4, X4⟩ := R3.upd (v' := .l g (ds.set m d)) h1 (fun z => nomatch z) hl rfl rfl
  exact ⟨.nx ρ, _, .nx _, by simp [e1, e2, e3, c3, fz_rep U1 hd, hm], ⟨ρ, rfl, R4, ((X1.trans X2).trans X3).trans X4⟩, q⟩
theorem wps_putD {e o k : XE} (h : WPE e σ fun w σ1 => WPE o σ1 fun u σ2 => WPE k σ2 fun z σ3 => ∃ i, u = .sl i ∧ ∃ g t kvs, σ3[i]? = some (some (.d g false t kvs)) ∧ ∃ x, z.rd σ3 = some x ∧ keyOk t x = true ∧ kvs.length < 1000000 ∧ ∃ d, w.fz = some d ∧ At (σ3.set i (some (.d g false t (putD kvs x d)))) fun σ4 => Q (.nx σ4)) : WPS (xPutD e o k) σ Q := fun K b n ρ S H => by
  obtain ⟨r1, S1, u1, σ1, e1, R1, U1, X1, h⟩ := h K b n ρ S H
  obtain ⟨r2, S2, u2, σ2, e2, R2, U2, X2, h⟩ := h K b n ρ S1 R1
  obtain ⟨r3, S3, u3, σ3, e3, R3, U3, X3, i, rfl, g, t, kvs, h1, x, hx, ok, hb, d, hd, q⟩ := h K b n ρ S2 R2
  obtain ⟨l, rfl, hl⟩ := U2
  have c3 := R3.dct h1 hl
  obtain ⟨R4, X4⟩ := R3.upd (v' := .d g false t (putD kvs x d)) h1 (fun z => nomatch z) hl rfl rfl
  exact ⟨.nx ρ, _, .nx _, by simp [xPutD, e1, e2, e3, c3, fz_rep U1 hd, R3.rd U3 hx, ok, hb], ⟨ρ, rfl, R4, ((X1.trans X2).trans X3).trans X4⟩, q⟩
end
end XL
end
section
set_option Elab.async false
set_option linter.all false
set_option autoImplicit false
set_option maxRecDepth 100000
set_option maxHeartbeats 1000000
namespace XL
/-! ### what is walked -/
def RepI (ρ : Env) (S : Sto) (σ : VEnv) (lo : Option Nat) : Option Nat → Prop
  | none => lo = none
  | some i => ∃ l v, lo = some l ∧ ρ[i]? = some (some (.ref l)) ∧ σ[i]? = some (some v) ∧ v.cell ≠ none
def WPI (x : XI) (σ : VEnv) (Q : List P → Option Nat → VEnv → Prop) : Prop := ∀ (K : Nat → Option Nat) (b n : Nat) (ρ : Env) (S : Sto), Rep K b n ρ S σ → ∃ ds lo S' src σ', x ρ S = some (ds, lo, S') ∧ Rep K b n ρ S' σ' ∧ RepI ρ S' σ' lo src ∧ Exv ρ σ S ρ σ' S' ∧ Q ds src σ'
section
variable {σ : VEnv} {Q : List P → Option Nat → VEnv → Prop} {a b : XE}
def ItU (σ : VEnv) (Q : List P → Option Nat → VEnv → Prop) : U → Prop
  | .p (.lst ds) => Q ds none σ
  | .p (.tup ds) => Q ds none σ
  | .p (.str s) => Q (s.map fun c => .str [c]) none σ
  | .frl ds => Q ds none σ
  | .sl i => ∃ g ds, σ[i]? = some (some (.l g ds)) ∧ Q ds (some i) σ
  | _ => False
theorem wpi_any (h : WPE a σ fun u σ1 => ItU σ1 Q u) : WPI (xItA a) σ Q := fun K b n ρ S H => by
  obtain ⟨r, S1, u, σ1, e, R1, U1, X1, q⟩ := h K b n ρ S H
  cases u with
  | p d =>
    cases U1
    cases d with
    | lst ds => exact ⟨ds, none, S1, none, σ1, by simp [xItA, e, xIt], R1, rfl, X1, q⟩
    | tup ds => exact ⟨ds, none, S1, none, σ1, by simp [xItA, e, xIt], R1, rfl, X1, q⟩
    | str s => exact ⟨_, none, S1, none, σ1, by simp only [xItA, e, xItS, Option.bind_some], R1, rfl, X1, q⟩
    | _ => exact q.elim
  | frl ds => cases U1; exact ⟨ds, none, S1, none, σ1, by simp [xItA, e, xIt], R1, rfl, X1, q⟩
  | frd t kvs => exact q.elim
  | sl i =>
    obtain ⟨l, rfl, hl⟩ := U1
    obtain ⟨g, ds, h1, q⟩ := q
    exact ⟨ds, some l, S1, some i, σ1, by simp [xItA, e, xIt, R1.lst h1 hl], R1, ⟨l, _, rfl, hl, h1, fun z => nomatch z⟩, X1, q⟩
theorem intsFrom_map : ∀ (lo : Int) (n : Nat), intsFrom lo n = (List.range n).map fun k => P.int (lo + (k : Nat))
  | lo, 0 => rfl
  | lo, n + 1 => by
    rw [intsFrom, intsFrom_map (lo + 1) n, List.range_succ_eq_map]
    simp only [List.map_cons, List.map_map, Int.natCast_zero, Int.add_zero, List.cons.injEq, true_and]
    exact List.map_congr_left fun k _ => by simp only [Function.comp]; congr 1; simp; omega
theorem wpi_rng1 (h : WPE a σ fun u σ1 => ∃ n : Nat, u = .p (.int (n : Nat)) ∧ n ≤ 1000000 ∧ Q ((List.range n).map fun (k : Nat) => P.int (k : Nat)) none σ1) : WPI (xRng1 a) σ Q := fun K b n ρ S H => by
  obtain ⟨r, S1, u, σ1, e, R1, U1, X1, m, rfl, hm, q⟩ := h K b n ρ S H
  cases U1
  refine ⟨_, none, S1, none, σ1, ?_, R1, rfl, X1, q⟩
  simp only [xRng1, e, Option.bind_some]
  rw [if_pos ⟨by omega, by omega⟩, intsFrom_map]
  simp
def uptoN (i n : Nat) : List Nat := (List.range (n - i)).map fun k => i + k
theorem wpi_rng2 (h : WPE a σ fun u σ1 => WPE b σ1 fun w σ2 => ∃ i j : Nat, u = .p (.int (i : Nat)) ∧ w = .p (.int (j : Nat)) ∧ i ≤ 1000000 ∧ j ≤ 1000000 ∧ Q ((uptoN i j).map fun (k : Nat) => P.int (k : Nat)) none σ2) : WPI (xRng2 a b) σ Q := fun K b n ρ S H => by
  obtain ⟨r, S1, u, σ1, e, R1, U1, X1, h⟩ := h K b n ρ S H
  obtain ⟨r2, S2, u2, σ2, e2, R2, U2, X2, i, j, rfl, rfl, hi, hj, q⟩ := h K b n ρ S1 R1
  cases U1; cases U2
  refine ⟨_, none, S2, none, σ2, ?_, R2, rfl, X1.trans X2, q⟩
  simp only [xRng2, e, e2, Option.bind_some]
  rw [if_pos ⟨by omega, by omega, by omega, by omega⟩, intsFrom_map, uptoN, List.map_map]
  have : ((j : Int) - (i : Int)).toNat = j - i := by omega
  rw [this]
  congr 2
theorem wpi_enum (h : WPE a σ fun u σ1 => ∃ ds, u = .p (.tup ds) ∧ Q (numbered 0 ds) none σ1) : WPI (xEnum a) σ Q := fun K b n ρ S H => by
  obtain ⟨r, S1, u, σ1, e, R1, U1, X1, ds, rfl, q⟩ := h K b n ρ S H
  cases U1
  exact ⟨_, none, S1, none, σ1, by simp only [xEnum, e, Option.bind_some], R1, rfl, X1, q⟩
theorem wpi_keys {i : Nat} {g : Tag} {t : Bool} {kvs : List (P × P)} (h1 : σ[i]? = some (some (.d g true t kvs))) (q : Q (kvs.map (·.1)) (some i) σ) : WPI (xItL i) σ Q := fun K b n ρ S H => by
  obtain ⟨k, a1, a2, _⟩ := H.cel i _ _ h1 rfl
  exact ⟨_, some k, S, some i, σ, by simp [xItL, a1, a2], H, ⟨k, _, rfl, a1, h1, fun z => nomatch z⟩, .refl _ _ _, q⟩
end
/-! ### locked while walked -/
def lockO : Option Nat → VEnv → VEnv
  | none, σ => σ
  | some i, σ => σ.set i ((σ.getD i none).map (V.withTag .lck))
def held (src : Option Nat) (σ0 σ : VEnv) : Prop := match src with
  | none => True
  | some i => σ[i]? = (lockO (some i) σ0)[i]?
def unlockO (src : Option Nat) (σ0 σ : VEnv) : VEnv := match src with
  | none => σ
  | some i => σ.set i (σ0.getD i none)
@[simp] theorem cell_withTag (v : V) (g : Tag) : (v.withTag g).cell = v.cell := by cases v <;> rfl
theorem tag_withTag {v : V} {g : Tag} (h : v.cell ≠ none) : (v.withTag g).tag = g := by
  cases v with
  | p _ => exact absurd rfl h
  | l _ _ => rfl
  | d _ _ _ _ => rfl
def pinK (K : Nat → Option Nat) (i l : Nat) : Nat → Option Nat := fun j => if j = i then some l else K j
section
variable {K : Nat → Option Nat} {b n : Nat} {ρ : Env} {S : Sto} {σ : VEnv}
theorem getD_of {i : Nat} {o : Option V} (h : σ[i]? = some o) : σ.getD i none = o := by simp [List.getD_eq_getElem?_getD, h]
/-- a slot is pinned -/
theorem Rep.lock (H : Rep K b n ρ S σ) {i l : Nat} {v v' : V} (hl : ρ[i]? = some (some (.ref l))) (hv : σ[i]? = some (some v)) (hc : v.cell ≠ none) (hv' : v'.cell = v.cell) (ht : v'.tag = .lck) : Rep (pinK K i l) b S.length ρ S (σ.set i (some v')) := by
  have hil := (List.getElem?_eq_some_iff.mp hv).1
  have f : ∀ {x : Nat} {y : V}, (σ.set i (some v'))[x]? = some (some y) → y.cell ≠ none → ∃ z, σ[x]? = some (some z) ∧ z.cell ≠ none := fun {x y} e c => by
    rcases set_get e with ⟨rfl, q, _⟩ | ⟨ne, q⟩
    · exact ⟨v, hv, hc⟩
    · exact ⟨y, q, c⟩
  refine ⟨fun j k e => ?_, Nat.le_trans H.bn H.nS, Nat.le_refl _, by simp [H.len], fun j d e => ?_, fun j w c e ec => ?_, fun j j' w w' k e1 e2 c1 c2 r1 r2 => ?_⟩
  · unfold pinK at e
    split at e
    · cases e; exact H.lv_lt ⟨i, v, hv, hc, hl⟩
    · exact Nat.lt_of_lt_of_le (H.hK j k e) H.nS
  · rcases set_get e with ⟨rfl, q, _⟩ | ⟨ne, q⟩
    · cases q; exact absurd hv'.symm hc
    · exact H.dat j d q
  · rcases set_get e with ⟨rfl, q, _⟩ | ⟨ne, q⟩
    · cases q
      obtain ⟨k, a1, a2, _⟩ := H.cel j v c hv (hv' ▸ ec)
      rw [hl] at a1; cases a1
      exact ⟨l, hl, a2, (fun z => by rw [ht] at z; cases z), fun _ => by unfold pinK; rw [if_pos rfl]⟩
    · obtain ⟨k, a1, a2, a3, a4⟩ := H.cel j w c q ec
      exact ⟨k, a1, a2, a3, fun z => by unfold pinK; rw [if_neg ne]; exact a4 z⟩
  · obtain ⟨z1, a1, a2⟩ := f e1 c1
    obtain ⟨z2, b1, b2⟩ := f e2 c2
    exact H.inj j j' z1 z2 k a1 b1 a2 b2 r1 r2
/-- and let go -/
theorem Rep.unlock {ρ' : Env} {S' : Sto} {σ' : VEnv} {K' : Nat → Option Nat} {n' i l : Nat} {v v' : V} (H0 : Rep K b n ρ S σ) (hl : ρ[i]? = some (some (.ref l))) (hv : σ[i]? = some (some v)) (hc : v.cell ≠ none)
    (H : Rep (pinK K i l) b n' ρ' S' σ') (hS : n ≤ S'.length) (hv' : σ'[i]? = some (some v')) (hc' : v'.cell = v.cell) (ht : v'.tag = .lck) : Rep K b n ρ' S' (σ'.set i (some v)) ∧ ρ'[i]? = some (some (.ref l)) := by
  have hil := (List.getElem?_eq_some_iff.mp hv').1
  have f : ∀ {x : Nat} {y : V}, (σ'.set i (some v))[x]? = some (some y) → y.cell ≠ none → ∃ z, σ'[x]? = some (some z) ∧ z.cell ≠ none := fun {x y} e c => by
    rcases set_get e with ⟨rfl, q, _⟩ | ⟨ne, q⟩
    · exact ⟨v', hv', by rw [hc']; exact hc⟩
    · exact ⟨y, q, c⟩
  cases hcc : v.cell with
  | none => exact absurd hcc hc
  | some c0 =>
  obtain ⟨k', a1, a2, _, a4⟩ := H.cel i v' c0 hv' (hc'.trans hcc)
  have := a4 (by rw [ht]; exact fun z => nomatch z)
  unfold pinK at this
  rw [if_pos rfl] at this
  cases this
  refine ⟨⟨H0.hK, H0.bn, hS, by simp [H.len], fun j d e => ?_, fun j w c e ec => ?_, fun j j' w w' k e1 e2 c1 c2 r1 r2 => ?_⟩, a1⟩
  · rcases set_get e with ⟨rfl, q, _⟩ | ⟨ne, q⟩
    · cases q; exact absurd rfl hc
    · exact H.dat j d q
  · rcases set_get e with ⟨rfl, q, _⟩ | ⟨ne, q⟩
    · cases q
      obtain ⟨k, z1, z2, z3, z4⟩ := H0.cel j v c hv ec
      rw [hl] at z1; cases z1
      rw [hcc] at ec; cases ec
      exact ⟨l, a1, a2, z3, z4⟩
    · obtain ⟨k, z1, z2, z3, z4⟩ := H.cel j w c q ec
      refine ⟨k, z1, z2, z3, fun z => ?_⟩
      have := z4 z
      unfold pinK at this
      rw [if_neg ne] at this
      exact this
  · obtain ⟨z1, b1, b2⟩ := f e1 c1
    obtain ⟨z2, d1, d2⟩ := f e2 c2
    exact H.inj j j' z1 z2 k b1 d1 b2 d2 r1 r2
theorem lv_tag {i : Nat} {v v' : V} (hv : σ[i]? = some (some v)) (hc : v.cell ≠ none) (hv' : v'.cell ≠ none) (k : Nat) : Lv ρ (σ.set i (some v')) k ↔ Lv ρ σ k := by
  have hil := (List.getElem?_eq_some_iff.mp hv).1
  constructor
  · rintro ⟨m, w, h1, h2, h3⟩
    rcases set_get h1 with ⟨rfl, q, _⟩ | ⟨ne, q⟩
    · exact ⟨m, v, hv, hc, h3⟩
    · exact ⟨m, w, q, h2, h3⟩
  · rintro ⟨m, w, h1, h2, h3⟩
    by_cases e : i = m
    · subst e; exact ⟨i, v', List.getElem?_set_self hil, hv', h3⟩
    · exact ⟨m, w, by rw [List.getElem?_set_ne e]; exact h1, h2, h3⟩
/-- lock what is walked, if it is a slot's -/
theorem Rep.lockO (H : Rep K b n ρ S σ) {lo src : Option Nat} (hI : RepI ρ S σ lo src) : ∃ K', Rep K' b S.length ρ S (XL.lockO src σ) ∧ Exv ρ σ S ρ (XL.lockO src σ) S ∧
    ∀ {ρ' : Env} {S' : Sto} {σ' : VEnv}, Rep K' b S.length ρ' S' σ' → held src σ σ' → (lo = none ∨ ∃ l, lo = some l ∧ S'[l]? = S[l]?) ∧ Rep K b n ρ' S' (unlockO src σ σ') ∧ ∀ k, Lv ρ' (unlockO src σ σ') k → Lv ρ' σ' k := by
  cases src with
  | none =>
    refine ⟨K, ⟨fun i k e => Nat.lt_of_lt_of_le (H.hK i k e) H.nS, Nat.le_trans H.bn H.nS, Nat.le_refl _, H.len, H.dat, H.cel, H.inj⟩, .refl _ _ _, fun {ρ' S' σ'} R' _ => ⟨.inl hI, ?_, fun k h => h⟩⟩
    exact ⟨H.hK, H.bn, Nat.le_trans H.nS R'.nS, R'.len, R'.dat, R'.cel, R'.inj⟩
  | some i =>
    obtain ⟨l, v, rfl, hl, hv, hc⟩ := hI
    have e0 : XL.lockO (some i) σ = σ.set i (some (v.withTag .lck)) := by simp only [XL.lockO, getD_of hv, Option.map_some]
    have hil := (List.getElem?_eq_some_iff.mp hv).1
    rw [e0]
    refine ⟨pinK K i l, H.lock hl hv hc (cell_withTag _ _) (tag_withTag hc), ⟨Nat.le_refl _, fun j hj hn => ⟨rfl, fun q => hn ((lv_tag hv hc (by simpa using hc) j).mp q)⟩⟩, fun {ρ' S' σ'} R' hh => ?_⟩
    have hh' : σ'[i]? = some (some (v.withTag .lck)) := by
      have : σ'[i]? = _ := hh
      rw [this, e0, List.getElem?_set_self hil]
    obtain ⟨q1, q2⟩ := H.unlock (K' := K) hl hv hc R' (Nat.le_trans H.nS R'.nS) hh' (cell_withTag _ _) (tag_withTag hc)
    have eu : unlockO (some i) σ σ' = σ'.set i (some v) := by simp only [unlockO, getD_of hv]
    rw [eu]
    refine ⟨.inr ⟨l, rfl, ?_⟩, q1, fun k h => (lv_tag hh' (by simpa using hc) hc k).mp h⟩
    cases hcc : v.cell with
    | none => exact absurd hcc hc
    | some c0 =>
      obtain ⟨k1, z1, z2, _⟩ := H.cel i v c0 hv hcc
      rw [hl] at z1; cases z1
      obtain ⟨k2, y1, y2, _⟩ := R'.cel i _ c0 hh' (by simpa using hcc)
      rw [q2] at y1; cases y1
      rw [y2, z2]
end
/-! ### for -/
def TurnK (src : Option Nat) (σ1 : VEnv) (J : VEnv → Prop) (Q : VFl → Prop) : VFl → Prop
  | .nx σ' => ∃ σ'', Forget σ' σ'' ∧ held src σ1 σ'' ∧ J σ''
  | .ct σ' => ∃ σ'', Forget σ' σ'' ∧ held src σ1 σ'' ∧ J σ''
  | .rt u σ' => held src σ1 σ' ∧ Q (.rt u (unlockO src σ1 σ'))
  | .bk σ' => held src σ1 σ' ∧ Q (.nx (unlockO src σ1 σ'))
theorem wps_for {it : XI} {t : Tg} {s : XS} {σ : VEnv} {Q : VFl → Prop} (h : WPI it σ fun ds src σ1 => ∃ I : Nat → VEnv → Prop, (∃ σ0, Forget (lockO src σ1) σ0 ∧ held src σ1 σ0 ∧ I 0 σ0) ∧
    (∀ (i : Nat) (d : P) (σ2 : VEnv), ds[i]? = some d → I i σ2 → ∃ σ3, t.putV d σ2 = some σ3 ∧ WPS s σ3 (TurnK src σ1 (I (i + 1)) Q)) ∧ ∀ σ2, I ds.length σ2 → Q (.nx (unlockO src σ1 σ2))) : WPS (xFor it t s) σ Q := fun K b n ρ S H => by
  obtain ⟨ds, lo, S1, src, σ1, e, R1, RI, X1, I, ⟨σ0, f0, hh0, I0⟩, step, fin⟩ := h K b n ρ S H
  obtain ⟨K', R2, X2, back⟩ := R1.lockO RI
  have cell : ∀ {ρ' : Env} {S' : Sto} {σ' : VEnv}, Rep K' b S1.length ρ' S' σ' → held src σ1 σ' → cellOk lo S1 S' = true := fun {ρ' S' σ'} R hh => by
    rcases (back R hh).1 with rfl | ⟨l, rfl, z⟩
    · rfl
    · simp [cellOk, z]
  have go : ∀ (es : List P) (i : Nat) (ρ' : Env) (S' : Sto) (σ' : VEnv), ds.drop i = es → i ≤ ds.length → Rep K' b S1.length ρ' S' σ' → held src σ1 σ' → I i σ' → Exv ρ (lockO src σ1) S1 ρ' σ' S' → ∃ fl S2 vf, forGo S1.length lo S1 t s es ρ' S' = some (fl, S2) ∧ OutF K b n ρ (lockO src σ1) S1 fl S2 vf ∧ Q vf := by
    intro es
    induction es with
    | nil =>
      intro i ρ' S' σ' hd hi R hh hI X
      have : i = ds.length := by
        have := congrArg List.length hd
        simp at this; omega
      subst this
      obtain ⟨_, B, L⟩ := back R hh
      exact ⟨.nx ρ', S', .nx _, rfl, ⟨ρ', rfl, B, X.len, fun j hj hn => ⟨(X.frm j hj hn).1, fun q => (X.frm j hj hn).2 (L j q)⟩⟩, fin σ' hI⟩
    | cons d es ih =>
      intro i ρ' S' σ' hd hi R hh hI X
      have hlt : i < ds.length := by
        have := congrArg List.length hd
        simp at this; omega
      rw [List.drop_eq_getElem_cons hlt] at hd
      obtain ⟨e1, e2⟩ := List.cons.inj hd
      obtain ⟨σ3, hp, hw⟩ := step i d σ' (by rw [List.getElem?_eq_getElem hlt, e1]) hI
      obtain ⟨ρ3, p1, R3, X3⟩ := putV_rep R hp
      obtain ⟨fl, S4, vf, e4, o4, q4⟩ := hw K' b S1.length ρ3 S' R3
      have next : ∀ {ρ4 : Env} {σ4 σ5 : VEnv}, Rep K' b S1.length ρ4 S4 σ4 → Exv ρ3 σ3 S' ρ4 σ4 S4 → Forget σ4 σ5 → held src σ1 σ5 → I (i + 1) σ5 → cellOk lo S1 (gc S1.length ρ4 S4).2 = true ∧ ∃ fl S2 vf, forGo S1.length lo S1 t s es (gc S1.length ρ4 S4).1 (gc S1.length ρ4 S4).2 = some (fl, S2) ∧ OutF K b n ρ (lockO src σ1) S1 fl S2 vf ∧ Q vf := fun {ρ4 σ4 σ5} R4 X4 f5 hh5 hI5 => by
        have R5 := R4.forget f5
        have Xa := ((X.trans X3).trans X4).forget f5
        obtain ⟨G1, G2, G3, G4⟩ := gc_rep (n0 := S1.length) R5 (Nat.le_refl _) R5.nS
        refine ⟨cell G1 hh5, ih (i + 1) _ _ σ5 e2 hlt G1 hh5 hI5 ⟨G2, fun j hj hn => ?_⟩⟩
        obtain ⟨y1, y2⟩ := Xa.frm j hj hn
        exact ⟨(G3 j hj).trans y1, fun q => y2 (G4 j hj q)⟩
      cases vf with
      | nx σ4 =>
        obtain ⟨ρ4, rfl, R4, X4⟩ := o4
        obtain ⟨σ5, f5, hh5, hI5⟩ := q4
        obtain ⟨c1, fl, S2, vf, z1, z2⟩ := next R4 X4 f5 hh5 hI5
        exact ⟨fl, S2, vf, by simp only [forGo, p1, Option.bind_some, e4]; rw [if_pos c1]; exact z1, z2⟩
      | ct σ4 =>
        obtain ⟨ρ4, rfl, R4, X4⟩ := o4
        obtain ⟨σ5, f5, hh5, hI5⟩ := q4
        obtain ⟨c1, fl, S2, vf, z1, z2⟩ := next R4 X4 f5 hh5 hI5
        exact ⟨fl, S2, vf, by simp only [forGo, p1, Option.bind_some, e4]; rw [if_pos c1]; exact z1, z2⟩
      | rt u σ4 =>
        obtain ⟨ρ4, r, rfl, R4, U4, X4⟩ := o4
        obtain ⟨hh4, q⟩ := q4
        obtain ⟨_, B, L⟩ := back R4 hh4
        have Xa := (X.trans X3).trans X4
        exact ⟨.rt r, S4, .rt u _, by simp only [forGo, p1, Option.bind_some, e4], ⟨ρ4, r, rfl, B, U4, Xa.len, fun j hj hn => ⟨(Xa.frm j hj hn).1, fun q => (Xa.frm j hj hn).2 (L j q)⟩⟩, q⟩
      | bk σ4 =>
        obtain ⟨ρ4, rfl, R4, X4⟩ := o4
        obtain ⟨hh4, q⟩ := q4
        obtain ⟨_, B, L⟩ := back R4 hh4
        have Xa := (X.trans X3).trans X4
        exact ⟨.nx ρ4, S4, .nx _, by simp only [forGo, p1, Option.bind_some, e4], ⟨ρ4, rfl, B, Xa.len, fun j hj hn => ⟨(Xa.frm j hj hn).1, fun q => (Xa.frm j hj hn).2 (L j q)⟩⟩, q⟩
  obtain ⟨fl, S2, vf, z1, z2, z3⟩ := go ds 0 ρ S1 σ0 rfl (Nat.zero_le _) (R2.forget f0) hh0 I0 ((Exv.refl _ _ _).forget f0)
  exact ⟨fl, S2, vf, by simp only [xFor, e, Option.bind_some]; exact z1, z2.pre (X1.trans X2), z3⟩
/-! ### while -/
end XL
end
section
set_option Elab.async false
set_option linter.all false
set_option autoImplicit false
set_option maxRecDepth 100000
set_option maxHeartbeats 1000000
namespace XL
/-! ### dicts that are walked -/
section
variable {σ : VEnv} {i : Nat}
theorem Rep.set_cell {K : Nat → Option Nat} {b n : Nat} {ρ : Env} {S : Sto} {l : Nat} {v v' : V} {c' : Cell} (H : Rep K b n ρ S σ) (hl : ρ[i]? = some (some (.ref l))) (hv : σ[i]? = some (some v)) (hc : v.cell ≠ none) (hv' : v'.cell = some c') (ht : v'.tag = .lck) : Rep (pinK K i l) b S.length ρ (S.set l c') (σ.set i (some v')) ∧ Exv ρ σ S ρ (σ.set i (some v')) (S.set l c') := by
  obtain ⟨R1, X1⟩ := H.upd (v' := v'.withTag v.tag) hv hc hl (by rw [cell_withTag]; exact hv') (by
    have : v'.cell ≠ none := by rw [hv']; exact fun z => nomatch z
    exact tag_withTag this)
  have hil := (List.getElem?_eq_some_iff.mp hv).1
  have hg : (σ.set i (some (v'.withTag v.tag)))[i]? = some (some (v'.withTag v.tag)) := List.getElem?_set_self hil
  have hn : v'.cell ≠ none := by rw [hv']; exact fun z => nomatch z
  have R2 := R1.lock (v' := v') hl hg (by rw [cell_withTag]; exact hn) (cell_withTag _ _).symm ht
  rw [List.set_set, List.length_set] at R2
  refine ⟨R2, by simp, fun j hj hn' => ⟨(X1.frm j hj hn').1, fun q => hn' ((lv_tag hv hc hn j).mp q)⟩⟩
def LockK (i : Nat) (g : Tag) (t : Bool) (kvs : List (P × P)) (Q : VFl → Prop) : VFl → Prop
  | .nx σ => σ[i]? = some (some (.d .lck true t kvs)) ∧ Q (.nx (σ.set i (some (.d g false t kvs))))
  | .rt u σ => σ[i]? = some (some (.d .lck true t kvs)) ∧ Q (.rt u (σ.set i (some (.d g false t kvs))))
  | .bk σ => σ[i]? = some (some (.d .lck true t kvs)) ∧ Q (.bk (σ.set i (some (.d g false t kvs))))
  | .ct σ => σ[i]? = some (some (.d .lck true t kvs)) ∧ Q (.ct (σ.set i (some (.d g false t kvs))))
theorem lock_back {K : Nat → Option Nat} {b n : Nat} {ρ ρ' : Env} {S S' : Sto} {σ' : VEnv} {l : Nat} {g : Tag} {t : Bool} {kvs : List (P × P)} (H : Rep K b n ρ S σ) (hl : ρ[i]? = some (some (.ref l))) (hv : σ[i]? = some (some (.d g false t kvs))) (R : Rep (pinK K i l) b S.length ρ' S' σ') (X : Exv ρ (σ.set i (some (.d .lck true t kvs))) (S.set l (.dct true t kvs)) ρ' σ' S') (hv' : σ'[i]? = some (some (.d .lck true t kvs))) :
    S'[l]? = some (.dct true t kvs) ∧ Rep K b n ρ' (S'.set l (.dct false t kvs)) (σ'.set i (some (.d g false t kvs))) ∧ Exv ρ σ S ρ' (σ'.set i (some (.d g false t kvs))) (S'.set l (.dct false t kvs)) := by
  obtain ⟨k, a1, a2, _, a4⟩ := R.cel i _ _ hv' rfl
  have := a4 (fun z => nomatch z)
  unfold pinK at this
  rw [if_pos rfl] at this
  cases this
  -- first the cell, still pinned
  obtain ⟨R1, X1⟩ := R.upd (v' := .d .lck false t kvs) hv' (fun z => nomatch z) a1 rfl rfl
  have hil := (List.getElem?_eq_some_iff.mp hv').1
  have hg : (σ'.set i (some (V.d .lck false t kvs)))[i]? = some (some (.d .lck false t kvs)) := List.getElem?_set_self hil
  obtain ⟨q1, _⟩ := H.unlock (K' := K) hl hv (fun z => nomatch z) R1 (by rw [List.length_set]; exact Nat.le_trans H.nS R.nS) hg rfl rfl
  rw [List.set_set] at q1
  have hlS : l < S.length := H.lv_lt ⟨i, _, hv, (fun z => nomatch z), hl⟩
  refine ⟨a2, q1, by have := X.len; simpa using this, fun j hj hn => ?_⟩
  have nl : ¬ Lv ρ (σ.set i (some (.d .lck true t kvs))) j := fun q => hn ((lv_tag (v' := .d .lck true t kvs) hv (fun z => nomatch z) (fun z => nomatch z) j).mp q)
  have ne : l ≠ j := fun e => hn ⟨i, _, hv, (fun z => nomatch z), e ▸ hl⟩
  obtain ⟨y1, y2⟩ := X.frm j (by simpa using hj) nl
  refine ⟨by rw [List.getElem?_set_ne ne, y1, List.getElem?_set_ne ne], fun q => y2 ((lv_tag (v' := .d g false t kvs) hv' (fun z => nomatch z) (fun z => nomatch z) j).mp q)⟩
theorem wps_lock {s : XS} {Q : VFl → Prop} {g : Tag} {t : Bool} {kvs : List (P × P)} (hv : σ[i]? = some (some (.d g false t kvs))) (h : WPS s (σ.set i (some (.d .lck true t kvs))) (LockK i g t kvs Q)) : WPS (xLockS i s) σ Q := fun K b n ρ S H => by
  obtain ⟨l, a1, a2, _⟩ := H.cel i _ _ hv rfl
  obtain ⟨R1, X1⟩ := H.set_cell (v' := .d .lck true t kvs) a1 hv (fun z => nomatch z) rfl rfl
  obtain ⟨fl, S', vf, e, o, q⟩ := h (pinK K i l) b S.length ρ (S.set l (.dct true t kvs)) R1
  have fin : ∀ {fl : Fl} {S' : Sto}, s ρ (S.set l (.dct true t kvs)) = some (fl, S') → S'[l]? = some (.dct true t kvs) → xLockS i s ρ S = some (fl, S'.set l (.dct false t kvs)) := fun {fl S'} e c => by
    simp [xLockS, a1, a2, e, c]
  cases vf with
  | nx σ' => obtain ⟨ρ', rfl, R', X'⟩ := o; obtain ⟨hh, q⟩ := q; obtain ⟨c, B, Y⟩ := lock_back H a1 hv R' X' hh; exact ⟨_, _, .nx _, fin e c, ⟨ρ', rfl, B, Y⟩, q⟩
  | rt u σ' => obtain ⟨ρ', r, rfl, R', U', X'⟩ := o; obtain ⟨hh, q⟩ := q; obtain ⟨c, B, Y⟩ := lock_back H a1 hv R' X' hh; exact ⟨_, _, .rt u _, fin e c, ⟨ρ', r, rfl, B, U', Y⟩, q⟩
  | bk σ' => obtain ⟨ρ', rfl, R', X'⟩ := o; obtain ⟨hh, q⟩ := q; obtain ⟨c, B, Y⟩ := lock_back H a1 hv R' X' hh; exact ⟨_, _, .bk _, fin e c, ⟨ρ', rfl, B, Y⟩, q⟩
  | ct σ' => obtain ⟨ρ', rfl, R', X'⟩ := o; obtain ⟨hh, q⟩ := q; obtain ⟨c, B, Y⟩ := lock_back H a1 hv R' X' hh; exact ⟨_, _, .ct _, fin e c, ⟨ρ', rfl, B, Y⟩, q⟩
theorem wpe_lock {s : XE} {Q : U → VEnv → Prop} {g : Tag} {t : Bool} {kvs : List (P × P)} (hv : σ[i]? = some (some (.d g false t kvs))) (h : WPE s (σ.set i (some (.d .lck true t kvs))) fun u σ1 => σ1[i]? = some (some (.d .lck true t kvs)) ∧ Q u (σ1.set i (some (.d g false t kvs)))) : WPE (xLockE i s) σ Q := fun K b n ρ S H => by
  obtain ⟨l, a1, a2, _⟩ := H.cel i _ _ hv rfl
  obtain ⟨R1, X1⟩ := H.set_cell (v' := .d .lck true t kvs) a1 hv (fun z => nomatch z) rfl rfl
  obtain ⟨r, S', u, σ', e, R', U', X', hh, q⟩ := h (pinK K i l) b S.length ρ (S.set l (.dct true t kvs)) R1
  obtain ⟨c, B, Y⟩ := lock_back H a1 hv R' X' hh
  exact ⟨r, _, u, _, by simp [xLockE, a1, a2, e, c], B, U', Y, q⟩
end
/-! ### comprehensions -/
def wipeV (σ : VEnv) : List Nat → VEnv
  | [] => σ
  | v :: vs => (wipeV σ vs).set v none
def onlyP : Option V → Option V
  | some (.p d) => some (.p d)
  | _ => none
def backV (σ0 σ : VEnv) : List Nat → VEnv
  | [] => σ
  | v :: vs => (backV σ0 σ vs).set v (onlyP (σ0.getD v none))
def Tg.vslots : Tg → List Nat
  | .nm i => [i]
  | .tp is => is
theorem wipeV_get {σ : VEnv} : ∀ {vs : List Nat} {j : Nat} {v : V}, (wipeV σ vs)[j]? = some (some v) → j ∉ vs ∧ σ[j]? = some (some v)
  | [], j, v, h => ⟨by simp, h⟩
  | w :: vs, j, v, h => by
    rcases set_get h with ⟨_, q, _⟩ | ⟨ne, q⟩
    · cases q
    · obtain ⟨a, b⟩ := wipeV_get q
      exact ⟨by simp [ne, a], b⟩
theorem wipeV_len {σ : VEnv} : ∀ {vs : List Nat}, (wipeV σ vs).length = σ.length
  | [] => rfl
  | v :: vs => by simp [wipeV, wipeV_len (vs := vs)]
theorem wipeE_get' {ρ : Env} : ∀ {vs : List Nat} {j : Nat}, j ∉ vs → (wipeE ρ vs)[j]? = ρ[j]?
  | [], j, _ => rfl
  | w :: vs, j, h => by
    simp only [List.mem_cons, not_or] at h
    rw [wipeE, List.getElem?_set_ne (fun z => h.1 z.symm)]
    exact wipeE_get' h.2
theorem wipeE_len' {ρ : Env} : ∀ {vs : List Nat}, (wipeE ρ vs).length = ρ.length
  | [] => rfl
  | v :: vs => by simp [wipeE, wipeE_len' (vs := vs)]
theorem backV_get {σ0 σ : VEnv} : ∀ {vs : List Nat} {j : Nat} {v : V}, (backV σ0 σ vs)[j]? = some (some v) → (j ∈ vs ∧ (∃ d, v = .p d) ∧ σ0[j]? = some (some v)) ∨ (j ∉ vs ∧ σ[j]? = some (some v))
  | [], j, v, h => .inr ⟨by simp, h⟩
  | w :: vs, j, v, h => by
    rcases set_get h with ⟨rfl, q, _⟩ | ⟨ne, q⟩
    · left
      rw [List.getD_eq_getElem?_getD] at q
      cases e : σ0[j]? with
      | none => rw [e] at q; cases q
      | some o =>
        rw [e] at q
        cases o with
        | none => cases q
        | some x =>
          cases x with
          | p d => simp [onlyP] at q; subst q; exact ⟨by simp, ⟨d, rfl⟩, rfl⟩
          | l _ _ => cases q
          | d _ _ _ _ => cases q
    · rcases backV_get q with ⟨a, b⟩ | ⟨a, b⟩
      · exact .inl ⟨by simp [a], b⟩
      · exact .inr ⟨by simp [ne, a], b⟩
theorem backV_len {σ0 σ : VEnv} : ∀ {vs : List Nat}, (backV σ0 σ vs).length = σ.length
  | [] => rfl
  | v :: vs => by simp [backV, backV_len (vs := vs)]
theorem setAll_out : ∀ {is : List Nat} {ds : List P} {ρ ρ' : Env}, setAll is ds ρ = some ρ' → ρ'.length = ρ.length ∧ ∀ j, j ∉ is → ρ'[j]? = ρ[j]?
  | [], [], ρ, ρ', h => by cases h; exact ⟨rfl, fun _ _ => rfl⟩
  | [], _ :: _, _, _, h => by cases h
  | _ :: _, [], _, _, h => by cases h
  | i :: is, d :: ds, ρ, ρ', h => by
    obtain ⟨a, b⟩ := setAll_out (is := is) (ds := ds) h
    refine ⟨by rw [a]; simp, fun j hj => ?_⟩
    simp only [List.mem_cons, not_or] at hj
    rw [b j hj.2, List.getElem?_set_ne (fun z => hj.1 z.symm)]
theorem put_out {t : Tg} {d : P} {ρ ρ' : Env} (h : t.put d ρ = some ρ') : ρ'.length = ρ.length ∧ ∀ j, j ∉ t.vslots → ρ'[j]? = ρ[j]? := by
  cases t with
  | nm i =>
    cases h
    exact ⟨by simp, fun j hj => by rw [List.getElem?_set_ne]; intro z; subst z; simp [Tg.vslots] at hj⟩
  | tp is =>
    cases d with
    | tup ds => exact setAll_out h
    | _ => cases h
section
variable {K : Nat → Option Nat} {b n : Nat} {ρ ρ' : Env} {S : Sto} {σ : VEnv}
theorem Rep.agree (H : Rep K b n ρ S σ) (hl : ρ'.length = ρ.length) (h : ∀ (i : Nat) (v : V), σ[i]? = some (some v) → ρ'[i]? = ρ[i]?) : Rep K b n ρ' S σ :=
  ⟨H.hK, H.bn, H.nS, hl.trans H.len, fun i d e => (h i _ e).trans (H.dat i d e), fun i v c e hc => by rw [h i v e]; exact H.cel i v c e hc, fun i j v w k e1 e2 c1 c2 r1 r2 => H.inj i j v w k e1 e2 c1 c2 ((h i v e1) ▸ r1) ((h j w e2) ▸ r2)⟩
theorem forget_wipe {vs : List Nat} : Forget σ (wipeV σ vs) := ⟨wipeV_len, fun i v h => (wipeV_get h).2⟩
theorem lv_agree {σ : VEnv} (h : ∀ (i : Nat) (v : V), σ[i]? = some (some v) → ρ'[i]? = ρ[i]?) {k : Nat} : Lv ρ' σ k ↔ Lv ρ σ k := by
  constructor
  · rintro ⟨i, v, h1, h2, h3⟩; exact ⟨i, v, h1, h2, (h i v h1) ▸ h3⟩
  · rintro ⟨i, v, h1, h2, h3⟩; exact ⟨i, v, h1, h2, by rw [h i v h1]; exact h3⟩
end
/-- the turns of a comprehension: ρw is the frame without the own slots -/
theorem lcGo_rep {lo src : Option Nat} {S1 : Sto} {t : Tg} {c : XT} {e : XE} {vs : List Nat} {σ1 : VEnv} {ρw : Env} {K' : Nat → Option Nat} {b n : Nat} (ht : ∀ i ∈ t.vslots, i ∈ vs)
    (cell : ∀ {ρ' : Env} {S' : Sto} {σ' : VEnv}, Rep K' b n ρ' S' σ' → held src σ1 σ' → cellOk lo S1 S' = true) {all : List P} (J : Nat → List P → VEnv → Prop)
    (step : ∀ (i : Nat) (d : P) (acc : List P) (σ2 : VEnv), all[i]? = some d → J i acc σ2 → ∃ σ3, t.putV d σ2 = some σ3 ∧ WPT c σ3 fun k σ4 => (k = true → WPE e σ4 fun u σ5 => ∃ v, u.fz = some v ∧ acc.length < 1000000 ∧ held src σ1 (wipeV σ5 vs) ∧ J (i + 1) (acc ++ [v]) (wipeV σ5 vs)) ∧ (k = false → held src σ1 (wipeV σ4 vs) ∧ J (i + 1) acc (wipeV σ4 vs))) :
    ∀ (es : List P) (i : Nat) (acc : List P) (S : Sto) (σ : VEnv), all.drop i = es → i ≤ all.length → Rep K' b n ρw S σ → (∀ (j : Nat) (v : V), σ[j]? = some (some v) → j ∉ vs) → J i acc σ → held src σ1 σ →
    ∃ acc' S' σ', lcGo lo S1 t c e ρw es acc S = some (acc', S') ∧ Rep K' b n ρw S' σ' ∧ Exv ρw σ S ρw σ' S' ∧ (∀ (j : Nat) (v : V), σ'[j]? = some (some v) → j ∉ vs) ∧ J all.length acc' σ' ∧ held src σ1 σ' := by
  intro es
  induction es with
  | nil =>
    intro i acc S σ hd hi R hw hJ hh
    have : i = all.length := by
      have := congrArg List.length hd
      simp at this; omega
    subst this
    exact ⟨acc, S, σ, rfl, R, .refl _ _ _, hw, hJ, hh⟩
  | cons d es ih =>
    intro i acc S σ hd hi R hw hJ hh
    have hlt : i < all.length := by
      have := congrArg List.length hd
      simp at this; omega
    rw [List.drop_eq_getElem_cons hlt] at hd
    obtain ⟨e1, e2⟩ := List.cons.inj hd
    obtain ⟨σ3, hp, hc⟩ := step i d acc σ (by rw [List.getElem?_eq_getElem hlt, e1]) hJ
    obtain ⟨ρ3, p1, R3, X3⟩ := putV_rep R hp
    obtain ⟨o1, o2⟩ := put_out p1
    have same : ∀ {σ' : VEnv} (j : Nat) (v : V), (wipeV σ' vs)[j]? = some (some v) → ρw[j]? = ρ3[j]? := fun {σ'} j v h => (o2 j fun q => (wipeV_get h).1 (ht j q)).symm
    have next : ∀ {S' : Sto} {σ' : VEnv} {acc' : List P}, Rep K' b n ρ3 S' σ' → Exv ρ3 σ3 S ρ3 σ' S' → held src σ1 (wipeV σ' vs) → J (i + 1) acc' (wipeV σ' vs) → cellOk lo S1 S' = true ∧ ∃ acc'' S'' σ'', lcGo lo S1 t c e ρw es acc' S' = some (acc'', S'') ∧ Rep K' b n ρw S'' σ'' ∧ Exv ρw σ S ρw σ'' S'' ∧ (∀ (j : Nat) (v : V), σ''[j]? = some (some v) → j ∉ vs) ∧ J all.length acc'' σ'' ∧ held src σ1 σ'' := fun {S' σ' acc'} R' X' h' J' => by
      have Rw : Rep K' b n ρw S' (wipeV σ' vs) := (R'.forget forget_wipe).agree o1.symm same
      obtain ⟨a'', S'', σ'', z1, z2, z3, z4⟩ := ih (i + 1) acc' S' (wipeV σ' vs) e2 hlt Rw (fun j v h => (wipeV_get h).1) J' h'
      refine ⟨cell Rw h', a'', S'', σ'', z1, z2, Exv.trans ⟨X'.len, fun j hj hn => ?_⟩ z3, z4⟩
      obtain ⟨y1, y2⟩ := (X3.trans X').frm j hj hn
      exact ⟨y1, fun q => y2 (((lv_agree same).mp q).forget forget_wipe)⟩
    obtain ⟨k, S4, σ4, e4, R4, X4, hT, hF⟩ := hc K' b n ρ3 S R3
    cases k with
    | true =>
      obtain ⟨r, S5, u, σ5, e5, R5, U5, X5, v, hv, hb, h5, J5⟩ := hT rfl K' b n ρ3 S4 R4
      obtain ⟨c1, a'', S'', σ'', z1, z2⟩ := next R5 (X4.trans X5) h5 J5
      refine ⟨a'', S'', σ'', ?_, z2⟩
      simp only [lcGo, p1, Option.bind_some, e4, if_true, e5, fz_rep U5 hv]
      rw [if_pos ⟨hb, c1⟩]; exact z1
    | false =>
      obtain ⟨h5, J5⟩ := hF rfl
      obtain ⟨c1, a'', S'', σ'', z1, z2⟩ := next R4 X4 h5 J5
      refine ⟨a'', S'', σ'', ?_, z2⟩
      simp only [lcGo, p1, Option.bind_some, e4, Bool.false_eq_true, if_false]
      rw [if_pos c1]; exact z1
/-- the frame again behind a comprehension -/
theorem back_rep {K : Nat → Option Nat} {b n n' : Nat} {K' : Nat → Option Nat} {ρ : Env} {S1 S' : Sto} {σ1 σ' : VEnv} {vs : List Nat} (R1 : Rep K b n ρ S1 σ1) (R' : Rep K b n (wipeE ρ vs) S' σ') (X : Exv ρ σ1 S1 (wipeE ρ vs) σ' S') (hl : σ'.length = σ1.length) : Rep K b n ρ S' (backV σ1 σ' vs) ∧ Exv ρ σ1 S1 ρ (backV σ1 σ' vs) S' := by
  have get : ∀ {j : Nat} {v : V}, (backV σ1 σ' vs)[j]? = some (some v) → v.cell ≠ none → j ∉ vs ∧ σ'[j]? = some (some v) ∧ ρ[j]? = (wipeE ρ vs)[j]? := fun {j v} h hc => by
    rcases backV_get h with ⟨_, ⟨d, rfl⟩, _⟩ | ⟨a, b⟩
    · exact absurd rfl hc
    · exact ⟨a, b, (wipeE_get' a).symm⟩
  refine ⟨⟨R1.hK, R1.bn, Nat.le_trans R1.nS X.len, by rw [backV_len, hl]; exact R1.len, fun j d h => ?_, fun j v c h hc => ?_, fun i j v w k e1 e2 c1 c2 r1 r2 => ?_⟩, X.len, fun j hj hn => ?_⟩
  · rcases backV_get h with ⟨_, _, q⟩ | ⟨a, q⟩
    · exact R1.dat j d q
    · rw [← wipeE_get' a]; exact R'.dat j d q
  · obtain ⟨a1, a2, a3⟩ := get h (by rw [hc]; exact fun z => nomatch z)
    rw [a3]; exact R'.cel j v c a2 hc
  · obtain ⟨a1, a2, a3⟩ := get e1 c1
    obtain ⟨b1, b2, b3⟩ := get e2 c2
    exact R'.inj i j v w k a2 b2 c1 c2 (a3 ▸ r1) (b3 ▸ r2)
  · obtain ⟨y1, y2⟩ := X.frm j hj hn
    refine ⟨y1, fun ⟨i, v, h1, h2, h3⟩ => ?_⟩
    obtain ⟨a1, a2, a3⟩ := get h1 h2
    exact y2 ⟨i, v, a2, h2, a3 ▸ h3⟩
theorem lockO_len {src : Option Nat} {σ : VEnv} : (lockO src σ).length = σ.length := by cases src <;> simp [lockO]
theorem unlockO_len {src : Option Nat} {σ0 σ : VEnv} : (unlockO src σ0 σ).length = σ.length := by cases src <;> simp [unlockO]
theorem held_wipe {src : Option Nat} {σ : VEnv} {vs : List Nat} (hs : ∀ i, src = some i → i ∉ vs) : held src σ (wipeV (lockO src σ) vs) := by
  cases src with
  | none => trivial
  | some i =>
    have : ∀ (vs : List Nat), i ∉ vs → (wipeV (lockO (some i) σ) vs)[i]? = (lockO (some i) σ)[i]? := by
      intro vs
      induction vs with
      | nil => intro _; rfl
      | cons w vs ih =>
        intro h
        simp only [List.mem_cons, not_or] at h
        rw [wipeV, List.getElem?_set_ne (fun z => h.1 z.symm)]; exact ih h.2
    exact this vs (hs i rfl)
theorem wpe_lc {it : XI} {t : Tg} {c : XT} {e : XE} {vs : List Nat} {σ : VEnv} {Q : U → VEnv → Prop} (ht : t.vslots.all (fun i => vs.contains i) = true)
    (h : WPI it σ fun ds src σ1 => (∀ i, src = some i → i ∉ vs) ∧ ∃ J : Nat → List P → VEnv → Prop, J 0 [] (wipeV (lockO src σ1) vs) ∧
      (∀ (i : Nat) (d : P) (acc : List P) (σ2 : VEnv), ds[i]? = some d → J i acc σ2 → ∃ σ3, t.putV d σ2 = some σ3 ∧ WPT c σ3 fun k σ4 => (k = true → WPE e σ4 fun u σ5 => ∃ v, u.fz = some v ∧ acc.length < 1000000 ∧ held src σ1 (wipeV σ5 vs) ∧ J (i + 1) (acc ++ [v]) (wipeV σ5 vs)) ∧ (k = false → held src σ1 (wipeV σ4 vs) ∧ J (i + 1) acc (wipeV σ4 vs))) ∧
      ∀ acc σ2, J ds.length acc σ2 → Q (.frl acc) (backV σ1 (unlockO src σ1 σ2) vs)) : WPE (xLc it t c e vs) σ Q := fun K b n ρ S H => by
  have ht' : ∀ i ∈ t.vslots, i ∈ vs := fun i hi => by simpa using List.all_eq_true.mp ht i hi
  obtain ⟨ds, lo, S1, src, σ1, e1, R1, RI, X1, hs, J, J0, step, fin⟩ := h K b n ρ S H
  obtain ⟨K', R2, X2, back⟩ := R1.lockO RI
  have cell : ∀ {ρ' : Env} {S' : Sto} {σ' : VEnv}, Rep K' b S1.length ρ' S' σ' → held src σ1 σ' → cellOk lo S1 S' = true := fun {ρ' S' σ'} R hh => by
    rcases (back R hh).1 with rfl | ⟨l, rfl, z⟩
    · rfl
    · simp [cellOk, z]
  have ag : ∀ (i : Nat) (v : V), (wipeV (lockO src σ1) vs)[i]? = some (some v) → (wipeE ρ vs)[i]? = ρ[i]? := fun i v h => wipeE_get' (wipeV_get h).1
  have Rw : Rep K' b S1.length (wipeE ρ vs) S1 (wipeV (lockO src σ1) vs) := (R2.forget forget_wipe).agree wipeE_len' ag
  obtain ⟨acc, S', σ', z1, z2, z3, z4, z5, z6⟩ := lcGo_rep (lo := lo) (src := src) (S1 := S1) (σ1 := σ1) (ρw := wipeE ρ vs) ht' cell J step ds 0 [] S1 _ rfl (Nat.zero_le _) Rw (fun j v h => (wipeV_get h).1) J0 (held_wipe hs)
  obtain ⟨_, B, L⟩ := back z2 z6
  have Xa : Exv ρ σ1 S1 (wipeE ρ vs) (unlockO src σ1 σ') S' := ⟨z3.len, fun j hj hn => by
    have n1 : ¬ Lv (wipeE ρ vs) (wipeV (lockO src σ1) vs) j := fun q => (X2.frm j hj hn).2 (((lv_agree ag).mp q).forget forget_wipe)
    obtain ⟨y1, y2⟩ := z3.frm j hj n1
    exact ⟨y1, fun q => y2 (L j q)⟩⟩
  have hl : (unlockO src σ1 σ').length = σ1.length := by
    rw [← B.len, wipeE_len', R1.len]
  obtain ⟨B1, B2⟩ := back_rep (n' := n) (K' := K) R1 B Xa hl
  exact ⟨.frl acc, S', .frl acc, _, by simp only [xLc, e1, Option.bind_some, z1, Option.map_some], B1, rfl, X1.trans B2, fin acc σ' z5⟩
end XL
end
section
set_option Elab.async false
set_option linter.all false
set_option autoImplicit false
set_option maxRecDepth 100000
set_option maxHeartbeats 1000000
namespace XL
/-! ### arguments -/
inductive AV where
  | p (d : P)
  | sl (i : Nat)
  | nl (ds : List P)
  | nd (t : Bool) (kvs : List (P × P))
def AV.newC : AV → Option Cell
  | .nl ds => some (.lst ds)
  | .nd t kvs => some (.dct false t kvs)
  | _ => none
/-- base: the cells ahead of the arguments -/
def RepA (ρ : Env) (S : Sto) (σ : VEnv) : AV → D → Prop
  | .p d, x => x = .p d
  | .sl i, x => ∃ l, x = .ref l ∧ ρ[i]? = some (some (.ref l))
  | .nl ds, x => ∃ l, x = .ref l ∧ S[l]? = some (.lst ds) ∧ ¬ Lv ρ σ l
  | .nd t kvs, x => ∃ l, x = .ref l ∧ S[l]? = some (.dct false t kvs) ∧ ¬ Lv ρ σ l
structure RepAs (base : Nat) (ρ : Env) (S : Sto) (σ : VEnv) (as : List AV) (xs : List D) : Prop where
  len : xs.length = as.length
  at_ : ∀ (i : Nat) (a : AV), as[i]? = some a → ∃ x, xs[i]? = some x ∧ RepA ρ S σ a x
  low : ∀ (i : Nat) (a : AV) (l : Nat), as[i]? = some a → a.newC ≠ none → xs[i]? = some (.ref l) → base ≤ l
  sep : ∀ (i j : Nat) (a : AV) (l : Nat), as[i]? = some a → a.newC ≠ none → xs[i]? = some (.ref l) → xs[j]? = some (.ref l) → i = j
def WPD (x : XD) (σ : VEnv) (Q : List AV → VEnv → Prop) : Prop := ∀ (K : Nat → Option Nat) (b n : Nat) (ρ : Env) (S : Sto), Rep K b n ρ S σ → ∃ xs S' as σ', x ρ S = some (xs, S') ∧ Rep K b n ρ S' σ' ∧ RepAs S.length ρ S' σ' as xs ∧ Exv ρ σ S ρ σ' S' ∧ Q as σ' ∧ ∀ (i j : Nat), as[i]? = some (.sl j) → ∃ v, σ'[j]? = some (some v) ∧ v.cell ≠ none
section
variable {σ : VEnv} {Q : List AV → VEnv → Prop} {a : XE} {ys : XD}
theorem wpd_nil (q : Q [] σ) : WPD xNilD σ Q := fun K b n ρ S H => ⟨[], S, [], σ, rfl, H, ⟨rfl, fun i a h => by simp at h, fun i a l h => by simp at h, fun i j a l h => by simp at h⟩, .refl _ _ _, q, fun i j h => by simp at h⟩
def U.argA : U → AV
  | .p d => .p d
  | .sl i => .sl i
  | .frl ds => .p (.lst ds)
  | .frd t kvs => .nd t kvs
def U.boxA : U → AV
  | .p d => .p d
  | .sl i => .sl i
  | .frl ds => .nl ds
  | .frd t kvs => .nd t kvs
theorem cons_as {K : Nat → Option Nat} {b n : Nat} {ρ : Env} {S S1 S2 S3 : Sto} {σ1 σ2 : VEnv} {as : List AV} {xs : List D} {av : AV} {x : D} (R1 : Rep K b n ρ S1 σ1) (hS : S.length ≤ S1.length) (h2 : S2 = S1 ∨ ∃ c, S2 = S1 ++ [c])
    (ha : RepA ρ S2 σ1 av x) (hn : av.newC ≠ none → x = .ref S1.length ∧ S2.length = S1.length + 1) (R3 : Rep K b n ρ S3 σ2) (A : RepAs S2.length ρ S3 σ2 as xs) (X : Exv ρ σ1 S2 ρ σ2 S3) (hsl : ∀ (i j : Nat), as[i]? = some (.sl j) → ∃ v, σ2[j]? = some (some v) ∧ v.cell ≠ none) (hlive : ∀ j, av = .sl j → ∃ v, σ1[j]? = some (some v) ∧ v.cell ≠ none) :
    RepAs S.length ρ S3 σ2 (av :: as) (x :: xs) := by
  have hS2 : S1.length ≤ S2.length := by rcases h2 with rfl | ⟨c, rfl⟩ <;> simp
  refine ⟨by simp [A.len], fun i a h => ?_, fun i a l h hc hx => ?_, fun i j a l h hc hx hy => ?_⟩
  · cases i with
    | zero =>
      simp at h; subst h
      refine ⟨x, rfl, ?_⟩
      cases av with
      | p d => exact ha
      | sl i => exact ha
      | nl ds =>
        obtain ⟨l, rfl, h1, h2'⟩ := ha
        obtain ⟨y1, y2⟩ := X.frm l (List.getElem?_eq_some_iff.mp h1).1 h2'
        exact ⟨l, rfl, y1.trans h1, y2⟩
      | nd t kvs =>
        obtain ⟨l, rfl, h1, h2'⟩ := ha
        obtain ⟨y1, y2⟩ := X.frm l (List.getElem?_eq_some_iff.mp h1).1 h2'
        exact ⟨l, rfl, y1.trans h1, y2⟩
    | succ i => simpa using A.at_ i a (by simpa using h)
  · cases i with
    | zero =>
      simp at h hx; subst h
      obtain ⟨e, _⟩ := hn hc
      rw [e] at hx; cases hx; exact hS
    | succ i =>
      have := A.low i a l (by simpa using h) hc (by simpa using hx)
      omega
  · have old : ∀ {j : Nat} {l : Nat}, xs[j]? = some (.ref l) → av.newC ≠ none → l ≠ S1.length := fun {j l} hy hc e => by
      subst e
      have hj : j < as.length := by rw [← A.len]; exact (List.getElem?_eq_some_iff.mp hy).1
      obtain ⟨y, y1, y2⟩ := A.at_ j as[j] (List.getElem?_eq_getElem hj)
      rw [hy] at y1; cases y1
      have aj := List.getElem?_eq_getElem hj
      obtain ⟨e1, e2⟩ := hn hc
      cases hh : as[j] with
      | p d => rw [hh] at y2; cases y2
      | sl m =>
        rw [hh] at y2 aj
        obtain ⟨l', e', h'⟩ := y2
        cases e'
        obtain ⟨v, v1, v2⟩ := hsl j m aj
        -- the slot's cell is old: it would be live ahead
        have nl : ¬ Lv ρ σ1 S1.length := fun q => absurd (R1.lv_lt q) (Nat.lt_irrefl _)
        exact (X.frm S1.length (by omega) nl).2 ⟨m, v, v1, v2, h'⟩
      | nl ds => have := A.low j _ _ aj (by rw [hh]; exact fun z => nomatch z) hy; omega
      | nd t kvs => have := A.low j _ _ aj (by rw [hh]; exact fun z => nomatch z) hy; omega
    cases i with
    | zero =>
      simp at h hx; subst h
      obtain ⟨e, _⟩ := hn hc
      rw [e] at hx; cases hx
      cases j with
      | zero => rfl
      | succ j => exact absurd rfl (old (by simpa using hy) hc)
    | succ i =>
      cases j with
      | zero =>
        simp at hy; subst hy
        have low := A.low i a l (by simpa using h) hc (by simpa using hx)
        cases av with
        | p d => cases ha
        | sl m =>
          obtain ⟨l', e', h'⟩ := ha
          cases e'
          obtain ⟨v, v1, v2⟩ := hlive m rfl
          have := R1.lv_lt ⟨m, v, v1, v2, h'⟩
          omega
        | nl ds => obtain ⟨e, e2⟩ := hn (fun z => nomatch z); cases e; omega
        | nd t kvs => obtain ⟨e, e2⟩ := hn (fun z => nomatch z); cases e; omega
      | succ j => rw [A.sep i j a l (by simpa using h) hc (by simpa using hx) (by simpa using hy)]
/-- the slot stays live -/
def liveU (σ : VEnv) : U → Prop
  | .sl i => ∃ v, σ[i]? = some (some v) ∧ v.cell ≠ none
  | _ => True
theorem wpd_consD (h : WPE a σ fun u σ1 => liveU σ1 u ∧ WPD ys σ1 fun as σ2 => liveU σ2 u ∧ Q (u.argA :: as) σ2) : WPD (xConsD a ys) σ Q := fun K b n ρ S H => by
  obtain ⟨r, S1, u, σ1, e1, R1, U1, X1, l1, h⟩ := h K b n ρ S H
  have fin : ∀ {S2 : Sto} {x : D}, r.arg S1 = (x, S2) → (S2 = S1 ∨ ∃ c, S2 = S1 ++ [c]) → RepA ρ S2 σ1 u.argA x → (u.argA.newC ≠ none → x = .ref S1.length ∧ S2.length = S1.length + 1) → Rep K b n ρ S2 σ1 → Exv ρ σ1 S1 ρ σ1 S2 → ∃ xs S' as σ', xConsD a ys ρ S = some (xs, S') ∧ Rep K b n ρ S' σ' ∧ RepAs S.length ρ S' σ' as xs ∧ Exv ρ σ S ρ σ' S' ∧ Q as σ' ∧ ∀ (i j : Nat), as[i]? = some (.sl j) → ∃ v, σ'[j]? = some (some v) ∧ v.cell ≠ none := fun {S2 x} ea h2 ha hn R2 X2 => by
    obtain ⟨xs, S3, as, σ3, e3, R3, A3, X3, ⟨l3, q⟩, hs⟩ := h K b n ρ S2 R2
    refine ⟨x :: xs, S3, u.argA :: as, σ3, by simp only [e_ConsD, e1, Option.bind_some, ea, e3, Option.map_some], R3, cons_as R1 X1.len h2 ha hn R3 A3 X3 hs (fun j hj => ?_), (X1.trans X2).trans X3, q, fun i j hj => ?_⟩
    · cases u with
      | sl m => cases hj; exact l1
      | p d => cases hj
      | frl ds => cases hj
      | frd t kvs => cases hj
    · cases i with
      | zero =>
        simp at hj
        cases u with
        | sl m => cases hj; exact l3
        | p d => cases hj
        | frl ds => cases hj
        | frd t kvs => cases hj
      | succ i => exact hs i j (by simpa using hj)
  cases u with
  | p d => cases U1; exact fin rfl (.inl rfl) rfl (fun z => absurd rfl z) R1 (.refl _ _ _)
  | sl i => obtain ⟨l, rfl, hl⟩ := U1; exact fin rfl (.inl rfl) ⟨l, rfl, hl⟩ (fun z => absurd rfl z) R1 (.refl _ _ _)
  | frl ds => cases U1; exact fin rfl (.inl rfl) rfl (fun z => absurd rfl z) R1 (.refl _ _ _)
  | frd t kvs =>
    cases U1
    refine fin rfl (.inr ⟨_, rfl⟩) ⟨S1.length, rfl, by simp, fun q => absurd (R1.lv_lt q) (Nat.lt_irrefl _)⟩ (fun _ => ⟨rfl, by simp⟩) (R1.more _) (ext_more _)
theorem wpd_consB (h : WPE a σ fun u σ1 => liveU σ1 u ∧ WPD ys σ1 fun as σ2 => liveU σ2 u ∧ Q (u.boxA :: as) σ2) : WPD (xConsB a ys) σ Q := fun K b n ρ S H => by
  obtain ⟨r, S1, u, σ1, e1, R1, U1, X1, l1, h⟩ := h K b n ρ S H
  have fin : ∀ {S2 : Sto} {x : D}, r.box S1 = (x, S2) → (S2 = S1 ∨ ∃ c, S2 = S1 ++ [c]) → RepA ρ S2 σ1 u.boxA x → (u.boxA.newC ≠ none → x = .ref S1.length ∧ S2.length = S1.length + 1) → Rep K b n ρ S2 σ1 → Exv ρ σ1 S1 ρ σ1 S2 → ∃ xs S' as σ', xConsB a ys ρ S = some (xs, S') ∧ Rep K b n ρ S' σ' ∧ RepAs S.length ρ S' σ' as xs ∧ Exv ρ σ S ρ σ' S' ∧ Q as σ' ∧ ∀ (i j : Nat), as[i]? = some (.sl j) → ∃ v, σ'[j]? = some (some v) ∧ v.cell ≠ none := fun {S2 x} ea h2 ha hn R2 X2 => by
    obtain ⟨xs, S3, as, σ3, e3, R3, A3, X3, ⟨l3, q⟩, hs⟩ := h K b n ρ S2 R2
    refine ⟨x :: xs, S3, u.boxA :: as, σ3, by simp only [e_ConsB, e1, Option.bind_some, ea, e3, Option.map_some], R3, cons_as R1 X1.len h2 ha hn R3 A3 X3 hs (fun j hj => ?_), (X1.trans X2).trans X3, q, fun i j hj => ?_⟩
    · cases u with
      | sl m => cases hj; exact l1
      | p d => cases hj
      | frl ds => cases hj
      | frd t kvs => cases hj
    · cases i with
      | zero =>
        simp at hj
        cases u with
        | sl m => cases hj; exact l3
        | p d => cases hj
        | frl ds => cases hj
        | frd t kvs => cases hj
      | succ i => exact hs i j (by simpa using hj)
  cases u with
  | p d => cases U1; exact fin rfl (.inl rfl) rfl (fun z => absurd rfl z) R1 (.refl _ _ _)
  | sl i => obtain ⟨l, rfl, hl⟩ := U1; exact fin rfl (.inl rfl) ⟨l, rfl, hl⟩ (fun z => absurd rfl z) R1 (.refl _ _ _)
  | frl ds =>
    cases U1
    refine fin rfl (.inr ⟨_, rfl⟩) ⟨S1.length, rfl, by simp, fun q => absurd (R1.lv_lt q) (Nat.lt_irrefl _)⟩ (fun _ => ⟨rfl, by simp⟩) (R1.more _) (ext_more _)
  | frd t kvs =>
    cases U1
    refine fin rfl (.inr ⟨_, rfl⟩) ⟨S1.length, rfl, by simp, fun q => absurd (R1.lv_lt q) (Nat.lt_irrefl _)⟩ (fun _ => ⟨rfl, by simp⟩) (R1.more _) (ext_more _)
end
/-! ### a, b = .. -/
def AV.val : AV → Option V
  | .p d => some (.p d)
  | .nl ds => some (.l .own ds)
  | .nd t kvs => some (.d .own false t kvs)
  | .sl _ => none
def setAllA : List Nat → List AV → VEnv → Option VEnv
  | [], [], σ => some σ
  | i :: is, a :: as, σ => if Nat.blt i σ.length then (a.val).bind fun v => setAllA is as (σ.set i (some v)) else none
  | _, _, _ => none
theorem setAllA_rep {K : Nat → Option Nat} {b n base : Nat} {S : Sto} (hb : b ≤ base) : ∀ {is : List Nat} {as : List AV} {xs : List D} {ρ : Env} {σ σ' : VEnv}, Rep K b n ρ S σ → RepAs base ρ S σ as xs → setAllA is as σ = some σ' → ∃ ρ', setAllD is xs ρ = some ρ' ∧ Rep K b n ρ' S σ' ∧ ∀ j, Lv ρ' σ' j → Lv ρ σ j ∨ base ≤ j
  | [], [], [], ρ, σ, σ', H, A, e => by cases e; exact ⟨ρ, rfl, H, fun j h => .inl h⟩
  | [], [], _ :: _, ρ, σ, σ', H, A, e => by have := A.len; simp at this
  | [], _ :: _, _, ρ, σ, σ', H, A, e => by cases e
  | _ :: _, [], _, ρ, σ, σ', H, A, e => by cases e
  | _ :: _, _ :: _, [], ρ, σ, σ', H, A, e => by have := A.len; simp at this
  | i :: is, a :: as, x :: xs, ρ, σ, σ', H, A, e => by
    simp only [setAllA] at e
    split at e
    · rename_i hi
      have hi : i < σ.length := by simpa [Nat.blt_eq] using hi
      have hr : i < ρ.length := by rw [H.len]; exact hi
      simp only [Option.bind_eq_some_iff] at e
      obtain ⟨v, hv, e⟩ := e
      obtain ⟨y, y1, y2⟩ := A.at_ 0 a rfl
      simp at y1; subst y1
      have rest : ∀ {v : V}, (∀ (j : Nat), Lv (ρ.set i (some x)) (σ.set i (some v)) j → Lv ρ σ j ∨ x = .ref j) → (∀ l, x = .ref l → a.newC ≠ none) → RepAs base (ρ.set i (some x)) S (σ.set i (some v)) as xs → True := fun _ _ _ => trivial
      have lvs : ∀ {v : V} (j : Nat), Lv (ρ.set i (some x)) (σ.set i (some v)) j → Lv ρ σ j ∨ x = .ref j := fun {v} j ⟨m, w, h1, h2, h3⟩ => by
        rcases set_get h1 with ⟨rfl, q, _⟩ | ⟨ne, q⟩
        · rw [List.getElem?_set_self hr] at h3
          cases h3; exact .inr rfl
        · rw [List.getElem?_set_ne (fun z => ne z.symm)] at h3
          exact .inl ⟨m, w, q, h2, h3⟩
      have tail : ∀ {v : V}, a.val = some v → RepAs base (ρ.set i (some x)) S (σ.set i (some v)) as xs → True := fun _ _ => trivial
      have mk : (∀ m, a ≠ .sl m) → ∀ {v : V}, RepAs base ρ S σ as xs → (∀ (k : Nat) (a' : AV) (l : Nat), as[k]? = some a' → xs[k]? = some (.ref l) → a'.newC ≠ none → x ≠ .ref l) → (∀ (k : Nat) (m : Nat), as[k]? ≠ some (.sl m)) → RepAs base (ρ.set i (some x)) S (σ.set i (some v)) as xs := fun _ {v} B hne hsl => by
        refine ⟨B.len, fun k a' hk => ?_, B.low, B.sep⟩
        obtain ⟨z, z1, z2⟩ := B.at_ k a' hk
        refine ⟨z, z1, ?_⟩
        cases a' with
        | p d => exact z2
        | sl m => exact absurd hk (hsl k m)
        | nl ds =>
          obtain ⟨l, rfl, h1, h2⟩ := z2
          refine ⟨l, rfl, h1, fun q => ?_⟩
          rcases lvs l q with q | q
          · exact h2 q
          · exact hne k _ l hk z1 (fun z => nomatch z) q
        | nd t kvs =>
          obtain ⟨l, rfl, h1, h2⟩ := z2
          refine ⟨l, rfl, h1, fun q => ?_⟩
          rcases lvs l q with q | q
          · exact h2 q
          · exact hne k _ l hk z1 (fun z => nomatch z) q
      have B : RepAs base ρ S σ as xs := ⟨by have := A.len; simpa using this, fun k a' hk => by simpa using A.at_ (k + 1) a' (by simpa using hk), fun k a' l hk hc hx => A.low (k + 1) a' l (by simpa using hk) hc (by simpa using hx), fun k k' a' l hk hc hx hy => by
        have := A.sep (k + 1) (k' + 1) a' l (by simpa using hk) hc (by simpa using hx) (by simpa using hy)
        omega⟩
      have hsl : ∀ (k : Nat) (m : Nat), as[k]? ≠ some (.sl m) := by
        have : ∀ (is : List Nat) (as : List AV) (σ : VEnv) {σ' : VEnv}, setAllA is as σ = some σ' → ∀ (k : Nat) (m : Nat), as[k]? ≠ some (.sl m) := by
          intro is as
          induction as generalizing is with
          | nil => intro σ σ' _ k m h; simp at h
          | cons a as ih =>
            intro σ σ' e k m h
            cases is with
            | nil => cases e
            | cons i is =>
              simp only [setAllA] at e
              split at e
              · simp only [Option.bind_eq_some_iff] at e
                obtain ⟨v, hv, e⟩ := e
                cases k with
                | zero => simp at h; subst h; cases hv
                | succ k => exact ih is _ e k m (by simpa using h)
              · cases e
        exact this is as _ e
      have hne : ∀ (k : Nat) (a' : AV) (l : Nat), as[k]? = some a' → xs[k]? = some (.ref l) → a'.newC ≠ none → x ≠ .ref l := fun k a' l hk hx hc q => by
        have := A.sep (k + 1) 0 a' l (by simpa using hk) hc (by simpa using hx) (by simp [q])
        omega
      cases a with
      | sl m => cases hv
      | p d =>
        cases hv
        cases y2
        obtain ⟨ρ', z1, z2, z3⟩ := setAllA_rep hb (H.set_p d hi) (mk (fun m q => nomatch q) B hne hsl) e
        refine ⟨ρ', z1, z2, fun j q => ?_⟩
        rcases z3 j q with q | q
        · rcases lvs j q with q | q
          · exact .inl q
          · cases q
        · exact .inr q
      | nl ds =>
        cases hv
        have lw : ∀ l, x = .ref l → base ≤ l := fun l q => A.low 0 _ l rfl (fun z => nomatch z) (by simp [q])
        obtain ⟨l, rfl, h1, h2⟩ := y2
        obtain ⟨ρ', z1, z2, z3⟩ := setAllA_rep hb (H.set_c (v := .l .own ds) hi rfl rfl h1 (Nat.le_trans hb (lw l rfl)) h2) (mk (fun m q => nomatch q) B hne hsl) e
        refine ⟨ρ', z1, z2, fun j q => ?_⟩
        rcases z3 j q with q | q
        · rcases lvs j q with q | q
          · exact .inl q
          · exact .inr (lw j q)
        · exact .inr q
      | nd t kvs =>
        cases hv
        have lw : ∀ l, x = .ref l → base ≤ l := fun l q => A.low 0 _ l rfl (fun z => nomatch z) (by simp [q])
        obtain ⟨l, rfl, h1, h2⟩ := y2
        obtain ⟨ρ', z1, z2, z3⟩ := setAllA_rep hb (H.set_c (v := .d .own false t kvs) hi rfl rfl h1 (Nat.le_trans hb (lw l rfl)) h2) (mk (fun m q => nomatch q) B hne hsl) e
        refine ⟨ρ', z1, z2, fun j q => ?_⟩
        rcases z3 j q with q | q
        · rcases lvs j q with q | q
          · exact .inl q
          · exact .inr (lw j q)
        · exact .inr q
    · cases e
theorem wps_par {is : List Nat} {ys : XD} {σ : VEnv} {Q : VFl → Prop} (h : WPD ys σ fun as σ1 => ∃ σ2, setAllA is as σ1 = some σ2 ∧ Q (.nx σ2)) : WPS (xPar is ys) σ Q := fun K b n ρ S H => by
  obtain ⟨xs, S1, as, σ1, e, R1, A1, X1, ⟨σ2, h2, q⟩, _⟩ := h K b n ρ S H
  obtain ⟨ρ2, z1, z2, z3⟩ := setAllA_rep (Nat.le_trans H.bn H.nS) R1 A1 h2
  refine ⟨.nx ρ2, S1, .nx σ2, by simp [e, z1], ⟨ρ2, rfl, z2, X1.len, fun j hj hn => ?_⟩, q⟩
  obtain ⟨y1, y2⟩ := X1.frm j hj hn
  refine ⟨y1, fun q => ?_⟩
  rcases z3 j q with q | q
  · exact y2 q
  · omega
end XL
end
section
set_option Elab.async false
set_option linter.all false
set_option autoImplicit false
set_option maxRecDepth 100000
set_option maxHeartbeats 1000000
namespace XL
/-! ### calls -/
structure Args (S : Sto) (xs : List D) (vs : List V) : Prop where
  len : xs.length = vs.length
  dat : ∀ (i : Nat) (d : P), vs[i]? = some (.p d) → xs[i]? = some (.p d)
  cel : ∀ (i : Nat) (v : V) (c : Cell), vs[i]? = some v → v.cell = some c → ∃ l, xs[i]? = some (.ref l) ∧ S[l]? = some c
  sep : ∀ (i j l : Nat), xs[i]? = some (.ref l) → xs[j]? = some (.ref l) → i = j
def RunsF (f : XF) (vs : List V) (r : R) (ch : List (Nat × V)) : Prop := ∀ (S : Sto) (xs : List D), Args S xs vs → ∃ S', f xs S = some (r, S') ∧ S'.length = S.length ∧
  (∀ (i : Nat) (v : V) (c : Cell) (l : Nat), ch.lookup i = some v → v.cell = some c → xs[i]? = some (.ref l) → S'[l]? = some c) ∧
  ∀ (j : Nat), j < S.length → (∀ (i : Nat), xs[i]? = some (.ref j) → ch.lookup i = none) → S'[j]? = S[j]?
def argVs (σ : VEnv) : List AV → Option (List V)
  | [] => some []
  | .p d :: as => (argVs σ as).map fun vs => .p d :: vs
  | .nl ds :: as => (argVs σ as).map fun vs => .l .gst ds :: vs
  | .nd t kvs :: as => (argVs σ as).map fun vs => .d .gst false t kvs :: vs
  | .sl i :: as => match σ[i]? with
    | some (some v) => (argVs σ as).map fun vs => v.withTag .gst :: vs
    | _ => none
def noTwin : List AV → Bool
  | [] => true
  | .sl i :: as => (as.all fun a => match a with | .sl j => !Nat.beq i j | _ => true) && noTwin as
  | _ :: as => noTwin as
def putGo (ch : List (Nat × V)) : Nat → List AV → VEnv → Option VEnv
  | _, [], σ => some σ
  | i, .sl j :: as, σ => match ch.lookup i with
    | none => putGo ch (i + 1) as σ
    | some v => match v.cell, σ[j]? with
      | some _, some (some w) => match w.tag with
        | .lck => none
        | _ => putGo ch (i + 1) as (σ.set j (some (v.withTag w.tag)))
      | _, _ => none
  | i, _ :: as, σ => putGo ch (i + 1) as σ
def ArgIs (σ : VEnv) (v : V) : AV → Prop
  | .p d => v = .p d
  | .nl ds => v = .l .gst ds
  | .nd t kvs => v = .d .gst false t kvs
  | .sl j => ∃ w, σ[j]? = some (some w) ∧ v = w.withTag .gst
theorem argVs_get {σ : VEnv} : ∀ {as : List AV} {vs : List V}, argVs σ as = some vs → vs.length = as.length ∧ ∀ (i : Nat) (a : AV), as[i]? = some a → ∃ v, vs[i]? = some v ∧ ArgIs σ v a
  | [], vs, h => by cases h; exact ⟨rfl, fun i a h => by simp at h⟩
  | a :: as, vs, h => by
    have key : ∀ {v : V}, (argVs σ as).map (fun vs => v :: vs) = some vs → ArgIs σ v a → vs.length = (a :: as).length ∧ ∀ (i : Nat) (a' : AV), (a :: as)[i]? = some a' → ∃ v, vs[i]? = some v ∧ ArgIs σ v a' := fun {v} h hv => by
      simp only [Option.map_eq_some_iff] at h
      obtain ⟨vs', h1, rfl⟩ := h
      obtain ⟨l, g⟩ := argVs_get h1
      refine ⟨by simp [l], fun i a' hi => ?_⟩
      cases i with
      | zero => simp at hi; subst hi; exact ⟨v, rfl, hv⟩
      | succ i => simpa using g i a' (by simpa using hi)
    cases a with
    | p d => exact key h rfl
    | nl ds => exact key h rfl
    | nd t kvs => exact key h rfl
    | sl j =>
      simp only [argVs] at h
      split at h
      · rename_i w e; exact key h ⟨w, e, rfl⟩
      · cases h
theorem noTwin_sep : ∀ {as : List AV}, noTwin as = true → ∀ (i j k : Nat), as[i]? = some (.sl k) → as[j]? = some (.sl k) → i = j
  | [], _, i, j, k, h, _ => by simp at h
  | a :: as, hn, i, j, k, h1, h2 => by
    have tl : noTwin as = true := by
      cases a with
      | sl m => simp only [noTwin, Bool.and_eq_true] at hn; exact hn.2
      | p _ => exact hn
      | nl _ => exact hn
      | nd _ _ => exact hn
    have hd : ∀ {j : Nat}, a = .sl k → as[j]? = some (.sl k) → False := fun {j} e h => by
      subst e
      simp only [noTwin, Bool.and_eq_true, List.all_eq_true] at hn
      have := hn.1 _ (List.mem_of_getElem? h)
      simp at this
    cases i with
    | zero =>
      simp at h1
      cases j with
      | zero => rfl
      | succ j => exact (hd h1 (by simpa using h2)).elim
    | succ i =>
      cases j with
      | zero => simp at h2; exact (hd h2 (by simpa using h1)).elim
      | succ j => rw [noTwin_sep tl i j k (by simpa using h1) (by simpa using h2)]
theorem putGo_get {ch : List (Nat × V)} : ∀ {as : List AV} {base : Nat} {σ σ' : VEnv}, noTwin as = true → putGo ch base as σ = some σ' → σ'.length = σ.length ∧ ∀ (m : Nat) (w : V), σ'[m]? = some (some w) →
    (∃ (i : Nat) (v w0 : V), as[i]? = some (.sl m) ∧ ch.lookup (base + i) = some v ∧ v.cell ≠ none ∧ σ[m]? = some (some w0) ∧ w0.tag ≠ .lck ∧ w = v.withTag w0.tag) ∨ (σ[m]? = some (some w) ∧ ∀ (i : Nat), as[i]? = some (.sl m) → ch.lookup (base + i) = none)
  | [], base, σ, σ', _, h => by cases h; exact ⟨rfl, fun m w h => .inr ⟨h, fun i q => by simp at q⟩⟩
  | a :: as, base, σ, σ', hn, h => by
    have tl : noTwin as = true := by
      cases a with
      | sl m => simp only [noTwin, Bool.and_eq_true] at hn; exact hn.2
      | p _ => exact hn
      | nl _ => exact hn
      | nd _ _ => exact hn
    have skip : putGo ch (base + 1) as σ = some σ' → (∀ m, a = .sl m → ch.lookup base = none) → σ'.length = σ.length ∧ ∀ (m : Nat) (w : V), σ'[m]? = some (some w) →
        (∃ (i : Nat) (v w0 : V), (a :: as)[i]? = some (.sl m) ∧ ch.lookup (base + i) = some v ∧ v.cell ≠ none ∧ σ[m]? = some (some w0) ∧ w0.tag ≠ .lck ∧ w = v.withTag w0.tag) ∨ (σ[m]? = some (some w) ∧ ∀ (i : Nat), (a :: as)[i]? = some (.sl m) → ch.lookup (base + i) = none) := fun h ha => by
      obtain ⟨l, g⟩ := putGo_get tl h
      refine ⟨l, fun m w hm => ?_⟩
      rcases g m w hm with ⟨i, v, w0, b1, b2, b3⟩ | ⟨b1, b2⟩
      · exact .inl ⟨i + 1, v, w0, by simpa using b1, by rw [← b2]; congr 1; omega, b3⟩
      · refine .inr ⟨b1, fun i hi => ?_⟩
        cases i with
        | zero => simp at hi; exact ha m hi
        | succ i => rw [← b2 i (by simpa using hi)]; congr 1; omega
    cases a with
    | p d => exact skip h (fun m q => nomatch q)
    | nl d => exact skip h (fun m q => nomatch q)
    | nd t d => exact skip h (fun m q => nomatch q)
    | sl j =>
      simp only [putGo] at h
      split at h
      · rename_i e; exact skip h (fun _ _ => e)
      · rename_i v e
        split at h
        · rename_i c w0 hc hw
          have ht : w0.tag ≠ .lck := fun q => by rw [q] at h; cases h
          have h' : putGo ch (base + 1) as (σ.set j (some (v.withTag w0.tag))) = some σ' := by
            cases hq : w0.tag with
            | lck => exact absurd hq ht
            | own => rw [hq] at h; exact h
            | gst => rw [hq] at h; exact h
          obtain ⟨l, g⟩ := putGo_get tl h'
          have hvc : v.cell ≠ none := by rw [hc]; exact fun z => nomatch z
          have nj : ∀ (i : Nat), as[i]? ≠ some (.sl j) := fun i q => by
            have := noTwin_sep hn (i + 1) 0 j (by simpa using q) (by simp)
            omega
          refine ⟨by rw [l]; simp, fun m w hm => ?_⟩
          rcases g m w hm with ⟨i, v', w1, b1, b2, b3, b4, b5⟩ | ⟨b1, b2⟩
          · have ne : m ≠ j := fun q => by subst q; exact nj i b1
            rcases set_get b4 with ⟨q, _⟩ | ⟨_, q⟩
            · exact absurd q ne
            · exact .inl ⟨i + 1, v', w1, by simpa using b1, by rw [← b2]; congr 1; omega, b3, q, b5⟩
          · rcases set_get b1 with ⟨rfl, q, _⟩ | ⟨ne, q⟩
            · cases q
              exact .inl ⟨0, v, w0, rfl, e, hvc, hw, ht, rfl⟩
            · refine .inr ⟨q, fun i hi => ?_⟩
              cases i with
              | zero => simp at hi; exact absurd hi.symm ne
              | succ i => rw [← b2 i (by simpa using hi)]; congr 1; omega
        · cases h
theorem wpe_def {f : XF} {ys : XD} {σ : VEnv} {Q : U → VEnv → Prop} (h : WPD ys σ fun as σ1 => noTwin as = true ∧ ∃ vs, argVs σ1 as = some vs ∧ ∃ r ch, RunsF f vs r ch ∧ ∃ σ2, putGo ch 0 as σ1 = some σ2 ∧ QR Q σ2 r) : WPE (xDef f ys) σ Q := fun K b n ρ S H => by
  obtain ⟨xs, S1, as, σ1, e1, R1, A1, X1, ⟨nt, vs, hvs, r, ch, hf, σ2, hp, hQ⟩, hlive⟩ := h K b n ρ S H
  obtain ⟨hl, hg⟩ := argVs_get hvs
  obtain ⟨pl, pg⟩ := putGo_get nt hp
  have atx : ∀ {i : Nat} {x : D}, xs[i]? = some x → ∃ a, as[i]? = some a ∧ RepA ρ S1 σ1 a x := fun {i x} hx => by
    have hi : i < as.length := by rw [← A1.len]; exact (List.getElem?_eq_some_iff.mp hx).1
    obtain ⟨y, y1, y2⟩ := A1.at_ i as[i] (List.getElem?_eq_getElem hi)
    rw [hx] at y1; cases y1
    exact ⟨_, List.getElem?_eq_getElem hi, y2⟩
  have slr : ∀ {i m l : Nat}, as[i]? = some (.sl m) → ρ[m]? = some (some (.ref l)) → xs[i]? = some (.ref l) := fun {i m l} ha hr => by
    obtain ⟨y, y1, y2⟩ := A1.at_ i _ ha
    obtain ⟨l', rfl, h'⟩ := y2
    rw [hr] at h'; cases h'; exact y1
  have args : Args S1 xs vs := by
    refine ⟨by rw [A1.len, hl], fun i d hd => ?_, fun i v c hv hc => ?_, fun i j l hi hj => ?_⟩
    · have hi : i < as.length := by rw [← hl]; exact (List.getElem?_eq_some_iff.mp hd).1
      have ha := List.getElem?_eq_getElem hi
      obtain ⟨v, v1, v2⟩ := hg i _ ha
      rw [hd] at v1; cases v1
      obtain ⟨x, x1, x2⟩ := A1.at_ i _ ha
      cases hh : as[i] with
      | p d' => rw [hh] at v2 x2; cases v2; cases x2; exact x1
      | nl ds => rw [hh] at v2; cases v2
      | nd t kvs => rw [hh] at v2; cases v2
      | sl m =>
        rw [hh] at v2 ha
        obtain ⟨w, w1, w2⟩ := v2
        obtain ⟨w', q1, q2⟩ := hlive i m ha
        rw [w1] at q1; cases q1
        cases w with
        | p d'' => exact absurd rfl q2
        | l _ _ => cases w2
        | d _ _ _ _ => cases w2
    · have hi : i < as.length := by rw [← hl]; exact (List.getElem?_eq_some_iff.mp hv).1
      have ha := List.getElem?_eq_getElem hi
      obtain ⟨v', v1, v2⟩ := hg i _ ha
      rw [hv] at v1; cases v1
      obtain ⟨x, x1, x2⟩ := A1.at_ i _ ha
      cases hh : as[i] with
      | p d' => rw [hh] at v2; cases v2; cases hc
      | nl ds => rw [hh] at v2 x2; cases v2; cases hc; obtain ⟨l, rfl, h1, _⟩ := x2; exact ⟨l, x1, h1⟩
      | nd t kvs => rw [hh] at v2 x2; cases v2; cases hc; obtain ⟨l, rfl, h1, _⟩ := x2; exact ⟨l, x1, h1⟩
      | sl m =>
        rw [hh] at v2 x2
        obtain ⟨w, w1, rfl⟩ := v2
        obtain ⟨l, rfl, hr⟩ := x2
        rw [cell_withTag] at hc
        obtain ⟨k, k1, k2, _⟩ := R1.cel m w c w1 hc
        rw [hr] at k1; cases k1
        exact ⟨l, x1, k2⟩
    · obtain ⟨a, a1, a2⟩ := atx hi
      obtain ⟨a', b1, b2⟩ := atx hj
      by_cases c1 : a.newC = none
      · by_cases c2 : a'.newC = none
        · cases a with
          | p d => cases a2
          | nl ds => cases c1
          | nd t kvs => cases c1
          | sl m =>
            cases a' with
            | p d => cases b2
            | nl ds => cases c2
            | nd t kvs => cases c2
            | sl m' =>
              obtain ⟨_, e, hm⟩ := a2; cases e
              obtain ⟨_, e, hm'⟩ := b2; cases e
              obtain ⟨v, v1, v2⟩ := hlive i m a1
              obtain ⟨v', w1, w2⟩ := hlive j m' b1
              have := R1.inj m m' v v' l v1 w1 v2 w2 hm hm'
              subst this
              exact noTwin_sep nt i j m a1 b1
        · exact (A1.sep j i a' l b1 c2 hj hi).symm
      · exact A1.sep i j a l a1 c1 hi hj
  obtain ⟨S2, e2, len2, chg, keep⟩ := hf S1 xs args
  obtain ⟨u, hu, hQ⟩ := hQ.get ρ
  have lvb : ∀ j, Lv ρ σ2 j → Lv ρ σ1 j := fun j ⟨m, w, h1, h2, h3⟩ => by
    rcases pg m w h1 with ⟨i, v, w0, b1, b2, b3, b4, b5, b6⟩ | ⟨b1, _⟩
    · obtain ⟨w', q1, q2⟩ := hlive i m b1
      exact ⟨m, w', q1, q2, h3⟩
    · exact ⟨m, w, b1, h2, h3⟩
  refine ⟨r, S2, u, σ2, by simp [e1, e2], ⟨R1.hK, R1.bn, by rw [len2]; exact R1.nS, by rw [pl]; exact R1.len, fun m d hm => ?_, fun m w c hm hc => ?_, fun i j v w k e1' e2' c1 c2 r1 r2 => ?_⟩, hu, ⟨by have := X1.len; omega, fun j hj hn => ⟨(keep j (Nat.lt_of_lt_of_le hj X1.len) fun i hx => ?_).trans (X1.frm j hj hn).1, fun q => (X1.frm j hj hn).2 (lvb j q)⟩⟩, hQ⟩
  · rcases pg m _ hm with ⟨i, v, w0, b1, b2, b3, b4, b5, b6⟩ | ⟨b1, _⟩
    · cases v with
      | p d' => exact absurd rfl b3
      | l _ _ => cases b6
      | d _ _ _ _ => cases b6
    · exact R1.dat m d b1
  · rcases pg m w hm with ⟨i, v, w0, b1, b2, b3, b4, b5, rfl⟩ | ⟨b1, b2⟩
    · obtain ⟨w', q1, q2⟩ := hlive i m b1
      rw [b4] at q1; cases q1
      cases hc0 : w0.cell with
      | none => exact absurd hc0 q2
      | some c0 =>
        obtain ⟨k, k1, k2, k3, k4⟩ := R1.cel m w0 c0 b4 hc0
        rw [cell_withTag] at hc
        rw [Nat.zero_add] at b2
        have tg : (v.withTag w0.tag).tag = w0.tag := tag_withTag b3
        exact ⟨k, k1, chg i v c k b2 hc (slr b1 k1), fun z => k3 (tg ▸ z), fun z => k4 (tg ▸ z)⟩
    · obtain ⟨k, k1, k2, k3⟩ := R1.cel m w c b1 hc
      refine ⟨k, k1, ?_, k3⟩
      rw [keep k (List.getElem?_eq_some_iff.mp k2).1 fun i hx => ?_]; · exact k2
      obtain ⟨a, a1, a2⟩ := atx hx
      have lvk : Lv ρ σ1 k := ⟨m, w, b1, (by rw [hc]; exact fun z => nomatch z), k1⟩
      cases a with
      | p d => cases a2
      | nl ds => obtain ⟨_, e, _, h'⟩ := a2; cases e; exact absurd lvk h'
      | nd t kvs => obtain ⟨_, e, _, h'⟩ := a2; cases e; exact absurd lvk h'
      | sl m' =>
        obtain ⟨_, e, h'⟩ := a2; cases e
        obtain ⟨v', w1, w2⟩ := hlive i m' a1
        have := R1.inj m' m v' w k w1 b1 w2 (by rw [hc]; exact fun z => nomatch z) h' k1
        subst this
        have := b2 i a1
        rwa [Nat.zero_add] at this
  · have f : ∀ {x : Nat} {y : V}, σ2[x]? = some (some y) → y.cell ≠ none → ∃ z, σ1[x]? = some (some z) ∧ z.cell ≠ none := fun {x y} e c => by
      rcases pg x y e with ⟨i, v, w0, b1, b2, b3, b4, b5, b6⟩ | ⟨b1, _⟩
      · exact hlive i x b1
      · exact ⟨y, b1, c⟩
    obtain ⟨z1, a1, a2⟩ := f e1' c1
    obtain ⟨z2, b1, b2⟩ := f e2' c2
    exact R1.inj i j z1 z2 k a1 b1 a2 b2 r1 r2
  · obtain ⟨a, a1, a2⟩ := atx hx
    cases hlk : ch.lookup i with
    | none => rfl
    | some v =>
      exfalso
      cases a with
      | p d => cases a2
      | nl ds => have := A1.low i _ j a1 (fun z => nomatch z) hx; omega
      | nd t kvs => have := A1.low i _ j a1 (fun z => nomatch z) hx; omega
      | sl m =>
        obtain ⟨_, e, h'⟩ := a2; cases e
        obtain ⟨v', w1, w2⟩ := hlive i m a1
        exact (X1.frm j hj hn).2 ⟨m, v', w1, w2, h'⟩
/-! ### defs -/
def V.isG : V → Bool
  | .p _ => true
  | .l .gst _ => true
  | .d .gst _ _ _ => true
  | _ => false
def V.isC : V → Bool
  | .l .gst _ => true
  | .d .gst _ _ _ => true
  | _ => false
theorem isC_tag {v : V} (h : v.isC = true) : v.tag = .gst := by
  cases v with
  | p _ => cases h
  | l g _ => cases g <;> first | rfl | cases h
  | d g _ _ _ => cases g <;> first | rfl | cases h
def resR (σ : VEnv) : U → Option R
  | .p d => some (.p d)
  | .frl ds => some (.frl ds)
  | .frd t kvs => some (.frd t kvs)
  | .sl i => match σ[i]? with
    | some (some (.l .own ds)) => some (.frl ds)
    | some (some (.d .own false t kvs)) => some (.frd t kvs)
    | _ => none
/-- what the arguments' cells hold at the end -/
def keptGo (ch : List (Nat × V)) : Nat → List V → VEnv → Prop
  | _, [], _ => True
  | i, .p _ :: vs, _ :: σ => keptGo ch (i + 1) vs σ
  | i, v :: vs, o :: σ => o = some ((ch.lookup i).getD v) ∧ ((ch.lookup i).getD v).isC = true ∧ keptGo ch (i + 1) vs σ
  | _, _ :: _, [] => False
theorem keptGo_get {ch : List (Nat × V)} : ∀ {vs : List V} {base : Nat} {σ : VEnv}, keptGo ch base vs σ → ∀ (i : Nat) (v : V), vs[i]? = some v → v.cell ≠ none → σ[i]? = some (some ((ch.lookup (base + i)).getD v)) ∧ ((ch.lookup (base + i)).getD v).isC = true
  | [], base, σ, h, i, v, hv, _ => by simp at hv
  | w :: vs, base, [], h, i, v, hv, hc => by
    cases w <;> exact h.elim
  | w :: vs, base, o :: σ, h, i, v, hv, hc => by
    have tl : keptGo ch (base + 1) vs σ := by
      cases w with
      | p _ => exact h
      | l _ _ => exact h.2.2
      | d _ _ _ _ => exact h.2.2
    cases i with
    | zero =>
      simp at hv; subst hv
      cases w with
      | p _ => exact absurd rfl hc
      | l _ _ => exact ⟨by simp only [List.getElem?_cons_zero, h.1, Nat.add_zero], h.2.1⟩
      | d _ _ _ _ => exact ⟨by simp only [List.getElem?_cons_zero, h.1, Nat.add_zero], h.2.1⟩
    | succ i =>
      have := keptGo_get tl i v (by simpa using hv) hc
      rw [show base + 1 + i = base + (i + 1) by omega] at this
      simpa using this
def EndF (vs : List V) (r : R) (ch : List (Nat × V)) : VFl → Prop
  | .nx σ => r = .p .non ∧ keptGo ch 0 vs σ
  | .rt u σ => resR σ u = some r ∧ keptGo ch 0 vs σ
  | _ => False
theorem isG_tag {v : V} (h : v.isG = true) (hc : v.cell ≠ none) : v.tag = .gst := by
  cases v with
  | p _ => exact absurd rfl hc
  | l g _ => cases g <;> first | rfl | cases h
  | d g _ _ _ => cases g <;> first | rfl | cases h
/-- what a def does, where its result is not told alone -/
def RunsQ (f : XF) (vs : List V) (Φ : R → List (Nat × V) → Prop) : Prop := ∀ (S : Sto) (xs : List D), Args S xs vs → ∃ r ch S', Φ r ch ∧ f xs S = some (r, S') ∧ S'.length = S.length ∧
  (∀ (i : Nat) (v : V) (c : Cell) (l : Nat), ch.lookup i = some v → v.cell = some c → xs[i]? = some (.ref l) → S'[l]? = some c) ∧
  ∀ (j : Nat), j < S.length → (∀ (i : Nat), xs[i]? = some (.ref j) → ch.lookup i = none) → S'[j]? = S[j]?
theorem runs_mkQ {k n0 : Nat} {s : XS} {vs : List V} {Φ : R → List (Nat × V) → Prop} (hk : vs.length = k) (hg : vs.all V.isG = true) (h : WPS s (vs.map some ++ List.replicate (n0 - k) none) fun fl => ∃ r ch, Φ r ch ∧ EndF vs r ch fl) : RunsQ (mkF k n0 s) vs Φ := fun S xs A => by
  have hxl : xs.length = k := by rw [A.len, hk]
  have hG : ∀ {i : Nat} {v : V}, vs[i]? = some v → v.isG = true := fun {i v} e => List.all_eq_true.mp hg v (List.mem_of_getElem? e)
  have σget : ∀ {i : Nat} {v : V}, (vs.map some ++ List.replicate (n0 - k) none)[i]? = some (some v) → vs[i]? = some v := fun {i v} e => by
    by_cases c : i < vs.length
    · rw [List.getElem?_append_left (by simpa using c), List.getElem?_map] at e
      cases h' : vs[i]? with
      | none => rw [h'] at e; cases e
      | some w => rw [h'] at e; simp at e; rw [e]
    · rw [List.getElem?_append_right (by simpa using c), List.getElem?_replicate] at e
      split at e <;> cases e
  have ρget : ∀ {i : Nat} {x : D}, xs[i]? = some x → (startE n0 xs)[i]? = some (some x) := fun {i x} e => by
    unfold startE
    rw [List.getElem?_append_left (by simpa using (List.getElem?_eq_some_iff.mp e).1), List.getElem?_map, e]; rfl
  have ρback : ∀ {i : Nat} {x : D}, (startE n0 xs)[i]? = some (some x) → xs[i]? = some x := fun {i x} e => by
    unfold startE at e
    by_cases c : i < xs.length
    · rw [List.getElem?_append_left (by simpa using c), List.getElem?_map] at e
      cases h' : xs[i]? with
      | none => rw [h'] at e; cases e
      | some w => rw [h'] at e; simp at e; rw [e]
    · rw [List.getElem?_append_right (by simpa using c), List.getElem?_replicate] at e
      split at e <;> cases e
  let K : Nat → Option Nat := fun i => match xs[i]? with
    | some (.ref l) => some l
    | _ => none
  have hKe : ∀ {i l : Nat}, xs[i]? = some (.ref l) → K i = some l := fun {i l} e => by simp only [K, e]
  have refc : ∀ {i l : Nat}, xs[i]? = some (.ref l) → ∃ v c, vs[i]? = some v ∧ v.cell = some c ∧ S[l]? = some c := fun {i l} e => by
    have hi : i < vs.length := by rw [← A.len]; exact (List.getElem?_eq_some_iff.mp e).1
    have hv := List.getElem?_eq_getElem hi
    cases hc : vs[i].cell with
    | none =>
      cases hh : vs[i] with
      | p d => rw [hh] at hv; have := A.dat i d hv; rw [e] at this; cases this
      | l _ _ => rw [hh] at hc; cases hc
      | d _ _ _ _ => rw [hh] at hc; cases hc
    | some c =>
      obtain ⟨l', z1, z2⟩ := A.cel i _ c hv hc
      rw [e] at z1; cases z1
      exact ⟨_, c, hv, hc, z2⟩
  have R0 : Rep K S.length S.length (startE n0 xs) S (vs.map some ++ List.replicate (n0 - k) none) := by
    refine ⟨fun i l e => ?_, Nat.le_refl _, Nat.le_refl _, by simp [startE, hxl, hk], fun i d e => ρget (A.dat i d (σget e)), fun i v c e hc => ?_, fun i j v w l e1 e2 c1 c2 r1 r2 => A.sep i j l (ρback r1) (ρback r2)⟩
    · simp only [K] at e
      split at e
      · rename_i l' e'
        cases e
        obtain ⟨v, c, _, _, z⟩ := refc e'
        exact (List.getElem?_eq_some_iff.mp z).1
      · cases e
    · obtain ⟨l, z1, z2⟩ := A.cel i v c (σget e) hc
      have tg := isG_tag (hG (σget e)) (by rw [hc]; exact fun z => nomatch z)
      exact ⟨l, ρget z1, z2, fun z => by (rw [tg] at z; cases z), fun _ => hKe z1⟩
  obtain ⟨fl, S', vf, e, o, r, ch, hΦ, q⟩ := h K S.length S.length (startE n0 xs) S R0
  refine ⟨r, ch, ?_⟩
  have fin : ∀ {ρ' : Env} {σ' : VEnv}, Rep K S.length S.length ρ' S' σ' → Exv (startE n0 xs) (vs.map some ++ List.replicate (n0 - k) none) S ρ' σ' S' → keptGo ch 0 vs σ' → (S'.take S.length).length = S.length ∧
      (∀ (i : Nat) (v : V) (c : Cell) (l : Nat), ch.lookup i = some v → v.cell = some c → xs[i]? = some (.ref l) → (S'.take S.length)[l]? = some c) ∧ ∀ (j : Nat), j < S.length → (∀ (i : Nat), xs[i]? = some (.ref j) → ch.lookup i = none) → (S'.take S.length)[j]? = S[j]? := fun {ρ' σ'} R X kp => by
    have hl := X.len
    have low : ∀ j, j < S.length → (S'.take S.length)[j]? = S'[j]? := fun j hj => List.getElem?_take_of_lt hj
    have arg : ∀ {i l : Nat}, xs[i]? = some (.ref l) → ∃ v, vs[i]? = some v ∧ S[l]? = v.cell ∧ S'[l]? = ((ch.lookup i).getD v).cell := fun {i l} hx => by
      obtain ⟨v, c, h1, h2, h3⟩ := refc hx
      obtain ⟨g1, g2⟩ := keptGo_get kp i v h1 (by rw [h2]; exact fun z => nomatch z)
      rw [Nat.zero_add] at g1 g2
      refine ⟨v, h1, h3.trans h2.symm, ?_⟩
      cases hc : ((ch.lookup i).getD v).cell with
      | none =>
        exfalso
        cases hh : (ch.lookup i).getD v with
        | p d => rw [hh] at g2; cases g2
        | l _ _ => rw [hh] at hc; cases hc
        | d _ _ _ _ => rw [hh] at hc; cases hc
      | some c' =>
        obtain ⟨k', z1, z2, _, z4⟩ := R.cel i _ c' g1 hc
        have tg := isC_tag g2
        have := z4 (by rw [tg]; exact fun z => nomatch z)
        rw [hKe hx] at this; cases this
        exact z2
    refine ⟨by rw [List.length_take]; omega, fun i v c l h1 h2 h3 => ?_, fun j hj hn => ?_⟩
    · obtain ⟨v', y1, y2, y3⟩ := arg h3
      rw [h1] at y3
      have hlt : l < S.length := by
        obtain ⟨_, _, _, _, z⟩ := refc h3
        exact (List.getElem?_eq_some_iff.mp z).1
      rw [low l hlt, y3]; exact h2
    · rw [low j hj]
      by_cases c : ∃ (i : Nat), xs[i]? = some (.ref j)
      · obtain ⟨i, hx⟩ := c
        obtain ⟨v', y1, y2, y3⟩ := arg hx
        rw [hn i hx] at y3
        rw [y3, y2]; rfl
      · refine (X.frm j hj fun ⟨i, v, h1, h2, h3⟩ => c ⟨i, ρback h3⟩).1
  have un : mkF k n0 s xs S = (s (startE n0 xs) S).bind fun x => match x.1 with
      | .nx _ => finish S.length (.p .non) x.2
      | .rt r => finish S.length r x.2
      | _ => none := by unfold mkF; rw [if_pos hxl] <;> rfl
  cases vf with
  | nx σ' =>
    obtain ⟨ρ', rfl, R, X⟩ := o
    obtain ⟨rfl, kp⟩ := q
    exact ⟨S'.take S.length, hΦ, by rw [un, e]; rfl, fin R X kp⟩
  | rt u σ' =>
    obtain ⟨ρ', r', rfl, R, U', X⟩ := o
    obtain ⟨hr, kp⟩ := q
    refine ⟨S'.take S.length, hΦ, ?_, fin R X kp⟩
    rw [un, e]
    simp only [Option.bind_some]
    cases u with
    | p d => cases U'; cases hr; rfl
    | frl ds => cases U'; cases hr; rfl
    | frd t kvs => cases U'; cases hr; rfl
    | sl i =>
      obtain ⟨l, rfl, hl⟩ := U'
      simp only [resR] at hr
      split at hr
      · rename_i ds c
        cases hr
        obtain ⟨k', z1, z2, z3, _⟩ := R.cel i _ _ c rfl
        rw [hl] at z1; cases z1
        have := z3 rfl
        simp only [finish]
        rw [if_neg (by omega), z2]
      · rename_i t kvs c
        cases hr
        obtain ⟨k', z1, z2, z3, _⟩ := R.cel i _ _ c rfl
        rw [hl] at z1; cases z1
        have := z3 rfl
        simp only [finish]
        rw [if_neg (by omega), z2]
      · cases hr
  | bk σ' => exact q.elim
  | ct σ' => exact q.elim
theorem runs_mk {k n0 : Nat} {s : XS} {vs : List V} {r : R} {ch : List (Nat × V)} (hk : vs.length = k) (hg : vs.all V.isG = true) (h : WPS s (vs.map some ++ List.replicate (n0 - k) none) (EndF vs r ch)) : RunsF (mkF k n0 s) vs r ch := fun S xs A => by
  obtain ⟨r', ch', S', ⟨rfl, rfl⟩, q⟩ := runs_mkQ (Φ := fun r' ch' => r' = r ∧ ch' = ch) hk hg (h.mono fun f q => ⟨r, ch, ⟨rfl, rfl⟩, q⟩) S xs A
  exact ⟨S', q⟩
end XL
end
section
set_option Elab.async false
set_option linter.all false
set_option autoImplicit false
set_option maxRecDepth 100000
set_option maxHeartbeats 1000000
namespace XL
theorem runs_pure {f : XF} {ps : List P} {r : R} (h : ∀ S, f (ps.map D.p) S = some (r, S)) : RunsF f (ps.map V.p) r [] := fun S xs A => by
  have : xs = ps.map D.p := by
    apply List.ext_getElem?
    intro i
    by_cases c : i < ps.length
    · rw [A.dat i ps[i] (by simp [c]), List.getElem?_map, List.getElem?_eq_getElem c]; rfl
    · rw [List.getElem?_eq_none (by rw [A.len]; simpa using c), List.getElem?_eq_none (by simpa using c)]
  subst this
  exact ⟨S, h S, rfl, (fun i v c l q => by cases q), fun j _ _ => rfl⟩
/-! ### frames by their places -/
theorem wipeV_at {σ : VEnv} : ∀ (vs : List Nat) (j : Nat), (wipeV σ vs)[j]? = if j ∈ vs ∧ j < σ.length then some none else σ[j]?
  | [], j => by simp [wipeV]
  | v :: vs, j => by
    unfold wipeV
    by_cases e : v = j
    · subst e
      by_cases c : v < σ.length
      · rw [List.getElem?_set_self (by rw [wipeV_len]; exact c), if_pos ⟨by simp, c⟩]
      · rw [List.getElem?_eq_none (by rw [List.length_set, wipeV_len]; omega), if_neg (fun q => c q.2), List.getElem?_eq_none (by omega)]
    · rw [List.getElem?_set_ne e, wipeV_at vs j]
      have : (j ∈ v :: vs) ↔ j ∈ vs := by simp only [List.mem_cons]; exact ⟨fun q => q.elim (fun z => absurd z.symm e) id, .inr⟩
      simp only [this]
theorem backV_at {σ0 σ : VEnv} : ∀ (vs : List Nat) (j : Nat), (backV σ0 σ vs)[j]? = if j ∈ vs ∧ j < σ.length then some (onlyP (σ0.getD j none)) else σ[j]?
  | [], j => by simp [backV]
  | v :: vs, j => by
    unfold backV
    by_cases e : v = j
    · subst e
      by_cases c : v < σ.length
      · rw [List.getElem?_set_self (by rw [backV_len]; exact c), if_pos ⟨by simp, c⟩]
      · rw [List.getElem?_eq_none (by rw [List.length_set, backV_len]; omega), if_neg (fun q => c q.2), List.getElem?_eq_none (by omega)]
    · rw [List.getElem?_set_ne e, backV_at vs j]
      have : (j ∈ v :: vs) ↔ j ∈ vs := by simp only [List.mem_cons]; exact ⟨fun q => q.elim (fun z => absurd z.symm e) id, .inr⟩
      simp only [this]
theorem setAllV_out : ∀ {is : List Nat} {ds : List P} {σ σ' : VEnv}, setAllV is ds σ = some σ' → σ'.length = σ.length ∧ ∀ j, j ∉ is → σ'[j]? = σ[j]?
  | [], [], σ, σ', h => by cases h; exact ⟨rfl, fun _ _ => rfl⟩
  | [], _ :: _, _, _, h => by cases h
  | _ :: _, [], _, _, h => by cases h
  | i :: is, d :: ds, σ, σ', h => by
    simp only [setAllV] at h
    split at h
    · obtain ⟨a, b⟩ := setAllV_out h
      refine ⟨by rw [a]; simp, fun j hj => ?_⟩
      simp only [List.mem_cons, not_or] at hj
      rw [b j hj.2, List.getElem?_set_ne (fun z => hj.1 z.symm)]
    · cases h
theorem putV_out {t : Tg} {d : P} {σ σ' : VEnv} (h : t.putV d σ = some σ') : σ'.length = σ.length ∧ ∀ j, j ∉ t.vslots → σ'[j]? = σ[j]? := by
  cases t with
  | nm i =>
    simp only [Tg.putV] at h
    split at h
    · cases h
      exact ⟨by simp, fun j hj => by rw [List.getElem?_set_ne]; intro z; subst z; simp [Tg.vslots] at hj⟩
    · cases h
  | tp is =>
    cases d with
    | tup ds => exact setAllV_out h
    | _ => cases h
theorem wipe_put {t : Tg} {d : P} {σ σ' : VEnv} {vs : List Nat} (ht : ∀ i ∈ t.vslots, i ∈ vs) (h : t.putV d (wipeV σ vs) = some σ') : wipeV σ' vs = wipeV σ vs := by
  obtain ⟨a, b⟩ := putV_out h
  apply List.ext_getElem?
  intro j
  rw [wipeV_at, a, wipeV_len, wipeV_at]
  by_cases c : j ∈ vs
  · by_cases c2 : j < σ.length
    · rw [if_pos ⟨c, c2⟩, if_pos ⟨c, c2⟩]
    · rw [if_neg (fun q => c2 q.2), if_neg (fun q => c2 q.2), List.getElem?_eq_none (by rw [a, wipeV_len]; omega), List.getElem?_eq_none (by omega)]
  · rw [if_neg (fun q => c q.1), if_neg (fun q => c q.1), b j (fun q => c (ht j q)), wipeV_at, if_neg (fun q => c q.1)]
theorem back_same {src : Option Nat} {σ : VEnv} {vs : List Nat} (hs : ∀ i, src = some i → i ∉ vs) : backV σ (unlockO src σ (wipeV (lockO src σ) vs)) vs = backV σ σ vs := by
  apply List.ext_getElem?
  intro j
  rw [backV_at, backV_at, unlockO_len, wipeV_len, lockO_len]
  by_cases c : j ∈ vs ∧ j < σ.length
  · rw [if_pos c, if_pos c]
  · rw [if_neg c, if_neg c]
    cases src with
    | none =>
      show (wipeV σ vs)[j]? = _
      rw [wipeV_at, if_neg c]
    | some i =>
      show ((wipeV (lockO (some i) σ) vs).set i (σ.getD i none))[j]? = _
      by_cases e : i = j
      · subst e
        by_cases hi : i < σ.length
        · rw [List.getElem?_set_self (by rw [wipeV_len, lockO_len]; exact hi), List.getD_eq_getElem?_getD, List.getElem?_eq_getElem hi]; rfl
        · rw [List.getElem?_eq_none (by rw [List.length_set, wipeV_len, lockO_len]; omega), List.getElem?_eq_none (by omega)]
      · rw [List.getElem?_set_ne e, wipeV_at, lockO_len, if_neg c]
        show (σ.set i _)[j]? = _
        rw [List.getElem?_set_ne e]
def srcOut (src : Option Nat) (vs : List Nat) : Bool := match src with
  | none => true
  | some i => !vs.contains i
theorem srcOut_iff {src : Option Nat} {vs : List Nat} (h : srcOut src vs = true) : ∀ i, src = some i → i ∉ vs := fun i e => by
  subst e; simpa [srcOut] using h
/-- a comprehension over things of a kind that changes no cells -/
theorem wpe_lc_t {α : Type} (g : α → P) (xs : List α) (keep : α → Bool) (v : α → P) {it : XI} {t : Tg} {c : XT} {e : XE} {vs : List Nat} {σ : VEnv} {Q : U → VEnv → Prop} (ht : t.vslots.all (fun i => vs.contains i) = true)
    (h : WPI it σ fun ds src σ1 => ds = xs.map g ∧ srcOut src vs = true ∧ xs.length ≤ 1000000 ∧
      (∀ x ∈ xs, ∃ σ3, t.putV (g x) (wipeV (lockO src σ1) vs) = some σ3 ∧ WPT c σ3 fun k σ4 => σ4 = σ3 ∧ k = keep x ∧ (k = true → WPE e σ3 fun u σ5 => σ5 = σ3 ∧ u.fz = some (v x))) ∧ At (backV σ1 σ1 vs) fun σe => Q (.frl ((xs.filter keep).map v)) σe) : WPE (xLc it t c e vs) σ Q := by
  have ht' : ∀ i ∈ t.vslots, i ∈ vs := fun i hi => by simpa using List.all_eq_true.mp ht i hi
  refine wpe_lc ht (fun K b n ρ S H => ?_)
  obtain ⟨ds, lo, S1, src, σ1, e1, R1, RI, X1, rfl, so, hl, step, q⟩ := h K b n ρ S H
  refine ⟨_, lo, S1, src, σ1, e1, R1, RI, X1, srcOut_iff so, fun i acc σ2 => σ2 = wipeV (lockO src σ1) vs ∧ acc = ((xs.take i).filter keep).map v, ⟨rfl, by simp⟩, fun i d acc σ2 hd hJ => ?_, fun acc σ2 hJ => ?_⟩
  · obtain ⟨rfl, rfl⟩ := hJ
    rw [List.getElem?_map] at hd
    cases hx : xs[i]? with
    | none => rw [hx] at hd; cases hd
    | some x =>
      rw [hx] at hd; cases hd
      have tk : xs.take (i + 1) = xs.take i ++ [x] := by rw [List.take_add_one, hx]; rfl
      obtain ⟨σ3, p1, p2⟩ := step x (List.mem_of_getElem? hx)
      have hw := wipe_put ht' p1
      refine ⟨σ3, p1, p2.mono fun k σ4 ⟨e4, ek, he⟩ => ?_⟩
      subst e4; subst ek
      refine ⟨fun hk => (he hk).mono fun u σ5 ⟨e5, hv⟩ => ?_, fun hk => ⟨?_, hw, ?_⟩⟩
      · subst e5
        refine ⟨v x, hv, ?_, ?_, hw, ?_⟩
        · have h1 := List.length_filter_le keep (xs.take i)
          have h2 := (List.getElem?_eq_some_iff.mp hx).1
          rw [List.length_map]
          rw [List.length_take] at h1
          omega
        · rw [hw]; exact held_wipe (srcOut_iff so)
        · rw [tk, List.filter_append, List.map_append]; simp [hk]
      · rw [hw]; exact held_wipe (srcOut_iff so)
      · rw [tk, List.filter_append, List.map_append]; simp [hk]
  · obtain ⟨rfl, rfl⟩ := hJ
    rw [List.length_map, List.take_length, back_same (srcOut_iff so)]
    exact q
theorem wpe_lc_all {α : Type} (g : α → P) (xs : List α) (v : α → P) {it : XI} {t : Tg} {e : XE} {vs : List Nat} {σ : VEnv} {Q : U → VEnv → Prop} (ht : t.vslots.all (fun i => vs.contains i) = true)
    (h : WPI it σ fun ds src σ1 => ds = xs.map g ∧ srcOut src vs = true ∧ xs.length ≤ 1000000 ∧
      (∀ x ∈ xs, ∃ σ3, t.putV (g x) (wipeV (lockO src σ1) vs) = some σ3 ∧ WPE e σ3 fun u σ5 => σ5 = σ3 ∧ u.fz = some (v x)) ∧ At (backV σ1 σ1 vs) fun σe => Q (.frl (xs.map v)) σe) : WPE (xLc it t xTyes e vs) σ Q := by
  refine wpe_lc_t g xs (fun _ => true) v ht (fun K b n ρ S H => ?_)
  obtain ⟨ds, lo, S1, src, σ1, e1, R1, RI, X1, rfl, so, hl, step, q⟩ := h K b n ρ S H
  refine ⟨_, lo, S1, src, σ1, e1, R1, RI, X1, rfl, so, hl, fun x hx => ?_, ?_⟩
  · obtain ⟨σ3, p1, p2⟩ := step x hx
    exact ⟨σ3, p1, wpt_yes ⟨rfl, rfl, fun _ => p2⟩⟩
  · have : xs.filter (fun _ => true) = xs := by simp
    rw [this]; exact q
end XL
end
section
set_option Elab.async false
set_option linter.all false
set_option autoImplicit false
set_option maxRecDepth 100000
set_option maxHeartbeats 1000000
namespace XL
/-! ### the ends of the rules, one for each kind of goal -/
section
variable {σ σ' σ2 : VEnv} {s : XS} {Q : VFl → Prop} {QE : U → VEnv → Prop} {QV : VEnv → Prop} {QB : Bool → VEnv → Prop} {X Y : Prop} {u w : U} {i : Nat} {d p q : P} {ds : List P} {r : R}
theorem seqK_nx (h : WPS s σ Q) : seqK s Q (.nx σ) := h
theorem seqK_rt (h : Q (.rt u σ)) : seqK s Q (.rt u σ) := h
theorem set_end_p (h1 : Nat.blt i σ.length = true) (h2 : σ.set i (some (.p d)) = σ') (h3 : QV σ') : Nat.blt i σ.length = true ∧ SetU i σ QV (.p d) := ⟨h1, by subst h2; exact h3⟩
theorem set_end_l (h1 : Nat.blt i σ.length = true) (h2 : σ.set i (some (.l .own ds)) = σ') (h3 : QV σ') : Nat.blt i σ.length = true ∧ SetU i σ QV (.frl ds) := ⟨h1, by subst h2; exact h3⟩
theorem set_end_d {t : Bool} {kvs : List (P × P)} (h1 : Nat.blt i σ.length = true) (h2 : σ.set i (some (.d .own false t kvs)) = σ') (h3 : QV σ') : Nat.blt i σ.length = true ∧ SetU i σ QV (.frd t kvs) := ⟨h1, by subst h2; exact h3⟩
theorem set_end_sl {j : Nat} {v : V} (h1 : Nat.blt i σ.length = true) (hv : σ[j]? = some (some v)) (hc : v.cell ≠ none) (ht : v.tag = .own) (h0 : σ.set j none = σ2) (h2 : σ2.set i (some v) = σ') (h3 : QV σ') : Nat.blt i σ.length = true ∧ SetU i σ QV (.sl j) := ⟨h1, v, hv, hc, ht, by subst h0; subst h2; exact h3⟩
theorem qr_p (h : QE (.p d) σ) : QR QE σ (.p d) := h
theorem qr_frl (h : QE (.frl ds) σ) : QR QE σ (.frl ds) := h
theorem qr_frd {t : Bool} {kvs : List (P × P)} (h : QE (.frd t kvs) σ) : QR QE σ (.frd t kvs) := h
theorem bin_end {f : P → P → Option R} (h1 : u.rd σ = some p) (h2 : w.rd σ = some q) (h3 : f p q = some r) (h4 : QR QE σ r) : ∃ p, u.rd σ = some p ∧ ∃ q, w.rd σ = some q ∧ ∃ r, f p q = some r ∧ QR QE σ r := ⟨p, h1, q, h2, r, h3, h4⟩
theorem un_end {f : P → Option R} (h1 : u.rd σ = some p) (h3 : f p = some r) (h4 : QR QE σ r) : ∃ p, u.rd σ = some p ∧ ∃ r, f p = some r ∧ QR QE σ r := ⟨p, h1, r, h3, h4⟩
theorem call_end {f : List P → Option R} {us : List U} (h1 : urds σ us = some ds) (h3 : f ds = some r) (h4 : QR QE σ r) : ∃ ds, urds σ us = some ds ∧ ∃ r, f ds = some r ∧ QR QE σ r := ⟨ds, h1, r, h3, h4⟩
theorem meth1_end {ty : Ty} (h1 : u.rd σ = some p) (h2 : isTy ty p = true) (h3 : X) : ∃ p0, u.rd σ = some p0 ∧ isTy ty p0 = true ∧ X := ⟨p, h1, h2, h3⟩
theorem meth2_end {f : P → List P → Option R} {us : List U} (h1 : u.rd σ = some p) (h2 : urds σ us = some ds) (h3 : f p ds = some r) (h4 : QR QE σ r) : ∃ p, u.rd σ = some p ∧ ∃ ps, urds σ us = some ps ∧ ∃ r, f p ps = some r ∧ QR QE σ r := ⟨p, h1, ds, h2, r, h3, h4⟩
theorem tup_end {us : List U} (h1 : ufzs us = some ds) (h2 : Nat.ble ds.length 1000000 = true) {Z : List P → Prop} (h3 : Z ds) : ∃ ds, ufzs us = some ds ∧ ds.length ≤ 1000000 ∧ Z ds := ⟨ds, h1, Nat.le_of_ble_eq_true h2, h3⟩
theorem at_end {x : V} (h : σ.set i (some x) = σ') (q : QV σ') : At (σ.set i (some x)) QV := by subst h; exact q
theorem B_end {c : Bool} {Z : Bool → Prop} (h : Z c) : ∃ c0, U.p (.bl c) = .p (.bl c0) ∧ Z c0 := ⟨c, rfl, h⟩
theorem ife_t (h : X) : (true = true → X) ∧ (true = false → Y) := ⟨fun _ => h, fun z => nomatch z⟩
theorem ife_f (h : Y) : (false = true → X) ∧ (false = false → Y) := ⟨(fun z => nomatch z), fun _ => h⟩
theorem ifo_t (h : Y) : (true = false → X) ∧ (true = true → Y) := ⟨(fun z => nomatch z), fun _ => h⟩
theorem ifo_f (h : X) : (false = false → X) ∧ (false = true → Y) := ⟨fun _ => h, fun z => nomatch z⟩
theorem br_f {c : Bool} (e : c = false) (h : Y) : (c = true → X) ∧ (c = false → Y) := by subst e; exact ife_f h
theorem br_t {c : Bool} (e : c = true) (h : X) : (c = true → X) ∧ (c = false → Y) := by subst e; exact ife_t h
theorem bo_f {c : Bool} (e : c = false) (h : X) : (c = false → X) ∧ (c = true → Y) := by subst e; exact ifo_f h
theorem bo_t {c : Bool} (e : c = true) (h : Y) : (c = false → X) ∧ (c = true → Y) := by subst e; exact ifo_t h
theorem chain_end {f : P → P → Option R} {c : Bool} (h1 : u.rd σ = some p) (h2 : w.rd σ = some q) (h3 : f p q = some (.p (.bl c))) (h4 : (c = true → X) ∧ (c = false → Y)) : ∃ p, u.rd σ = some p ∧ ∃ q, w.rd σ = some q ∧ ∃ c0, f p q = some (.p (.bl c0)) ∧ (c0 = true → X) ∧ (c0 = false → Y) := ⟨p, h1, q, h2, c, h3, h4⟩
theorem wpp_none {QP : Option Int → VEnv → Prop} (h : QP none σ) : WPP none σ QP := h
theorem wpp_some {QP : Option Int → VEnv → Prop} {e : XE} (h : WPE e σ fun u σ1 => ∃ i, u = .p (.int i) ∧ QP (some i) σ1) : WPP (some e) σ QP := h
theorem int_end {Z : Int → Prop} {j : Int} (h : Z j) : ∃ i, U.p (.int j) = .p (.int i) ∧ Z i := ⟨j, rfl, h⟩
theorem enum_end {Z : List P → Prop} (h : Z ds) : ∃ ds_1, U.p (.tup ds) = .p (.tup ds_1) ∧ Z ds_1 := ⟨ds, rfl, h⟩
theorem live_p (h : X) : liveU σ (.p d) ∧ X := ⟨trivial, h⟩
theorem live_frl (h : X) : liveU σ (.frl ds) ∧ X := ⟨trivial, h⟩
theorem live_frd {t : Bool} {kvs : List (P × P)} (h : X) : liveU σ (.frd t kvs) ∧ X := ⟨trivial, h⟩
theorem live_l {g : Tag} (h1 : σ[i]? = some (some (.l g ds))) (h : X) : liveU σ (.sl i) ∧ X := ⟨⟨_, h1, fun z => nomatch z⟩, h⟩
theorem live_d {g : Tag} {lk t : Bool} {kvs : List (P × P)} (h1 : σ[i]? = some (some (.d g lk t kvs))) (h : X) : liveU σ (.sl i) ∧ X := ⟨⟨_, h1, fun z => nomatch z⟩, h⟩
theorem def_end {f : XF} {as : List AV} {vs : List V} {ch : List (Nat × V)} (h1 : noTwin as = true) (h2 : argVs σ as = some vs) (h3 : RunsF f vs r ch) (h4 : putGo ch 0 as σ = some σ2) (h5 : QR QE σ2 r) : noTwin as = true ∧ ∃ vs, argVs σ as = some vs ∧ ∃ r ch, RunsF f vs r ch ∧ ∃ σ2, putGo ch 0 as σ = some σ2 ∧ QR QE σ2 r := ⟨h1, vs, h2, r, ch, h3, σ2, h4, h5⟩
theorem app1_end {g : Tag} {Z : Nat → Prop} (h1 : σ[i]? = some (some (.l g ds))) (h2 : Z i) : ∃ i_1, U.sl i = .sl i_1 ∧ (∃ g ds, σ[i_1]? = some (some (.l g ds))) ∧ Z i_1 := ⟨i, rfl, ⟨g, ds, h1⟩, h2⟩
theorem app2_end {g : Tag} (h1 : σ[i]? = some (some (.l g ds))) (hg : g ≠ .lck) (h2 : w.fz = some d) (h3 : ds.length < 1000000) (h4 : At (σ.set i (some (.l g (ds ++ [d])))) QV) : ∃ g ds, σ[i]? = some (some (.l g ds)) ∧ g ≠ .lck ∧ ∃ d, w.fz = some d ∧ ds.length < 1000000 ∧ At (σ.set i (some (.l g (ds ++ [d])))) QV := ⟨g, ds, h1, hg, d, h2, h3, h4⟩
theorem ext2_end {g : Tag} {es : List P} (h1 : σ[i]? = some (some (.l g ds))) (hg : g ≠ .lck) (h3 : ds.length + es.length ≤ 1000000) (h4 : At (σ.set i (some (.l g (ds ++ es)))) QV) : ∃ g ds, σ[i]? = some (some (.l g ds)) ∧ g ≠ .lck ∧ ∃ es_1, U.frl es = .frl es_1 ∧ ds.length + es_1.length ≤ 1000000 ∧ At (σ.set i (some (.l g (ds ++ es_1)))) QV := ⟨g, ds, h1, hg, es, rfl, h3, h4⟩
theorem it_lst {QI : List P → Option Nat → VEnv → Prop} (h : QI ds none σ) : ItU σ QI (.p (.lst ds)) := h
theorem it_tup {QI : List P → Option Nat → VEnv → Prop} (h : QI ds none σ) : ItU σ QI (.p (.tup ds)) := h
theorem it_str {QI : List P → Option Nat → VEnv → Prop} {s : List Nat} (h : QI (s.map fun c => .str [c]) none σ) : ItU σ QI (.p (.str s)) := h
theorem it_frl {QI : List P → Option Nat → VEnv → Prop} (h : QI ds none σ) : ItU σ QI (.frl ds) := h
theorem it_sl {QI : List P → Option Nat → VEnv → Prop} {g : Tag} (h1 : σ[i]? = some (some (.l g ds))) (h : QI ds (some i) σ) : ItU σ QI (.sl i) := ⟨g, ds, h1, h⟩
theorem rng1_end {Z : Nat → Prop} {j : Int} {n : Nat} (h1 : j = (n : Nat)) (h2 : n ≤ 1000000) (h3 : Z n) : ∃ n : Nat, U.p (.int j) = .p (.int (n : Nat)) ∧ n ≤ 1000000 ∧ Z n := ⟨n, by rw [h1], h2, h3⟩
theorem rng2_end {Z : Nat → Nat → Prop} {j1 j2 : Int} {n m : Nat} (h1 : j1 = (n : Nat)) (h2 : j2 = (m : Nat)) (h3 : n ≤ 1000000) (h4 : m ≤ 1000000) (h5 : Z n m) : ∃ i j : Nat, U.p (.int j1) = .p (.int (i : Nat)) ∧ U.p (.int j2) = .p (.int (j : Nat)) ∧ i ≤ 1000000 ∧ j ≤ 1000000 ∧ Z i j := ⟨n, m, by rw [h1], by rw [h2], h3, h4, h5⟩
theorem unp_end {t : Tg} (h1 : u.rd σ = some d) (h2 : t.putV d σ = some σ2) (h3 : QV σ2) : ∃ d, u.rd σ = some d ∧ ∃ σ2, t.putV d σ = some σ2 ∧ QV σ2 := ⟨d, h1, σ2, h2, h3⟩
theorem par_end {is : List Nat} {as : List AV} (h1 : setAllA is as σ = some σ2) (h3 : QV σ2) : ∃ σ2, setAllA is as σ = some σ2 ∧ QV σ2 := ⟨σ2, h1, h3⟩
theorem getD1_end {Z : Nat → Prop} (h2 : Z i) : ∃ i_1, U.sl i = .sl i_1 ∧ Z i_1 := ⟨i, rfl, h2⟩
theorem getD2_end {g : Tag} {lk t : Bool} {kvs : List (P × P)} {k v : P} (h1 : σ[i]? = some (some (.d g lk t kvs))) (h2 : w.rd σ = some k) (h3 : keyOk t k = true) (h4 : lookD kvs k = some v) {Z : P → Prop} (h5 : Z v) : ∃ g lk t kvs, σ[i]? = some (some (.d g lk t kvs)) ∧ ∃ k, w.rd σ = some k ∧ keyOk t k = true ∧ ∃ v, lookD kvs k = some v ∧ Z v := ⟨g, lk, t, kvs, h1, k, h2, h3, v, h4, h5⟩
theorem putD_end {g : Tag} {t : Bool} {kvs : List (P × P)} {x y : P} {z : U} (h1 : σ[i]? = some (some (.d g false t kvs))) (h2 : z.rd σ = some x) (h3 : keyOk t x = true) (h4 : kvs.length < 1000000) (h5 : w.fz = some y) (h6 : At (σ.set i (some (.d g false t (putD kvs x y)))) QV) :
    ∃ i_1, U.sl i = .sl i_1 ∧ ∃ g t kvs, σ[i_1]? = some (some (.d g false t kvs)) ∧ ∃ x, z.rd σ = some x ∧ keyOk t x = true ∧ kvs.length < 1000000 ∧ ∃ d, w.fz = some d ∧ At (σ.set i_1 (some (.d g false t (putD kvs x d)))) QV := ⟨i, rfl, g, t, kvs, h1, x, h2, h3, h4, y, h5, h6⟩
end
theorem sv_z {o x : Option V} {σ : VEnv} : List.set (o :: σ) 0 x = x :: σ := rfl
theorem sv_s {o x : Option V} {σ σ' : VEnv} {n : Nat} (h : List.set σ n x = σ') : List.set (o :: σ) (n + 1) x = o :: σ' := by rw [List.set_cons_succ, h]
/-! frames, computed step by step -/
section
variable {t : Tg} {d : P} {σ σ' σ0 σ1 σw τ : VEnv} {i j v : Nat} {vs : List Nat} {src : Option Nat} {QV : VEnv → Prop} {ds : List P}
theorem put_end {Z : VEnv → Prop} (h : t.putV d σ = some σ') (k : Z σ') : ∃ σ3, t.putV d σ = some σ3 ∧ Z σ3 := ⟨σ', h, k⟩
theorem pv_nm (hb : Nat.blt i σ.length = true) (h : List.set σ i (some (.p d)) = σ') : (Tg.nm i).putV d σ = some σ' := by simp only [Tg.putV, hb, if_true, h]
theorem pv_tp {is : List Nat} (h : setAllV is ds σ = some σ') : (Tg.tp is).putV (.tup ds) σ = some σ' := h
theorem pv_nil : setAllV [] [] σ = some σ := rfl
theorem pv_cons {is : List Nat} (hb : Nat.blt i σ.length = true) (h : List.set σ i (some (.p d)) = σ1) (k : setAllV is ds σ1 = some σ') : setAllV (i :: is) (d :: ds) σ = some σ' := by simp only [setAllV, hb, if_true, h, k]
theorem pv_w (h1 : wipeV τ vs = σw) (h2 : t.putV d σw = some σ') : t.putV d (wipeV τ vs) = some σ' := by rw [h1]; exact h2
theorem wv_nil (h : τ = σ') : wipeV τ [] = σ' := h
theorem wv_cons (h1 : wipeV τ vs = σ1) (h2 : List.set σ1 v none = σ') : wipeV τ (v :: vs) = σ' := by rw [wipeV, h1]; exact h2
theorem lk_none : lockO none σ = σ := rfl
theorem lk_l {g : Tag} (h : σ[i]? = some (some (.l g ds))) (h2 : List.set σ i (some (.l .lck ds)) = σ') : lockO (some i) σ = σ' := by simp only [lockO, getD_of h, Option.map_some, V.withTag]; exact h2
theorem lk_d {g : Tag} {lk t : Bool} {kvs : List (P × P)} (h : σ[i]? = some (some (.d g lk t kvs))) (h2 : List.set σ i (some (.d .lck lk t kvs)) = σ') : lockO (some i) σ = σ' := by simp only [lockO, getD_of h, Option.map_some, V.withTag]; exact h2
theorem bv_nil : backV σ0 σ [] = σ := rfl
theorem bv_cons_n (h : σ0[v]? = some none) (h1 : backV σ0 σ vs = σ1) (h2 : List.set σ1 v none = σ') : backV σ0 σ (v :: vs) = σ' := by rw [backV, h1, getD_of h]; exact h2
theorem bv_cons_p (h : σ0[v]? = some (some (.p d))) (h1 : backV σ0 σ vs = σ1) (h2 : List.set σ1 v (some (.p d)) = σ') : backV σ0 σ (v :: vs) = σ' := by rw [backV, h1, getD_of h]; exact h2
theorem bv_cons_l {g : Tag} (h : σ0[v]? = some (some (.l g ds))) (h1 : backV σ0 σ vs = σ1) (h2 : List.set σ1 v none = σ') : backV σ0 σ (v :: vs) = σ' := by rw [backV, h1, getD_of h]; exact h2
theorem ul_none : unlockO none σ0 σ = σ := rfl
theorem ul_some {o : Option V} (h : σ0[i]? = some o) (h2 : List.set σ i o = σ') : unlockO (some i) σ0 σ = σ' := by simp only [unlockO, getD_of h]; exact h2
theorem atb_end (h : backV σ0 σ vs = σ') (q : QV σ') : At (backV σ0 σ vs) QV := by subst h; exact q
theorem atu_end (h : unlockO src σ0 σ = σ') (q : QV σ') : At (unlockO src σ0 σ) QV := by subst h; exact q
end
/-! lists of values, one by one -/
section
variable {σ σ' : VEnv} {us : List U} {ds es : List P} {d : P} {i : Nat} {as : List AV} {vs : List V}
theorem ufzs_nil : ufzs [] = some [] := rfl
theorem ufzs_p (h : ufzs us = some ds) : ufzs (.p d :: us) = some (d :: ds) := by simp [ufzs, U.fz, h]
theorem ufzs_frl (h : ufzs us = some ds) : ufzs (.frl es :: us) = some (.lst es :: ds) := by simp [ufzs, U.fz, h]
theorem urds_nil : urds σ [] = some [] := rfl
theorem urds_p (h : urds σ us = some ds) : urds σ (.p d :: us) = some (d :: ds) := by simp [urds, U.rd, h]
theorem urds_frl (h : urds σ us = some ds) : urds σ (.frl es :: us) = some (.lst es :: ds) := by simp [urds, U.rd, h]
theorem urds_sl {g : Tag} (h1 : σ[i]? = some (some (.l g es))) (h : urds σ us = some ds) : urds σ (.sl i :: us) = some (.lst es :: ds) := by simp [urds, U.rd, h1, h]
theorem argVs_nil : argVs σ [] = some [] := rfl
theorem argVs_p' (h : argVs σ as = some vs) : argVs σ (U.argA (.p d) :: as) = some (.p d :: vs) := by simp [argVs, U.argA, h]
theorem argVs_frl' (h : argVs σ as = some vs) : argVs σ (U.argA (.frl ds) :: as) = some (.p (.lst ds) :: vs) := by simp [argVs, U.argA, h]
theorem argVs_frd' {t : Bool} {kvs : List (P × P)} (h : argVs σ as = some vs) : argVs σ (U.argA (.frd t kvs) :: as) = some (.d .gst false t kvs :: vs) := by simp [argVs, U.argA, h]
theorem argVs_l' {g : Tag} (h1 : σ[i]? = some (some (.l g ds))) (h : argVs σ as = some vs) : argVs σ (U.argA (.sl i) :: as) = some (.l .gst ds :: vs) := by simp [argVs, U.argA, h, h1, V.withTag]
theorem argVs_d' {g : Tag} {lk t : Bool} {kvs : List (P × P)} (h1 : σ[i]? = some (some (.d g lk t kvs))) (h : argVs σ as = some vs) : argVs σ (U.argA (.sl i) :: as) = some (.d .gst lk t kvs :: vs) := by simp [argVs, U.argA, h, h1, V.withTag]
theorem putGo_nil : ∀ {as : List AV} {i : Nat} {σ : VEnv}, putGo [] i as σ = some σ
  | [], _, _ => rfl
  | .p _ :: as, i, σ => putGo_nil (as := as)
  | .nl _ :: as, i, σ => putGo_nil (as := as)
  | .nd _ _ :: as, i, σ => putGo_nil (as := as)
  | .sl j :: as, i, σ => by simp only [putGo, List.lookup]; exact putGo_nil
theorem putGo_out {v : V} : ∀ {as : List AV} {i : Nat} {σ : VEnv}, 2 ≤ i → putGo [(1, v)] i as σ = some σ
  | [], _, _, _ => rfl
  | .p _ :: as, i, σ, h => putGo_out (as := as) (i := i + 1) (by omega)
  | .nl _ :: as, i, σ, h => putGo_out (as := as) (i := i + 1) (by omega)
  | .nd _ _ :: as, i, σ, h => putGo_out (as := as) (i := i + 1) (by omega)
  | .sl j :: as, i, σ, h => by
    have : List.lookup i [(1, v)] = none := by
      simp only [List.lookup]
      have : (i == 1) = false := by simp; omega
      rw [this]
    simp only [putGo, this]
    exact putGo_out (by omega)
/-- the town has changed -/
theorem putGo_tw {g : Tag} {T T' : List P} {u : U} {j : Nat} (hu : ∃ d, U.argA u = .p d) (h1 : σ[j]? = some (some (.l g T))) (hg : g ≠ .lck) (h2 : σ.set j (some (.l g T')) = σ') : putGo [(1, .l .gst T')] 0 (U.argA u :: U.argA (.sl j) :: as) σ = some σ' := by
  obtain ⟨d, hd⟩ := hu
  rw [hd]
  have e : putGo [(1, .l .gst T')] 0 (.p d :: U.argA (.sl j) :: as) σ = putGo [(1, .l .gst T')] 2 as (σ.set j (some (.l g T'))) := by
    cases g with
    | own => simp only [putGo, U.argA, List.lookup, BEq.rfl, V.cell, h1, V.tag, V.withTag]
    | gst => simp only [putGo, U.argA, List.lookup, BEq.rfl, V.cell, h1, V.tag, V.withTag]
    | lck => exact absurd rfl hg
  rw [e, h2]; exact putGo_out (Nat.le_refl _)
end
/-- a for whose frame ahead of each turn is told -/
theorem for_end {t : Tg} {s : XS} {Q : VFl → Prop} {ds : List P} {src : Option Nat} {σ1 : VEnv} (F : Nat → VEnv) (h0 : Forget (lockO src σ1) (F 0)) (hh : ∀ i, i ≤ ds.length → held src σ1 (F i)) (step : ∀ (i : Nat) (d : P), ds[i]? = some d → ∃ σ3, t.putV d (F i) = some σ3 ∧ WPS s σ3 (TurnK src σ1 (fun σ => σ = F (i + 1)) Q)) (fin : Q (.nx (unlockO src σ1 (F ds.length)))) :
    ∃ I : Nat → VEnv → Prop, (∃ σ0, Forget (lockO src σ1) σ0 ∧ held src σ1 σ0 ∧ I 0 σ0) ∧ (∀ (i : Nat) (d : P) (σ2 : VEnv), ds[i]? = some d → I i σ2 → ∃ σ3, t.putV d σ2 = some σ3 ∧ WPS s σ3 (TurnK src σ1 (I (i + 1)) Q)) ∧ ∀ σ2, I ds.length σ2 → Q (.nx (unlockO src σ1 σ2)) :=
  ⟨fun i σ => σ = F i, ⟨F 0, h0, hh 0 (Nat.zero_le _), rfl⟩, fun i d σ2 hd hI => by subst hI; exact step i d hd, fun σ2 hI => by subst hI; exact fin⟩
theorem turn_eq {src : Option Nat} {σ1 σ F : VEnv} {Q : VFl → Prop} (h1 : Forget σ F) (h2 : held src σ1 F) : TurnK src σ1 (fun σ => σ = F) Q (.nx σ) := ⟨F, h1, h2, rfl⟩
/-- over things of a kind -/
theorem for_typ {α : Type} (g : α → P) (xs : List α) {t : Tg} {s : XS} {Q : VFl → Prop} {src : Option Nat} {σ1 : VEnv} (F : Nat → VEnv) (h0 : Forget (lockO src σ1) (F 0)) (hh : ∀ i, held src σ1 (F i)) (step : ∀ (i : Nat) (x : α), xs[i]? = some x → ∃ σ3, t.putV (g x) (F i) = some σ3 ∧ WPS s σ3 (TurnK src σ1 (fun σ => σ = F (i + 1)) Q)) (fin : At (unlockO src σ1 (F xs.length)) fun σe => Q (.nx σe)) :
    ∃ I : Nat → VEnv → Prop, (∃ σ0, Forget (lockO src σ1) σ0 ∧ held src σ1 σ0 ∧ I 0 σ0) ∧ (∀ (i : Nat) (d : P) (σ2 : VEnv), (xs.map g)[i]? = some d → I i σ2 → ∃ σ3, t.putV d σ2 = some σ3 ∧ WPS s σ3 (TurnK src σ1 (I (i + 1)) Q)) ∧ ∀ σ2, I (xs.map g).length σ2 → Q (.nx (unlockO src σ1 σ2)) :=
  for_end F h0 (fun i _ => hh i) (fun i d hd => by
    rw [List.getElem?_map] at hd
    cases hx : xs[i]? with
    | none => rw [hx] at hd; cases hd
    | some x => rw [hx] at hd; cases hd; exact step i x hx) (by rw [List.length_map]; exact fin)
theorem for_rng {n : Nat} {t : Tg} {s : XS} {Q : VFl → Prop} {σ1 : VEnv} (F : Nat → VEnv) (h0 : Forget σ1 (F 0)) (step : ∀ (i : Nat), i < n → ∃ σ3, t.putV (.int (i : Nat)) (F i) = some σ3 ∧ WPS s σ3 (TurnK none σ1 (fun σ => σ = F (i + 1)) Q)) (fin : Q (.nx (F n))) :
    ∃ I : Nat → VEnv → Prop, (∃ σ0, Forget (lockO none σ1) σ0 ∧ held none σ1 σ0 ∧ I 0 σ0) ∧ (∀ (i : Nat) (d : P) (σ2 : VEnv), ((List.range n).map fun (k : Nat) => P.int (k : Nat))[i]? = some d → I i σ2 → ∃ σ3, t.putV d σ2 = some σ3 ∧ WPS s σ3 (TurnK none σ1 (I (i + 1)) Q)) ∧ ∀ σ2, I ((List.range n).map fun (k : Nat) => P.int (k : Nat)).length σ2 → Q (.nx (unlockO none σ1 σ2)) :=
  for_typ (fun (k : Nat) => P.int (k : Nat)) (List.range n) F h0 (fun _ => trivial) (fun i x hx => by
    have h := (List.getElem?_eq_some_iff.mp hx).1
    rw [List.length_range] at h
    rw [List.getElem?_range h] at hx
    cases hx
    exact step i h) (by rw [List.length_range]; exact fin)
/-! less known, slot by slot -/
theorem forget_nil : Forget [] [] := .refl _
theorem forget_keep {σ σ' : VEnv} {o : Option V} (h : Forget σ σ') : Forget (o :: σ) (o :: σ') := ⟨by simp [h.1], fun i v e => by
  cases i with
  | zero => exact e
  | succ i => exact h.2 i v (by simpa using e)⟩
theorem forget_drop {σ σ' : VEnv} {o : Option V} (h : Forget σ σ') : Forget (o :: σ) (none :: σ') := ⟨by simp [h.1], fun i v e => by
  cases i with
  | zero => simp at e
  | succ i => exact h.2 i v (by simpa using e)⟩
end XL
end
section
set_option Elab.async false
set_option linter.all false
set_option autoImplicit false
set_option maxRecDepth 100000
set_option maxHeartbeats 1000000
namespace XL
/-- behind the count and the look at the script: number at, what is left -/
theorem draw_one {n0 : Int} {nr tr : List Int} {l : Nat} {lim t1 at' sv left : Int} {S : Sto} (hS : S[l]? = some (.lst (.int t1 :: tr.map P.int))) (h0 : 0 < lim) (h1 : lim < 1000000) (hat : t1 % ((nr.length : Int) + 1) = at') (hl : tr.length = nr.length + 1)
    (hsv : (n0 :: nr)[at'.toNat]? = some sv) (hlf : tr[at'.toNat]? = some left) (ht : 0 ≤ t1) (ht2 : t1 < 2000000) :
    ∃ (v : Int) (tr' : List Int), (xSeq (xSet 3 (xBin pMod (xBin pIx (xVar 1) (xC (.int 0))) (xCall cLen (xCons (xVar 0) xNil))))
    (xSeq (xSet 4 (xBin pIx (xVar 1) (xBin pAdd (xC (.int 1)) (xVar 3))))
    (xSeq (xIfS (xTand (xB (xBin pGe (xBin pIx (xVar 0) (xVar 3)) (xBin pPow (xC (.int 10)) (xC (.int 18))))) (xB (xBin pGt (xVar 4) (xC (.int 0)))))
    (xSeq (xPutL (xBin pDiv (xVar 4) (xVar 2)) (xVar 1) (xBin pAdd (xC (.int 1)) (xVar 3)))
    (xRet (xBin pMod (xVar 4) (xVar 2))))
    xPass)
    (xSeq (xSet 5 (xBin pMod (xBin pAdd (xBin pIx (xVar 0) (xVar 3)) (xBin pMul (xC (.int 104729)) (xBin pIx (xVar 1) (xC (.int 0))))) (xC (.int 4294967291))))
    (xSeq (xSet 5 (xBin pMod (xBin pPow (xVar 5) (xC (.int 5))) (xC (.int 4294967279))))
    (xRet (xBin pMod (xBin pDiv (xBin pMod (xBin pAdd (xBin pMul (xBin pDiv (xVar 5) (xC (.int 64))) (xC (.int 69621))) (xVar 5)) (xC (.int 4294967231))) (xC (.int 8))) (xVar 2)))))))) [some (.p (.lst ((n0 :: nr).map P.int))), some (.ref l), some (.p (.int lim)), none, none, none] S
      = some (.rt (.p (.int v)), S.set l (.lst (.int t1 :: tr'.map P.int))) ∧ tr'.length = tr.length ∧ 0 ≤ v ∧ v < lim := by
  have m0 : ∀ x : Int, 0 ≤ x % lim := fun x => Int.emod_nonneg _ (by omega)
  have m1 : ∀ x : Int, x % lim < lim := fun x => Int.emod_lt_of_pos _ h0
  have q4 : ∀ j, pMod (.int j) (.int lim) = some (.p (.int (j % lim))) := fun j => mod_int _ _ (by omega)
  have q5 : ∀ j, pMod (.int j) (.int ((nr.length : Int) + 1)) = some (.p (.int (j % ((nr.length : Int) + 1)))) := fun j => mod_int _ _ (by omega)
  have q6 : ∀ j, pDiv (.int j) (.int lim) = some (.p (.int (j / lim))) := fun j => div_int _ _ (by omega) (by omega)
  have q7 : pPow (.int 10) (.int 18) = some (.p (.int 1000000000000000000)) := by decide
  have a0 : 0 ≤ at' := by rw [← hat]; exact Int.emod_nonneg _ (by omega)
  have a1 : at' < (nr.length : Int) + 1 := by rw [← hat]; exact Int.emod_lt_of_pos _ (by omega)
  have hix : pIx (.lst (.int t1 :: tr.map P.int)) (.int (1 + at')) = some (.p (.int left)) :=
    ix_lst_of (by omega) (by
      have e : (1 + at').toNat = at'.toNat + 1 := by omega
      rw [e]; simp [hlf])
  have hix2 : pIx (.lst (.int n0 :: nr.map P.int)) (.int at') = some (.p (.int sv)) :=
    ix_lst_of a0 (by
      have e : (.int n0 :: nr.map P.int) = (n0 :: nr).map P.int := rfl
      rw [e, List.getElem?_map, hsv]; rfl)
  have hixP : ixP (tr.length + 1) (1 + at') = some (at'.toNat + 1) := by
    rw [ixP_of (by omega) (by omega)]
    congr 1; omega
  generalize hA : some (D.p (.lst ((n0 :: nr).map P.int))) = A
  have k1 : xSet 3 (xBin pMod (xBin pIx (xVar 1) (xC (.int 0))) (xCall cLen (xCons (xVar 0) xNil))) [A, some (.ref l), some (.p (.int lim)), none, none, none] S = some (.nx [A, some (.ref l), some (.p (.int lim)), some (.p (.int at')), none, none], S) := by
    subst hA
    simp [hS, R.rd, q5, hat]
  have k2 : xSet 4 (xBin pIx (xVar 1) (xBin pAdd (xC (.int 1)) (xVar 3))) [A, some (.ref l), some (.p (.int lim)), some (.p (.int at')), none, none] S = some (.nx [A, some (.ref l), some (.p (.int lim)), some (.p (.int at')), some (.p (.int left)), none], S) := by
    simp [hS, R.rd, hix]
  rw [seq_nx k1, seq_nx k2]
  have k3 : xTand (xB (xBin pGe (xBin pIx (xVar 0) (xVar 3)) (xBin pPow (xC (.int 10)) (xC (.int 18))))) (xB (xBin pGt (xVar 4) (xC (.int 0)))) [A, some (.ref l), some (.p (.int lim)), some (.p (.int at')), some (.p (.int left)), none] S = some (decide (1000000000000000000 ≤ sv ∧ 0 < left), S) := by
    subst hA
    by_cases z : 1000000000000000000 ≤ sv <;> simp [q7, hix2, z]
  by_cases h18 : 1000000000000000000 ≤ sv ∧ 0 < left
  · refine ⟨left % lim, tr.set at'.toNat (left / lim), ?_, by simp, m0 _, m1 _⟩
    rw [decide_eq_true h18] at k3
    refine seq_rt ((ifS_t k3).trans ?_)
    simp [hS, R.rd, q6, q4, hixP]
  · rw [decide_eq_false h18] at k3
    have k4 := if_no (s := xSeq (xPutL (xBin pDiv (xVar 4) (xVar 2)) (xVar 1) (xBin pAdd (xC (.int 1)) (xVar 3))) (xRet (xBin pMod (xVar 4) (xVar 2)))) k3
    have q8 : ∀ j, pMul (.int 104729) (.int j) = some (.p (.int (104729 * j))) := fun j => mul_int _ _ (by omega) (by omega)
    have q9 : ∀ j, pMod (.int j) (.int 4294967291) = some (.p (.int (j % 4294967291))) := fun j => mod_int _ _ (by omega)
    have q10 : ∀ j, pMod (.int j) (.int 4294967279) = some (.p (.int (j % 4294967279))) := fun j => mod_int _ _ (by omega)
    have q11 : ∀ j, pMod (.int j) (.int 4294967231) = some (.p (.int (j % 4294967231))) := fun j => mod_int _ _ (by omega)
    have q13 : ∀ j, pDiv (.int j) (.int 64) = some (.p (.int (j / 64))) := fun j => div_int _ _ (by omega) (by omega)
    have q14 : ∀ j, pMul (.int j) (.int 69621) = some (.p (.int (j * 69621))) := fun j => mul_int' _ _ (by omega) (by omega)
    have q15 : ∀ j, pDiv (.int j) (.int 8) = some (.p (.int (j / 8))) := fun j => div_int _ _ (by omega) (by omega)
    generalize hx : (sv + 104729 * t1) % 4294967291 = x
    have x0 : 0 ≤ x := by rw [← hx]; exact Int.emod_nonneg _ (by omega)
    have x1 : x < 4294967291 := by rw [← hx]; exact Int.emod_lt_of_pos _ (by omega)
    obtain ⟨z, q12⟩ : ∃ z : Int, pPow (.int x) (.int 5) = some (.p (.int z)) := ⟨_, pow_int x 5 (by omega) x0 (by omega)⟩
    have k5 : xSet 5 (xBin pMod (xBin pAdd (xBin pIx (xVar 0) (xVar 3)) (xBin pMul (xC (.int 104729)) (xBin pIx (xVar 1) (xC (.int 0))))) (xC (.int 4294967291))) [A, some (.ref l), some (.p (.int lim)), some (.p (.int at')), some (.p (.int left)), none] S = some (.nx [A, some (.ref l), some (.p (.int lim)), some (.p (.int at')), some (.p (.int left)), some (.p (.int x))], S) := by
      subst hA
      simp [hS, R.rd, hix2, q8, q9, hx]
    generalize hy : z % 4294967279 = y
    have k6 : xSet 5 (xBin pMod (xBin pPow (xVar 5) (xC (.int 5))) (xC (.int 4294967279))) [A, some (.ref l), some (.p (.int lim)), some (.p (.int at')), some (.p (.int left)), some (.p (.int x))] S = some (.nx [A, some (.ref l), some (.p (.int lim)), some (.p (.int at')), some (.p (.int left)), some (.p (.int y))], S) := by
      have e1 : xBin pPow (xVar 5) (xC (.int 5)) [A, some (.ref l), some (.p (.int lim)), some (.p (.int at')), some (.p (.int left)), some (.p (.int x))] S = some (.p (.int z), S) := by
        rw [bin_p (S1 := S) (S2 := S) (p := .int x) (q := .int 5) rfl rfl, q12]; rfl
      refine set_p (?_ : _ = some (R.p (.int y), S))
      rw [bin_p (S1 := S) (S2 := S) e1 rfl, q10, hy]; rfl
    refine ⟨(y / 64 * 69621 + y) % 4294967231 / 8 % lim, tr, ?_, rfl, m0 _, m1 _⟩
    have hs : S.set l (.lst (.int t1 :: tr.map P.int)) = S := by
      obtain ⟨h, e⟩ := List.getElem?_eq_some_iff.mp hS
      rw [← e]; exact List.set_getElem_self h
    rw [seq_nx k4, seq_nx k5, seq_nx k6, hs]
    simp [q13, q14, q11, q15, q4]
theorem draw_ok {ns : List Int} {l : Nat} {c lim : Int} {S : Sto} (hT : Town ns l c S) (hc : c < 1000000) (h0 : 0 < lim) (h1 : lim < 1000000) :
    ∃ v S', f_law_draw [.p (.lst (ns.map P.int)), .ref l, .p (.int lim)] S = some (.p (.int v), S') ∧ 0 ≤ v ∧ v < lim ∧ ∃ C, S' = S.set l C ∧ Town ns l (c + 1) S' := by
  obtain ⟨t0, tr, hS, hl, ht, htc⟩ := hT
  have hlS : l < S.length := (List.getElem?_eq_some_iff.mp hS).1
  have hset : ∀ C, (S.set l C)[l]? = some C := fun C => by simp [hlS]
  have fin : ∀ (v : Int) (t0' : Int) (tr' : List Int), tr'.length = ns.length → 0 ≤ t0' → t0' ≤ c + 1 → 0 ≤ v → v < lim →
      b_law_draw [some (.p (.lst (ns.map P.int))), some (.ref l), some (.p (.int lim)), none, none, none] S = some (.rt (.p (.int v)), S.set l (.lst (.int t0' :: tr'.map P.int))) →
      ∃ v S', f_law_draw [.p (.lst (ns.map P.int)), .ref l, .p (.int lim)] S = some (.p (.int v), S') ∧ 0 ≤ v ∧ v < lim ∧ ∃ C, S' = S.set l C ∧ Town ns l (c + 1) S' := fun v t0' tr' a1 a2 a3 a4 a5 e => by
    refine ⟨v, S.set l (.lst (.int t0' :: tr'.map P.int)), ?_, a4, a5, _, rfl, t0', tr', hset _, a1, a2, a3⟩
    have e' : b_law_draw (startE 6 [.p (.lst (ns.map P.int)), .ref l, .p (.int lim)]) S = some (.rt (.p (.int v)), S.set l (.lst (.int t0' :: tr'.map P.int))) := e
    simp [f_law_draw, mkF, e']
    exact List.take_of_length_le (by simp)
  have k1 : xPutL (xBin pAdd (xBin pIx (xVar 1) (xC (.int 0))) (xC (.int 1))) (xVar 1) (xC (.int 0)) [some (.p (.lst (ns.map P.int))), some (.ref l), some (.p (.int lim)), none, none, none] S = some (.nx [some (.p (.lst (ns.map P.int))), some (.ref l), some (.p (.int lim)), none, none, none], S.set l (.lst (.int (t0 + 1) :: tr.map P.int))) := by
    simp [hS, R.rd, ixP]
  have m0 : ∀ x : Int, 0 ≤ x % lim := fun x => Int.emod_nonneg _ (by omega)
  have m1 : ∀ x : Int, x % lim < lim := fun x => Int.emod_lt_of_pos _ h0
  cases ns with
  | nil =>
    have q1 : ∀ j, pMul (.int (t0 + 1)) (.int j) = some (.p (.int ((t0 + 1) * j))) := fun j => mul_int _ _ (by omega) (by omega)
    have q2 : ∀ j, pMul (.int j) (.int 7) = some (.p (.int (j * 7))) := fun j => mul_int' _ _ (by omega) (by omega)
    have q3 : ∀ j, pDiv (.int j) (.int 3) = some (.p (.int (j / 3))) := fun j => div_int _ _ (by omega) (by omega)
    have q4 : ∀ j, pMod (.int j) (.int lim) = some (.p (.int (j % lim))) := fun j => mod_int _ _ (by omega)
    have : tr = [] := by simpa using hl
    subst this
    refine fin ((t0 + 1) * (t0 + 1) * 7 / 3 % lim) (t0 + 1) [] rfl (by omega) (by omega) (m0 _) (m1 _) ?_
    unfold b_law_draw
    rw [seq_nx k1]
    refine seq_rt ?_
    simp [R.rd, hset, pEq, P.pyeq, P.pyeqs, q1, q2, q3, q4]
  | cons n0 nr =>
    have hlen : tr.length = nr.length + 1 := by simpa using hl
    have a0 : 0 ≤ (t0 + 1) % ((nr.length : Int) + 1) := Int.emod_nonneg _ (by omega)
    have a1 : (t0 + 1) % ((nr.length : Int) + 1) < (nr.length : Int) + 1 := Int.emod_lt_of_pos _ (by omega)
    have b1 : ((t0 + 1) % ((nr.length : Int) + 1)).toNat < tr.length := by omega
    have b2 : ((t0 + 1) % ((nr.length : Int) + 1)).toNat < (n0 :: nr).length := by simp only [List.length_cons]; omega
    obtain ⟨v, tr', e, e1, e2, e3⟩ := draw_one (n0 := n0) (nr := nr) (hset (.lst (.int (t0 + 1) :: tr.map P.int))) h0 h1 rfl hlen (List.getElem?_eq_getElem b2) (List.getElem?_eq_getElem b1) (by omega) (by omega)
    refine fin v (t0 + 1) tr' (by rw [e1]; simpa using hl) (by omega) (by omega) e2 e3 ?_
    unfold b_law_draw
    rw [seq_nx k1]
    have k2 : xB (xBin pEq (xVar 0) (xLst xNil)) [some (.p (.lst ((n0 :: nr).map P.int))), some (.ref l), some (.p (.int lim)), none, none, none] (S.set l (.lst (.int (t0 + 1) :: tr.map P.int))) = some (false, S.set l (.lst (.int (t0 + 1) :: tr.map P.int))) := by
      simp [pEq, P.pyeq, P.pyeqs]
    rw [seq_nx (if_no k2), e]
    simp
end XL
end
section
set_option Elab.async false
set_option linter.all false
set_option autoImplicit false
set_option maxRecDepth 100000
set_option maxHeartbeats 1000000
namespace XL
/-! ### loops, plainly -/
theorem filt_true {α : Type} (l : List α) : l.filter (fun _ => true) = l := List.filter_eq_self.mpr fun _ _ => rfl
theorem cell_same {l : Option Nat} {S : Sto} : cellOk l S S = true := by cases l <;> simp [cellOk]
/-- a comprehension that changes no cell -/
theorem lcGo_map {l : Option Nat} {S : Sto} {t : Tg} {c : XT} {e : XE} {ρ : Env} (keep : P → Bool) (v : P → P) : ∀ (ds acc : List P),
    (∀ d ∈ ds, ∃ ρ1, t.put d ρ = some ρ1 ∧ c ρ1 S = some (keep d, S) ∧ (keep d = true → ∃ r, e ρ1 S = some (r, S) ∧ r.fz = some (v d))) → acc.length + ds.length ≤ big →
    lcGo l S t c e ρ ds acc S = some (acc ++ (ds.filter keep).map v, S)
  | [], acc, _, _ => by simp [lcGo]
  | d :: ds, acc, h, hl => by
    obtain ⟨ρ1, h1, h2, h3⟩ := h d List.mem_cons_self
    simp only [List.length_cons] at hl
    unfold lcGo
    rw [h1]
    simp only [Option.bind_some, h2]
    cases hk : keep d with
    | true =>
      obtain ⟨r, h4, h5⟩ := h3 hk
      simp only [if_true, h4, Option.bind_some, h5]
      rw [if_pos ⟨by omega, cell_same⟩, lcGo_map keep v ds (acc ++ [v d]) (fun x hx => h x (List.mem_cons_of_mem _ hx)) (by rw [List.length_append, List.length_singleton]; omega)]
      simp [List.filter_cons, hk]
    | false =>
      simp only [Bool.false_eq_true, if_false, cell_same, if_true]
      rw [lcGo_map keep v ds acc (fun x hx => h x (List.mem_cons_of_mem _ hx)) (by omega)]
      simp [List.filter_cons, hk]
theorem lc_map {it : XI} {t : Tg} {c : XT} {e : XE} {vs : List Nat} {ρ : Env} {S : Sto} {ds : List P} {l : Option Nat} (keep : P → Bool) (v : P → P) (hi : it ρ S = some (ds, l, S))
    (h : ∀ d ∈ ds, ∃ ρ1, t.put d (wipeE ρ vs) = some ρ1 ∧ c ρ1 S = some (keep d, S) ∧ (keep d = true → ∃ r, e ρ1 S = some (r, S) ∧ r.fz = some (v d))) (hl : ds.length ≤ big) :
    xLc it t c e vs ρ S = some (.frl ((ds.filter keep).map v), S) := by
  unfold xLc
  rw [hi]
  simp only [Option.bind_some]
  rw [lcGo_map keep v ds [] h (by simpa using hl)]
  simp
/-- without a guard -/
theorem lc_all {it : XI} {t : Tg} {e : XE} {vs : List Nat} {ρ : Env} {S : Sto} {ds : List P} {l : Option Nat} (v : P → P) (hi : it ρ S = some (ds, l, S))
    (h : ∀ d ∈ ds, ∃ ρ1, t.put d (wipeE ρ vs) = some ρ1 ∧ ∃ r, e ρ1 S = some (r, S) ∧ r.fz = some (v d)) (hl : ds.length ≤ big) :
    xLc it t xTyes e vs ρ S = some (.frl (ds.map v), S) := by
  have := lc_map (c := xTyes) (fun _ => true) v hi (fun d hd => by
    obtain ⟨ρ1, h1, h2⟩ := h d hd
    exact ⟨ρ1, h1, rfl, fun _ => h2⟩) hl
  rw [this, filt_true]
/-- two fors -/
theorem lc2_go {l : Option Nat} {S : Sto} {t t1 : Tg} {it1 : XI} {e : XE} {ρ : Env} {vs1 : List Nat} (w : P → List P) (v : P → P → P) : ∀ (ds acc : List P),
    (∀ d ∈ ds, ∃ ρ1 l1, t.put d ρ = some ρ1 ∧ it1 ρ1 S = some (w d, l1, S) ∧ ∀ x ∈ w d, ∃ ρ2, t1.put x (wipeE ρ1 vs1) = some ρ2 ∧ ∃ r, e ρ2 S = some (r, S) ∧ r.fz = some (v d x)) → acc.length + (ds.flatMap w).length ≤ big →
    lc2Go l S t xTyes it1 t1 xTyes e ρ vs1 ds acc S = some (acc ++ ds.flatMap fun d => (w d).map (v d), S)
  | [], acc, _, _ => by simp [lc2Go]
  | d :: ds, acc, h, hl => by
    obtain ⟨ρ1, l1, h1, h2, h3⟩ := h d List.mem_cons_self
    simp only [List.flatMap_cons, List.length_append] at hl
    unfold lc2Go
    rw [h1]
    simp only [Option.bind_some, e_Tyes, if_true, h2]
    rw [lcGo_map (fun _ => true) (v d) (w d) acc (fun x hx => by
      obtain ⟨ρ2, q1, q2⟩ := h3 x hx
      exact ⟨ρ2, q1, rfl, fun _ => q2⟩) (by omega)]
    simp only [Option.bind_some, cell_same, if_true, filt_true]
    rw [lc2_go w v ds _ (fun x hx => h x (List.mem_cons_of_mem _ hx)) (by rw [List.length_append, List.length_map]; omega)]
    simp
theorem lc2_all {it it1 : XI} {t t1 : Tg} {e : XE} {vs vs1 : List Nat} {ρ : Env} {S : Sto} {ds : List P} {l : Option Nat} (w : P → List P) (v : P → P → P) (hi : it ρ S = some (ds, l, S))
    (h : ∀ d ∈ ds, ∃ ρ1 l1, t.put d (wipeE ρ vs) = some ρ1 ∧ it1 ρ1 S = some (w d, l1, S) ∧ ∀ x ∈ w d, ∃ ρ2, t1.put x (wipeE ρ1 vs1) = some ρ2 ∧ ∃ r, e ρ2 S = some (r, S) ∧ r.fz = some (v d x)) (hl : (ds.flatMap w).length ≤ big) :
    xLc2 it t xTyes it1 t1 xTyes e vs vs1 ρ S = some (.frl (ds.flatMap fun d => (w d).map (v d)), S) := by
  unfold xLc2
  rw [hi]
  simp only [Option.bind_some]
  rw [lc2_go w v ds [] h (by simpa using hl)]
  simp
theorem gc_same {n0 : Nat} {ρ : Env} {S : Sto} (h : S.length ≤ n0) : gc n0 ρ S = (ρ, S) := by unfold gc; rw [if_pos h]
/-- a for: what holds ahead of each turn -/
theorem for_go {n0 : Nat} {l : Option Nat} {S0 : Sto} {t : Tg} {b : XS} (I : List P → Env → Sto → Prop)
    (step : ∀ d ds ρ S, I (d :: ds) ρ S → ∃ ρ1 ρ2 S2, t.put d ρ = some ρ1 ∧ b ρ1 S = some (.nx ρ2, S2) ∧ cellOk l S0 S2 = true ∧ S2.length ≤ n0 ∧ I ds ρ2 S2) : ∀ ds ρ S, I ds ρ S → ∃ ρ' S', forGo n0 l S0 t b ds ρ S = some (.nx ρ', S') ∧ I [] ρ' S'
  | [], ρ, S, h => ⟨ρ, S, rfl, h⟩
  | d :: ds, ρ, S, h => by
    obtain ⟨ρ1, ρ2, S2, h1, h2, h3, h4, h5⟩ := step d ds ρ S h
    obtain ⟨ρ', S', h6, h7⟩ := for_go I step ds ρ2 S2 h5
    refine ⟨ρ', S', ?_, h7⟩
    unfold forGo
    rw [h1]
    simp only [Option.bind_some, h2, gc_same h4, h3, if_true]
    exact h6
/-- a walk that changes nothing but its own slots -/
theorem itA_tup {a : XE} {ρ : Env} {S : Sto} {ds : List P} (h : a ρ S = some (.p (.tup ds), S)) : xItA a ρ S = some (ds, none, S) := by simp [xItA, xIt, h]
theorem rng1 {a : XE} {ρ : Env} {S : Sto} {n : Nat} (h : a ρ S = some (.p (.int n), S)) (hn : n ≤ 1000000) : xRng1 a ρ S = some (intsFrom 0 n, none, S) := by
  simp only [xRng1, h, Option.bind_some]
  rw [if_pos ⟨by omega, by omega⟩]; simp
theorem intsFrom_eq : ∀ (n : Nat) (lo : Int), intsFrom lo n = (List.range n).map fun (i : Nat) => P.int (lo + i)
  | 0, lo => rfl
  | n + 1, lo => by
    rw [intsFrom, intsFrom_eq n (lo + 1), List.range_succ_eq_map, List.map_cons, List.map_map]
    simp only [Int.natCast_zero, Int.add_zero, List.cons.injEq, true_and]
    refine List.map_congr_left fun i _ => ?_
    simp only [Function.comp, P.int.injEq, Nat.succ_eq_add_one, Int.natCast_add]
    omega
/-! ### sorted ints, each once -/
def insS (x : Int) : List Int → List Int
  | [] => [x]
  | y :: ys => if x < y then x :: y :: ys else if x = y then y :: ys else y :: insS x ys
def endsOf : List Int → List Int
  | [] => []
  | x :: xs => insS x (endsOf xs)
/-- how many different numbers of a list are less -/
def rk (x : Int) : List Int → Nat
  | [] => 0
  | y :: ys => (if y ∈ ys then 0 else if y < x then 1 else 0) + rk x ys
abbrev Asc (l : List Int) : Prop := l.Pairwise (· < ·)
theorem insS_mem {x z : Int} : ∀ {l : List Int}, z ∈ insS x l ↔ z = x ∨ z ∈ l
  | [] => by simp [insS]
  | y :: ys => by
    unfold insS
    split
    · simp
    · split
      · rename_i h; subst h; simp
      · simp [insS_mem (l := ys)]
        constructor <;> rintro (h | h | h) <;> simp [h]
theorem insS_asc {x : Int} : ∀ {l : List Int}, Asc l → Asc (insS x l)
  | [], _ => by simp [insS]
  | y :: ys, h => by
    obtain ⟨h1, h2⟩ := List.pairwise_cons.mp h
    unfold insS
    split
    · rename_i c
      refine List.pairwise_cons.mpr ⟨fun z hz => ?_, h⟩
      rcases List.mem_cons.mp hz with rfl | hz
      · exact c
      · exact Int.lt_trans c (h1 z hz)
    · split
      · exact h
      · rename_i c d
        refine List.pairwise_cons.mpr ⟨fun z hz => ?_, insS_asc h2⟩
        rcases insS_mem.mp hz with rfl | hz
        · omega
        · exact h1 z hz
theorem ends_mem {z : Int} : ∀ {l : List Int}, z ∈ endsOf l ↔ z ∈ l
  | [] => by simp [endsOf]
  | y :: ys => by simp [endsOf, insS_mem, ends_mem (l := ys)]
theorem ends_asc : ∀ (l : List Int), Asc (endsOf l)
  | [] => List.Pairwise.nil
  | y :: ys => insS_asc (ends_asc ys)
theorem asc_one : ∀ {l m : List Int}, Asc l → Asc m → (∀ k, k ∈ l ↔ k ∈ m) → l = m
  | [], [], _, _, _ => rfl
  | [], y :: ys, _, _, h => absurd ((h y).mpr List.mem_cons_self) (by simp)
  | x :: xs, [], _, _, h => absurd ((h x).mp List.mem_cons_self) (by simp)
  | x :: xs, y :: ys, hl, hm, h => by
    obtain ⟨a1, a2⟩ := List.pairwise_cons.mp hl
    obtain ⟨b1, b2⟩ := List.pairwise_cons.mp hm
    have e : x = y := by
      rcases List.mem_cons.mp ((h x).mp List.mem_cons_self) with e | e
      · exact e
      · rcases List.mem_cons.mp ((h y).mpr List.mem_cons_self) with e' | e'
        · exact e'.symm
        · have := b1 x e; have := a1 y e'; omega
    subst e
    rw [asc_one a2 b2 fun k => ?_]
    constructor
    · intro hk
      rcases List.mem_cons.mp ((h k).mp (List.mem_cons_of_mem _ hk)) with e | e
      · subst e; have := a1 k hk; omega
      · exact e
    · intro hk
      rcases List.mem_cons.mp ((h k).mpr (List.mem_cons_of_mem _ hk)) with e | e
      · subst e; have := b1 k hk; omega
      · exact e
theorem ends_congr {l m : List Int} (h : ∀ k, k ∈ l ↔ k ∈ m) : endsOf l = endsOf m := asc_one (ends_asc l) (ends_asc m) fun k => by rw [ends_mem, ends_mem]; exact h k
theorem lt_ints (x y : Int) : P.lt (.int x) (.int y) = decide (x < y) := by simp only [P.lt]
theorem pyeq_ints (x y : Int) : P.pyeq (.int x) (.int y) = decide (x = y) := by simp only [P.pyeq]
theorem insP_int (x : Int) : ∀ l : List Int, x ∉ l → insP (.int x) (l.map P.int) = (insS x l).map P.int
  | [], _ => rfl
  | y :: ys, h => by
    simp only [List.mem_cons, not_or] at h
    rw [List.map_cons]
    unfold insP insS
    by_cases c : y < x
    · rw [if_pos (by rw [lt_ints]; exact decide_eq_true c), if_neg (show ¬ x < y by omega), if_neg h.1, insP_int x ys h.2]; rfl
    · rw [if_neg (by rw [lt_ints]; simpa using c), if_pos (show x < y by omega)]; rfl
theorem sortSet_int : ∀ l : List Int, sortP (dedupP (l.map P.int)) = (endsOf l).map P.int
  | [] => rfl
  | x :: xs => by
    have hm : (P.int x ∈ xs.map P.int) ↔ x ∈ xs := by simp
    simp only [List.map_cons, dedupP]
    by_cases c : x ∈ xs
    · rw [if_pos (hm.mpr c), sortSet_int xs]
      congr 1
      refine ends_congr fun k => ⟨fun h => List.mem_cons_of_mem _ h, fun h => ?_⟩
      rcases List.mem_cons.mp h with rfl | h
      · exact c
      · exact h
    · rw [if_neg (fun z => c (hm.mp z)), sortP, sortSet_int xs, insP_int x _ (fun z => c (ends_mem.mp z))]; rfl
theorem setOk_int {l : List Int} (h : l.length ≤ 4000) : setOk (l.map P.int) = true := by
  unfold setOk
  simp [isIntP, h]
theorem sortedSet_int {l : List Int} (h : l.length ≤ 4000) : uSortedSet (.lst (l.map P.int)) = some (.frl ((endsOf l).map P.int)) := by
  have : uSortedSet (.lst (l.map P.int)) = some (.frl (sortP (dedupP (l.map P.int)))) := if_pos (setOk_int h)
  rw [this, sortSet_int]
theorem rk_ins {x y : Int} : ∀ {l : List Int}, Asc l → ((insS y l).filter fun z => decide (z < x)).length = (if y ∈ l then 0 else if y < x then 1 else 0) + (l.filter fun z => decide (z < x)).length
  | [], _ => by
    simp only [insS, List.not_mem_nil, if_false, List.filter_nil, List.length_nil, Nat.add_zero]
    by_cases c : y < x <;> simp [c]
  | z :: zs, h => by
    obtain ⟨h1, h2⟩ := List.pairwise_cons.mp h
    unfold insS
    by_cases c : y < z
    · have hn : y ∉ z :: zs := by
        intro q
        rcases List.mem_cons.mp q with e | e
        · omega
        · have := h1 y e; omega
      rw [if_pos c, if_neg hn]
      by_cases d : y < x <;> simp [List.filter_cons, d] <;> omega
    · rw [if_neg c]
      by_cases e : y = z
      · rw [if_pos e, if_pos (by simp [e])]; omega
      · rw [if_neg e]
        have hm : y ∈ z :: zs ↔ y ∈ zs := by simp [e]
        have ih := rk_ins (x := x) (y := y) h2
        by_cases d : z < x
        · simp only [List.filter_cons, d, decide_true, if_true, List.length_cons, ih, hm]; omega
        · simp only [List.filter_cons, d, decide_false, Bool.false_eq_true, if_false, ih, hm]
theorem rk_ends {x : Int} : ∀ l : List Int, ((endsOf l).filter fun z => decide (z < x)).length = rk x l
  | [] => rfl
  | y :: ys => by
    show ((insS y (endsOf ys)).filter _).length = _
    rw [rk_ins (ends_asc ys), rk_ends ys]
    simp only [ends_mem, rk]
/-- the place in an ascending list -/
theorem idx_asc {x : Int} : ∀ {l : List Int}, Asc l → x ∈ l → idxIn (.int x) (l.map P.int) = some (l.filter fun z => decide (z < x)).length
  | [], _, h => by cases h
  | z :: zs, h, hx => by
    obtain ⟨h1, h2⟩ := List.pairwise_cons.mp h
    rw [List.map_cons]
    unfold idxIn
    by_cases e : z = x
    · subst e
      rw [if_pos (by rw [pyeq_ints]; simp)]
      have : (z :: zs).filter (fun w => decide (w < z)) = [] := by
        rw [List.filter_eq_nil_iff]
        intro w hw
        rcases List.mem_cons.mp hw with rfl | hw
        · simp
        · have := h1 w hw; simp; omega
      rw [this]; rfl
    · rw [if_neg (by rw [pyeq_ints]; simpa using e)]
      have hx' : x ∈ zs := (List.mem_cons.mp hx).resolve_left (Ne.symm e)
      have := h1 x hx'
      rw [idx_asc h2 hx', List.filter_cons, if_pos (by simpa using this)]; rfl
theorem idx_ends {x : Int} {l : List Int} (h : x ∈ l) : idxIn (.int x) ((endsOf l).map P.int) = some (rk x l) := by
  rw [idx_asc (ends_asc l) (ends_mem.mpr h), rk_ends]
theorem index_ends {x : Int} {l : List Int} (h : x ∈ l) : mIndex (.lst ((endsOf l).map P.int)) [.int x] = some (.p (.int (rk x l))) := by
  simp [mIndex, idx_ends h]
end XL
end
section
set_option Elab.async false
set_option linter.all false
set_option autoImplicit false
set_option maxRecDepth 100000
set_option maxHeartbeats 1000000
namespace XL
/-! ### scenes -/
abbrev Span := Int × Int
def pr (x : Span) : P := .tup [.int x.1, .int x.2]
def scP (sc : List Span) : P := .tup (sc.map pr)
def endsL (sc : List Span) : List Int := sc.flatMap fun x => [x.1, x.2]
def form (sc : List Span) : List Span := sc.map fun x => (((rk x.1 (endsL sc) : Nat) : Int), ((rk x.2 (endsL sc) : Nat) : Int))
structure SpanOk (x : Span) : Prop where
  lo : -1000 ≤ x.1
  mid : x.1 < x.2
  hi : x.2 ≤ 1000
structure Valid (sc : List Span) : Prop where
  one : 1 ≤ sc.length
  five : sc.length ≤ 5
  ok : ∀ x ∈ sc, SpanOk x
theorem fin_same {k n : Nat} {b : XS} {args : List D} {S : Sto} {d : P} (hk : args.length = k) (h : b (startE n args) S = some (.rt (.p d), S)) : mkF k n b args S = some (.p d, S) :=
  mkF_p hk h (List.take_of_length_le (Nat.le_refl _))
theorem fin_none {k n : Nat} {b : XS} {args : List D} {ρ : Env} {S : Sto} (hk : args.length = k) (h : b (startE n args) S = some (.nx ρ, S)) : mkF k n b args S = some (.p .non, S) := by
  unfold mkF
  rw [if_pos hk, h]
  simp
theorem take_app {S T : Sto} : (S ++ T).take S.length = S := by simp
theorem is_between_int (v lo hi : Int) (S : Sto) : f_is_between [.p (.int v), .p (.int lo), .p (.int hi)] S = some (.p (.bl (decide (lo ≤ v ∧ v ≤ hi))), S) := by
  refine fin_same rfl ?_
  by_cases h : lo ≤ v <;> simp [b_is_between, startE, h]
theorem is_scene_ok {sc : List Span} (h : Valid sc) (S : Sto) : f_is_scene [.p (scP sc)] S = some (.p (.bl true), S) := by
  refine fin_same rfl ?_
  have h1 := h.one
  have h5 := h.five
  unfold b_is_scene
  have k1 : xTor (xTnot (xB (xUn (pIsi isiTuple) (xVar 0)))) (xTnot (xB (xChain pLe pLe (xC (.int 1)) (xCall cLen (xCons (xVar 0) xNil)) (xC (.int 5))))) (startE 2 [.p (scP sc)]) S = some (false, S) := by
    have a1 : (1 : Int) ≤ sc.length := by omega
    have a2 : (sc.length : Int) ≤ 5 := by omega
    simp [startE, scP, a1, a2]
  rw [seq_nx (if_no k1)]
  have k2 : ∃ ρ', xFor (xItA (xVar 0)) (.nm 1)
    (xSeq (xIfS (xTor (xTnot (xB (xUn (pIsi isiTuple) (xVar 1)))) (xTor (xB (xBin pNe (xCall cLen (xCons (xVar 1) xNil)) (xC (.int 2)))) (xTnot (xB (xDef f_is_between (xConsD (xBin pIx (xVar 1) (xC (.int 0))) (xConsD (xUn pNeg (xC (.int 1000))) (xConsD (xC (.int 1000)) xNilD))))))))
    (xRet (xC (.bl false)))
    xPass)
    (xIfS (xTnot (xB (xDef f_is_between (xConsD (xBin pIx (xVar 1) (xC (.int 1))) (xConsD (xBin pAdd (xBin pIx (xVar 1) (xC (.int 0))) (xC (.int 1))) (xConsD (xC (.int 1000)) xNilD))))))
    (xRet (xC (.bl false)))
    xPass)) (startE 2 [.p (scP sc)]) S = some (.nx ρ', S) := by
    unfold xFor
    rw [itA_tup (ds := sc.map pr) (by simp [startE, scP])]
    simp only [Option.bind_some]
    obtain ⟨ρ', S', e, hI⟩ := for_go (n0 := S.length) (l := none) (S0 := S) (t := .nm 1) (b := xSeq (xIfS (xTor (xTnot (xB (xUn (pIsi isiTuple) (xVar 1)))) (xTor (xB (xBin pNe (xCall cLen (xCons (xVar 1) xNil)) (xC (.int 2)))) (xTnot (xB (xDef f_is_between (xConsD (xBin pIx (xVar 1) (xC (.int 0))) (xConsD (xUn pNeg (xC (.int 1000))) (xConsD (xC (.int 1000)) xNilD))))))))
    (xRet (xC (.bl false)))
    xPass)
    (xIfS (xTnot (xB (xDef f_is_between (xConsD (xBin pIx (xVar 1) (xC (.int 1))) (xConsD (xBin pAdd (xBin pIx (xVar 1) (xC (.int 0))) (xC (.int 1))) (xConsD (xC (.int 1000)) xNilD))))))
    (xRet (xC (.bl false)))
    xPass)) (fun ds ρ S' => S' = S ∧ (∃ y, ρ = [some (.p (scP sc)), y]) ∧ ∀ d ∈ ds, ∃ x, SpanOk x ∧ d = pr x) (fun d ds ρ S' hI => by
      obtain ⟨rfl, ⟨y, rfl⟩, hd⟩ := hI
      obtain ⟨x, hx, rfl⟩ := hd d List.mem_cons_self
      have h1 := hx.lo
      have h2 := hx.mid
      have h3 := hx.hi
      have b1 : -1000 ≤ x.1 ∧ x.1 ≤ 1000 := by omega
      have b2 : x.1 + 1 ≤ x.2 ∧ x.2 ≤ 1000 := by omega
      refine ⟨_, [some (.p (scP sc)), some (.p (pr x))], S', rfl, ?_, rfl, Nat.le_refl _, rfl, ⟨_, rfl⟩, fun e he => hd e (List.mem_cons_of_mem _ he)⟩
      simp [pr, is_between_int, b1, b2]) (sc.map pr) (startE 2 [.p (scP sc)]) S ⟨rfl, ⟨none, rfl⟩, fun d hd => by
        obtain ⟨x, hx, rfl⟩ := List.mem_map.mp hd
        exact ⟨x, h.ok x hx, rfl⟩⟩
    obtain ⟨rfl, _, _⟩ := hI
    exact ⟨ρ', e⟩
  obtain ⟨ρ', k2⟩ := k2
  rw [seq_nx k2]
  rfl
theorem check_scene_ok {sc : List Span} (h : Valid sc) (S : Sto) : f_check_scene [.p (scP sc)] S = some (.p .non, S) := by
  refine fin_none (ρ := [some (.p (scP sc))]) rfl ?_
  simp [b_check_scene, startE, is_scene_ok h]
theorem endsL_len (sc : List Span) : (endsL sc).length = 2 * sc.length := by
  induction sc with
  | nil => rfl
  | cons x xs ih => simp [endsL] at ih ⊢; omega
theorem mem_ends {sc : List Span} {x : Span} (h : x ∈ sc) : x.1 ∈ endsL sc ∧ x.2 ∈ endsL sc := by
  unfold endsL
  constructor <;> exact List.mem_flatMap.mpr ⟨x, h, by simp⟩
theorem found_form_ok {sc : List Span} (hl : sc.length ≤ 1000) (S : Sto) : f_found_form [.p (scP sc)] S = some (.p (scP (form sc)), S) := by
  have k1 : xSet 1 (xUn uSortedSet (xLc2 (xItA (xVar 0)) (.nm 2) xTyes (xItA (xVar 2)) (.nm 3) xTyes (xVar 3) [2, 3] [3])) (startE 5 [.p (scP sc)]) S = some (.nx [some (.p (scP sc)), some (.ref S.length), none, none, none], S ++ [.lst ((endsOf (endsL sc)).map P.int)]) := by
    have e : xLc2 (xItA (xVar 0)) (.nm 2) xTyes (xItA (xVar 2)) (.nm 3) xTyes (xVar 3) [2, 3] [3] (startE 5 [.p (scP sc)]) S = some (.frl ((endsL sc).map P.int), S) := by
      rw [lc2_all (ds := sc.map pr) (l := none) (fun d => match d with | .tup l => l | _ => []) (fun _ x => x) (itA_tup (by simp [startE, scP])) (fun d hd => by
        obtain ⟨x, hx, rfl⟩ := List.mem_map.mp hd
        refine ⟨_, none, rfl, itA_tup (by simp [startE, wipeE, pr]), fun y hy => ⟨_, rfl, ?_⟩⟩
        refine ⟨.p y, ?_, rfl⟩
        simp [startE, wipeE]) (by
          have : (sc.map pr).flatMap (fun d => match d with | .tup l => l | _ => []) = sc.flatMap fun x => [P.int x.1, P.int x.2] := by
            rw [List.flatMap_map]; rfl
          rw [this]
          have e2 : (sc.flatMap fun x => [P.int x.1, P.int x.2]).length = 2 * sc.length := by
            clear this hl
            induction sc with
            | nil => rfl
            | cons x xs ih => simp at ih ⊢; omega
          rw [e2, big_is]; omega)]
      simp only [List.map_id']
      congr 3
      clear hl
      induction sc with
      | nil => rfl
      | cons x xs ih => simp [endsL, pr] at ih ⊢; exact ih
    have e2 : xUn uSortedSet (xLc2 (xItA (xVar 0)) (.nm 2) xTyes (xItA (xVar 2)) (.nm 3) xTyes (xVar 3) [2, 3] [3]) (startE 5 [.p (scP sc)]) S = some (.frl ((endsOf (endsL sc)).map P.int), S) := by
      rw [e_Un, e]
      simp only [Option.bind_some, rd_frl]
      rw [sortedSet_int (by rw [endsL_len]; omega)]; rfl
    rw [set_frl e2]; rfl
  have k2 : xLc (xItA (xVar 0)) (.tp [4, 3]) xTyes (xTup (xCons (xMeth .lst mIndex (xVar 1) (xCons (xVar 4) xNil)) (xCons (xMeth .lst mIndex (xVar 1) (xCons (xVar 3) xNil)) xNil))) [4, 3] [some (.p (scP sc)), some (.ref S.length), none, none, none] (S ++ [.lst ((endsOf (endsL sc)).map P.int)]) = some (.frl ((form sc).map pr), S ++ [.lst ((endsOf (endsL sc)).map P.int)]) := by
    rw [lc_all (ds := sc.map pr) (l := none) (fun d => match d with | .tup [.int a, .int b] => pr ((rk a (endsL sc) : Nat), (rk b (endsL sc) : Nat)) | _ => .non) (itA_tup (by simp [scP])) (fun d hd => by
      obtain ⟨x, hx, rfl⟩ := List.mem_map.mp hd
      refine ⟨[some (.p (scP sc)), some (.ref S.length), none, some (.p (.int x.2)), some (.p (.int x.1))], rfl, .p (pr ((rk x.1 (endsL sc) : Nat), (rk x.2 (endsL sc) : Nat))), ?_, rfl⟩
      obtain ⟨m1, m2⟩ := mem_ends hx
      simp [R.rd, isTy, index_ends m1, index_ends m2, pr]) (by rw [big_is, List.length_map]; omega)]
    congr 3
    simp [form, pr, List.map_map, Function.comp]
  have k3 : b_found_form (startE 5 [.p (scP sc)]) S = some (.rt (.p (scP (form sc))), S ++ [.lst ((endsOf (endsL sc)).map P.int)]) := by
    unfold b_found_form
    rw [seq_nx k1]
    refine ret_p ?_
    rw [e_Call, e_Cons, k2]
    simp [scP]
  exact mkF_p rfl k3 take_app
theorem form_of_ok {sc : List Span} (h : Valid sc) (S : Sto) : f_form_of [.p (scP sc)] S = some (.p (scP (form sc)), S) := by
  refine fin_same rfl ?_
  have h5 := h.five
  simp [b_form_of, startE, check_scene_ok h, found_form_ok (show sc.length ≤ 1000 by omega)]
end XL
end
section
set_option Elab.async false
set_option linter.all false
set_option autoImplicit false
set_option maxRecDepth 100000
set_option maxHeartbeats 1000000
namespace XL
/-! ### ways -/
def letter (x y : Span) : List Nat :=
  if x.2 ≤ y.1 then (if x.2 = y.1 then [109] else [98])
  else if y.2 ≤ x.1 then (if y.2 = x.1 then [77] else [66])
  else if x.1 = y.1 then (if x.2 = y.2 then [101] else if x.2 < y.2 then [115] else [83])
  else if x.2 = y.2 then (if y.1 < x.1 then [102] else [70])
  else if x.1 < y.1 then (if x.2 < y.2 then [111] else [68])
  else (if x.2 < y.2 then [100] else [79])
theorem letter_of_ok (x y : Span) (S : Sto) : f_letter_of [.p (pr x), .p (pr y)] S = some (.p (.str (letter x y)), S) := by
  refine fin_same rfl ?_
  obtain ⟨a, b⟩ := x
  obtain ⟨c, d⟩ := y
  unfold letter
  by_cases h1 : b ≤ c
  · by_cases h : b = c
    · subst h; simp [b_letter_of, startE, pr]
    · simp [b_letter_of, startE, pr, h1, h]
  · by_cases h2 : d ≤ a
    · by_cases h : d = a
      · subst h; simp [b_letter_of, startE, pr, h1]
      · simp [b_letter_of, startE, pr, h1, h2, h]
    · by_cases h3 : a = c
      · subst h3
        by_cases h : b = d
        · subst h; simp [b_letter_of, startE, pr, h1]
        · by_cases h' : b < d <;> simp [b_letter_of, startE, pr, h1, h2, h, h']
      · by_cases h4 : b = d
        · subst h4
          by_cases h : c < a <;> simp [b_letter_of, startE, pr, h1, h2, h3, h]
        · by_cases h5 : a < c <;> by_cases h : b < d <;> simp [b_letter_of, startE, pr, h1, h2, h3, h4, h5, h]
theorem law_letter_ok (x y : Span) (hx : x.1 < x.2) (hy : y.1 < y.2) (S : Sto) : f_law_letter [.p (pr x), .p (pr y)] S = some (.p (.str (letter x y)), S) := by
  refine fin_same rfl ?_
  obtain ⟨a, b⟩ := x
  obtain ⟨c, d⟩ := y
  simp only at hx hy
  have i1 : ∀ s1 s2 s3 : P, pIx (.tup [s1, s2, s3]) (.int 1) = some (.p s2) := fun _ _ _ => rfl
  have g : ∀ (t : List Nat) (u v w : Nat), t = [u, v, w] → pIx (.str t) (.int 0) = some (.p (.str [u])) ∧ pIx (.str t) (.int 1) = some (.p (.str [v])) ∧ pIx (.str t) (.int 2) = some (.p (.str [w])) := fun t u v w e => by subst e; exact ⟨rfl, rfl, rfl⟩
  have g1 := g [111, 70, 68] _ _ _ rfl
  have g2 := g [115, 101, 83] _ _ _ rfl
  have g3 := g [100, 102, 79] _ _ _ rfl
  unfold letter
  rcases Int.lt_trichotomy b c with h1 | h1 | h1
  · have : b ≤ c := by omega
    have : ¬ b = c := by omega
    simp [b_law_letter, startE, pr, *]
  · subst h1
    have : ¬ d < a := by omega
    simp [b_law_letter, startE, pr, *]
  · have n1 : ¬ b ≤ c := by omega
    have n2 : ¬ b < c := by omega
    have n3 : ¬ b = c := by omega
    rcases Int.lt_trichotomy d a with h2 | h2 | h2
    · have : d ≤ a := by omega
      have : ¬ d = a := by omega
      simp [b_law_letter, startE, pr, *]
    · subst h2
      simp [b_law_letter, startE, pr, *]
    · have n4 : ¬ d ≤ a := by omega
      have n5 : ¬ d < a := by omega
      have n6 : ¬ d = a := by omega
      rcases Int.lt_trichotomy a c with h3 | h3 | h3
      · have : ¬ c < a := by omega
        have : ¬ a = c := by omega
        rcases Int.lt_trichotomy b d with h4 | h4 | h4
        · have : ¬ d < b := by omega
          have : ¬ b = d := by omega
          simp [b_law_letter, startE, pr, cInt, *]
        · subst h4
          simp [b_law_letter, startE, pr, cInt, *]
        · have : ¬ b < d := by omega
          have : ¬ b = d := by omega
          simp [b_law_letter, startE, pr, cInt, *]
      · subst h3
        rcases Int.lt_trichotomy b d with h4 | h4 | h4
        · have : ¬ d < b := by omega
          have : ¬ b = d := by omega
          simp [b_law_letter, startE, pr, cInt, *]
        · subst h4
          simp [b_law_letter, startE, pr, cInt, *]
        · have : ¬ b < d := by omega
          have : ¬ b = d := by omega
          simp [b_law_letter, startE, pr, cInt, *]
      · have : ¬ a < c := by omega
        have : ¬ a = c := by omega
        rcases Int.lt_trichotomy b d with h4 | h4 | h4
        · have : ¬ d < b := by omega
          have : ¬ b = d := by omega
          simp [b_law_letter, startE, pr, cInt, *]
        · subst h4
          simp [b_law_letter, startE, pr, cInt, *]
        · have : ¬ b < d := by omega
          have : ¬ b = d := by omega
          simp [b_law_letter, startE, pr, cInt, *]
end XL
end
section
set_option Elab.async false
set_option linter.all false
set_option autoImplicit false
set_option maxRecDepth 100000
set_option maxHeartbeats 1000000
namespace XL
/-! ### texts of one-letter ways -/
/-- the letters that are in a text, in their sequence -/
def inSeq (s : List Nat) : List Nat := c_LETTERS.filter fun c => decide (c ∈ s)
def IsWays (s : List Nat) : Prop := s ≠ [] ∧ inSeq s = s
instance (s : List Nat) : Decidable (IsWays s) := by unfold IsWays; infer_instance
theorem IsWays.mem {s : List Nat} (h : IsWays s) {c : Nat} (hc : c ∈ s) : c ∈ c_LETTERS := by
  rw [← h.2] at hc
  exact (List.mem_filter.mp hc).1
theorem letters_small : ∀ c ∈ c_LETTERS, c < 128 := by decide
theorem IsWays.small {s : List Nat} (h : IsWays s) : ∀ c ∈ s, c < 1114112 := fun c hc => by
  have := letters_small c (h.mem hc); omega
theorem IsWays.len {s : List Nat} (h : IsWays s) : s.length ≤ 13 := by
  rw [← h.2]; exact Nat.le_trans (List.length_filter_le _ _) (by decide)
/-! ### the way the other way round -/
def convC (c : Nat) : Nat := match t_CONVERSES.lookup [c] with
  | some (.str [x]) => x
  | _ => lowC c
def insN (x : Nat) : List Nat → List Nat
  | [] => [x]
  | y :: ys => if y < x then y :: insN x ys else x :: y :: ys
def sortN : List Nat → List Nat
  | [] => []
  | x :: xs => insN x (sortN xs)
def conv (s : List Nat) : List Nat := sortN (s.map convC)
theorem insN_len (x : Nat) : ∀ l : List Nat, (insN x l).length = l.length + 1
  | [] => rfl
  | y :: ys => by unfold insN; split <;> simp [insN_len x ys]
theorem sortN_len : ∀ l : List Nat, (sortN l).length = l.length
  | [] => rfl
  | x :: xs => by rw [sortN, insN_len, sortN_len xs]; rfl
end XL
end
section
set_option Elab.async false
set_option linter.all false
set_option autoImplicit false
set_option maxRecDepth 100000
set_option maxHeartbeats 1000000
namespace XL
/-! ### the law's own helpers -/
abbrev scr (ns : List Int) : D := .p (.lst (ns.map P.int))
theorem law_town_ok {ns : List Int} (hl : ns.length ≤ 63) (S : Sto) : f_law_town [scr ns] S = some (.frl (.int 0 :: ns.map P.int), S) := by
  have h : ns.length + 1 ≤ 1000000 := by omega
  have h2 : 1 + ns.length ≤ 1000000 := by omega
  simp [f_law_town, mkF, b_law_town, startE, pAdd, h, h2]
theorem town_new {ns : List Int} {S : Sto} : Town ns S.length 0 (S ++ [.lst (.int 0 :: ns.map P.int)]) := ⟨0, ns, by simp, rfl, by omega, by omega⟩
theorem Town.mono {ns : List Int} {l : Nat} {c c' : Int} {S : Sto} (h : Town ns l c S) (hc : c ≤ c') : Town ns l c' S := by
  obtain ⟨t0, tr, h1, h2, h3, h4⟩ := h
  exact ⟨t0, tr, h1, h2, h3, by omega⟩
theorem Town.app {ns : List Int} {l : Nat} {c : Int} {S T : Sto} (h : Town ns l c S) : Town ns l c (S ++ T) := by
  obtain ⟨t0, tr, h1, h2, h3, h4⟩ := h
  exact ⟨t0, tr, by rw [List.getElem?_append_left (List.getElem?_eq_some_iff.mp h1).1]; exact h1, h2, h3, h4⟩
theorem Town.lt {ns : List Int} {l : Nat} {c : Int} {S : Sto} (h : Town ns l c S) : l < S.length := by
  obtain ⟨t0, tr, h1, h2, h3, h4⟩ := h
  exact (List.getElem?_eq_some_iff.mp h1).1
theorem Town.of_app {ns : List Int} {l : Nat} {c : Int} {S T : Sto} (h : Town ns l c (S ++ T)) (hl : l < S.length) : Town ns l c S := by
  obtain ⟨t0, tr, h1, h2, h3, h4⟩ := h
  rw [List.getElem?_append_left hl] at h1
  exact ⟨t0, tr, h1, h2, h3, h4⟩
theorem law_pick_ok {ns : List Int} {l : Nat} {c : Int} {S : Sto} (hT : Town ns l c S) (hc : c < 1000000) (ch : List P) (h0 : ch ≠ []) (h1 : ch.length < 1000000) :
    ∃ d S', f_law_pick [scr ns, .ref l, .p (.lst ch)] S = some (.p d, S') ∧ d ∈ ch ∧ ∃ C, S' = S.set l C ∧ Town ns l (c + 1) S' := by
  have hpos : 0 < ch.length := List.length_pos_iff.mpr h0
  obtain ⟨v, S', e, v0, v1, C, eC, hT'⟩ := draw_ok (ns := ns) (lim := (ch.length : Int)) hT hc (by omega) (by omega)
  have hv : v.toNat < ch.length := by omega
  have e2 : pIx (.lst ch) (.int v) = some (.p ch[v.toNat]) := ix_lst_of v0 (List.getElem?_eq_getElem hv)
  refine ⟨ch[v.toNat], S', ?_, List.getElem_mem hv, C, eC, hT'⟩
  have hl : S'.take S.length = S' := List.take_of_length_le (by rw [eC]; simp)
  simp only [f_law_pick, mkF, b_law_pick, startE]
  simp [e, e2, hl]
theorem set_app {S : Sto} {l : Nat} {C X : Cell} (h : l < S.length) : (S ++ [X]).set l C = S.set l C ++ [X] := by rw [List.set_append_left _ _ h]
theorem app_set {S : Sto} {C X : Cell} : (S ++ [X]).set S.length C = S ++ [C] := by rw [List.set_append_right _ _ (Nat.le_refl _)]; simp
theorem law_scene_ok {ns : List Int} {l : Nat} {c : Int} {S : Sto} (n : Nat) (far : Int) (hT : Town ns l c S) (hn : n ≤ 1000) (hc : c + 2 * n < 1000000) (h0 : 0 < far) (h1 : far < 1000000) :
    ∃ sc S', f_law_scene [scr ns, .ref l, .p (.int n), .p (.int far)] S = some (.p (scP sc), S') ∧ sc.length = n ∧ (∀ x ∈ sc, 0 ≤ x.1 ∧ x.1 < far ∧ x.1 < x.2 ∧ x.2 ≤ x.1 + far) ∧ ∃ C, S' = S.set l C ∧ Town ns l (c + 2 * n) S' := by
  have hlS := hT.lt
  have k1 : xSet 4 (xLst xNil) (startE 7 [scr ns, .ref l, .p (.int n), .p (.int far)]) S = some (.nx [some (scr ns), some (.ref l), some (.p (.int n)), some (.p (.int far)), some (.ref S.length), none, none], S ++ [.lst []]) := by
    simp [startE]
  have k2 : ∃ (ρ' : Env) (sc : List Span) (C : Cell), xFor (xRng1 (xVar 2)) (.nm 5) (xSeq (xSet 6 (xDef f_law_draw (xConsD (xVar 0) (xConsD (xVar 1) (xConsD (xVar 3) xNilD)))))
    (xDrop (xApp (xVar 4) (xTup (xCons (xVar 6) (xCons (xBin pAdd (xBin pAdd (xVar 6) (xC (.int 1))) (xDef f_law_draw (xConsD (xVar 0) (xConsD (xVar 1) (xConsD (xVar 3) xNilD))))) xNil))))))
      [some (scr ns), some (.ref l), some (.p (.int n)), some (.p (.int far)), some (.ref S.length), none, none] (S ++ [.lst []]) = some (.nx ([some (scr ns), some (.ref l), some (.p (.int n)), some (.p (.int far)), some (.ref S.length)] ++ ρ'), S.set l C ++ [.lst (sc.map pr)]) ∧ sc.length = n ∧ (∀ x ∈ sc, 0 ≤ x.1 ∧ x.1 < far ∧ x.1 < x.2 ∧ x.2 ≤ x.1 + far) ∧ Town ns l (c + 2 * n) (S.set l C) := by
    unfold xFor
    rw [rng1 (n := n) rfl (by omega), intsFrom_eq]
    simp only [Option.bind_some]
    obtain ⟨ρ', S', e, hI⟩ := for_go (n0 := (S ++ [Cell.lst []]).length) (l := none) (S0 := S ++ [Cell.lst []]) (t := .nm 5) (b := xSeq (xSet 6 (xDef f_law_draw (xConsD (xVar 0) (xConsD (xVar 1) (xConsD (xVar 3) xNilD)))))
    (xDrop (xApp (xVar 4) (xTup (xCons (xVar 6) (xCons (xBin pAdd (xBin pAdd (xVar 6) (xC (.int 1))) (xDef f_law_draw (xConsD (xVar 0) (xConsD (xVar 1) (xConsD (xVar 3) xNilD))))) xNil))))))
      (fun ds ρ S' => ∃ (y5 y6 : Option D) (sc : List Span) (C : Cell), ρ = [some (scr ns), some (.ref l), some (.p (.int n)), some (.p (.int far)), some (.ref S.length), y5, y6] ∧ S' = S.set l C ++ [.lst (sc.map pr)] ∧ sc.length + ds.length = n ∧ (∀ x ∈ sc, 0 ≤ x.1 ∧ x.1 < far ∧ x.1 < x.2 ∧ x.2 ≤ x.1 + far) ∧ Town ns l (c + 2 * sc.length) (S.set l C))
      (fun d ds ρ S' hI => by
        obtain ⟨y5, y6, sc, C, rfl, rfl, hl, hx, hTn⟩ := hI
        simp only [List.length_cons] at hl
        have hlen : (S.set l C).length = S.length := by simp
        obtain ⟨v, S1, e1, v0, v1, C1, eC1, hT1⟩ := draw_ok (lim := far) (hTn.app (T := [.lst (sc.map pr)])) (by omega) h0 h1
        rw [set_app (by rw [hlen]; exact hlS), List.set_set] at eC1
        subst eC1
        have hT1' := hT1.of_app (by simpa using hlS)
        obtain ⟨u, S2, e2, u0, u1, C2, eC2, hT2⟩ := draw_ok (lim := far) hT1 (by omega) h0 h1
        rw [set_app (by simpa using hlS), List.set_set] at eC2
        subst eC2
        have hT2' := hT2.of_app (by simpa using hlS)
        refine ⟨_, [some (scr ns), some (.ref l), some (.p (.int n)), some (.p (.int far)), some (.ref S.length), some (.p d), some (.p (.int v))], S.set l C2 ++ [.lst ((sc ++ [(v, v + 1 + u)]).map pr)], rfl, ?_, rfl, by simp, _, _, sc ++ [(v, v + 1 + u)], C2, rfl, rfl, by simp; omega, ?_, hT2'.mono (by simp; omega)⟩
        · have a1 : xSet 6 (xDef f_law_draw (xConsD (xVar 0) (xConsD (xVar 1) (xConsD (xVar 3) xNilD)))) [some (scr ns), some (.ref l), some (.p (.int n)), some (.p (.int far)), some (.ref S.length), some (.p d), y6] (S.set l C ++ [.lst (sc.map pr)]) = some (.nx [some (scr ns), some (.ref l), some (.p (.int n)), some (.p (.int far)), some (.ref S.length), some (.p d), some (.p (.int v))], S.set l C1 ++ [.lst (sc.map pr)]) := by
            refine set_p ?_
            rw [e_Def]
            exact e1
          show xSeq _ _ [some (scr ns), some (.ref l), some (.p (.int n)), some (.p (.int far)), some (.ref S.length), some (.p d), y6] _ = _
          rw [seq_nx a1]
          have a2 : xDef f_law_draw (xConsD (xVar 0) (xConsD (xVar 1) (xConsD (xVar 3) xNilD))) [some (scr ns), some (.ref l), some (.p (.int n)), some (.p (.int far)), some (.ref S.length), some (.p d), some (.p (.int v))] (S.set l C1 ++ [.lst (sc.map pr)]) = some (.p (.int u), S.set l C2 ++ [.lst (sc.map pr)]) := e2
          have a3 : xTup (xCons (xVar 6) (xCons (xBin pAdd (xBin pAdd (xVar 6) (xC (.int 1))) (xDef f_law_draw (xConsD (xVar 0) (xConsD (xVar 1) (xConsD (xVar 3) xNilD))))) xNil)) [some (scr ns), some (.ref l), some (.p (.int n)), some (.p (.int far)), some (.ref S.length), some (.p d), some (.p (.int v))] (S.set l C1 ++ [.lst (sc.map pr)]) = some (.p (pr (v, v + 1 + u)), S.set l C2 ++ [.lst (sc.map pr)]) := by
            simp [pr, e2]
          have hg : (S.set l C2 ++ [Cell.lst (sc.map pr)])[S.length]? = some (.lst (sc.map pr)) := by
            rw [List.getElem?_append_right (by simp)]; simp
          have hst : (S.set l C2 ++ [Cell.lst (sc.map pr)]).set S.length (.lst (sc.map pr ++ [pr (v, v + 1 + u)])) = S.set l C2 ++ [.lst ((sc ++ [(v, v + 1 + u)]).map pr)] := by
            have := app_set (S := S.set l C2) (X := Cell.lst (sc.map pr)) (C := .lst (sc.map pr ++ [pr (v, v + 1 + u)]))
            rw [List.length_set] at this
            rw [this]; simp
          have hb : (sc.map pr).length < 1000000 := by rw [List.length_map]; omega
          have a4 : xVar 4 [some (scr ns), some (.ref l), some (.p (.int n)), some (.p (.int far)), some (.ref S.length), some (.p d), some (.p (.int v))] (S.set l C1 ++ [.lst (sc.map pr)]) = some (.ref S.length, S.set l C1 ++ [.lst (sc.map pr)]) := rfl
          have hg1 : (S.set l C1 ++ [Cell.lst (sc.map pr)])[S.length]? = some (.lst (sc.map pr)) := by
            rw [List.getElem?_append_right (by simp)]; simp
          rw [app_ok a4 hg1 a3 hg rfl hb, hst]
        · intro x hx'
          rcases List.mem_append.mp hx' with h | h
          · exact hx x h
          · simp at h; subst h; refine ⟨v0, v1, ?_, ?_⟩ <;> simp only <;> omega)
      ((List.range n).map fun i => P.int (0 + (i : Nat))) [some (scr ns), some (.ref l), some (.p (.int n)), some (.p (.int far)), some (.ref S.length), none, none] (S ++ [.lst []]) ⟨none, none, [], S[l], rfl, by simp, by simp, by simp, by simpa using hT⟩
    obtain ⟨y5, y6, sc, C, rfl, rfl, hl, hx, hTn⟩ := hI
    simp only [List.length_nil, Nat.add_zero] at hl
    refine ⟨[y5, y6], sc, C, e, hl, hx, hTn.mono (by omega)⟩
  obtain ⟨ρ', sc, C, e, hl, hx, hTn⟩ := k2
  refine ⟨sc, S.set l C, ?_, hl, hx, C, rfl, hTn⟩
  have k3 : b_law_scene (startE 7 [scr ns, .ref l, .p (.int n), .p (.int far)]) S = some (.rt (.p (scP sc)), S.set l C ++ [.lst (sc.map pr)]) := by
    unfold b_law_scene
    rw [seq_nx k1, seq_nx e]
    have hg : (S.set l C ++ [Cell.lst (sc.map pr)])[S.length]? = some (.lst (sc.map pr)) := by
      rw [List.getElem?_append_right (by simp)]; simp
    simp [R.rd, hg, scP]
  unfold f_law_scene mkF
  rw [if_pos (by rfl), k3]
  simp
end XL
end
section
set_option Elab.async false
set_option linter.all false
set_option autoImplicit false
set_option maxRecDepth 100000
set_option maxHeartbeats 1000000
namespace XL
/-! ### ranks -/
def cnt (x : Int) (l : List Int) : Nat := (l.filter fun z => decide (z < x)).length
theorem cnt_cons (x y : Int) (l : List Int) : cnt x (y :: l) = (if y < x then 1 else 0) + cnt x l := by
  unfold cnt
  by_cases h : y < x <;> simp [List.filter_cons, h]; omega
theorem cnt_mono {x y : Int} (h : x ≤ y) : ∀ l : List Int, cnt x l ≤ cnt y l
  | [] => Nat.le_refl _
  | z :: l => by
    have := cnt_mono h l
    rw [cnt_cons, cnt_cons]
    split <;> split <;> omega
theorem cnt_lt {x y : Int} (h : x < y) : ∀ {l : List Int}, x ∈ l → cnt x l < cnt y l
  | [], hx => by cases hx
  | z :: l, hx => by
    rw [cnt_cons, cnt_cons]
    have h0 := cnt_mono (Int.le_of_lt h) l
    rcases List.mem_cons.mp hx with rfl | hx
    · rw [if_neg (by omega), if_pos h]; omega
    · have := cnt_lt h hx
      split <;> split <;> omega
theorem cnt_len {x : Int} : ∀ {l : List Int}, x ∈ l → cnt x l < l.length
  | [], hx => by cases hx
  | z :: l, hx => by
    rw [cnt_cons, List.length_cons]
    rcases List.mem_cons.mp hx with rfl | hx
    · rw [if_neg (by omega)]
      have : cnt x l ≤ l.length := List.length_filter_le _ _
      omega
    · have := cnt_len hx
      split <;> omega
theorem cnt_at : ∀ {l : List Int} {k : Nat} {x : Int}, Asc l → l[k]? = some x → cnt x l = k
  | [], k, x, _, h => by simp at h
  | z :: l, k, x, ha, h => by
    obtain ⟨h1, h2⟩ := List.pairwise_cons.mp ha
    rw [cnt_cons]
    cases k with
    | zero =>
      simp at h; subst h
      rw [if_neg (by omega)]
      unfold cnt
      have : l.filter (fun w => decide (w < z)) = [] := by
        rw [List.filter_eq_nil_iff]
        intro w hw
        have := h1 w hw; simp; omega
      rw [this]; rfl
    | succ k =>
      simp at h
      have hx := List.mem_of_getElem? h
      have := h1 x hx
      rw [if_pos this, cnt_at h2 h]; omega
theorem rk_cnt (x : Int) (l : List Int) : rk x l = cnt x (endsOf l) := (rk_ends l).symm
theorem rk_lt {x y : Int} {l : List Int} (hx : x ∈ l) (h : x < y) : rk x l < rk y l := by
  rw [rk_cnt, rk_cnt]; exact cnt_lt h (ends_mem.mpr hx)
theorem rk_lt_iff {x y : Int} {l : List Int} (hx : x ∈ l) : rk x l < rk y l ↔ x < y := by
  refine ⟨fun h => ?_, rk_lt hx⟩
  by_cases c : x < y
  · exact c
  · have := cnt_mono (show y ≤ x by omega) (endsOf l)
    rw [rk_cnt, rk_cnt] at h; omega
theorem rk_eq_iff {x y : Int} {l : List Int} (hx : x ∈ l) (hy : y ∈ l) : rk x l = rk y l ↔ x = y := by
  refine ⟨fun h => ?_, fun h => by rw [h]⟩
  rcases Int.lt_trichotomy x y with c | c | c
  · have := rk_lt hx c; omega
  · exact c
  · have := rk_lt hy c; omega
theorem rk_congr {α : Type} (u v : α → Int) (x y : Int) : ∀ (ps : List α), (∀ p ∈ ps, ∀ q ∈ ps, u p = u q ↔ v p = v q) → (∀ p ∈ ps, u p < x ↔ v p < y) → rk x (ps.map u) = rk y (ps.map v)
  | [], _, _ => rfl
  | p :: ps, h1, h2 => by
    have ih := rk_congr u v x y ps (fun a ha b hb => h1 a (List.mem_cons_of_mem _ ha) b (List.mem_cons_of_mem _ hb)) (fun a ha => h2 a (List.mem_cons_of_mem _ ha))
    simp only [List.map_cons, rk, ih]
    have m : u p ∈ ps.map u ↔ v p ∈ ps.map v := by
      simp only [List.mem_map]
      constructor
      · rintro ⟨q, hq, e⟩; exact ⟨q, hq, (h1 q (List.mem_cons_of_mem _ hq) p List.mem_cons_self).mp e⟩
      · rintro ⟨q, hq, e⟩; exact ⟨q, hq, (h1 q (List.mem_cons_of_mem _ hq) p List.mem_cons_self).mpr e⟩
    have l := h2 p List.mem_cons_self
    by_cases a : u p ∈ ps.map u
    · rw [if_pos a, if_pos (m.mp a)]
    · rw [if_neg a, if_neg (fun z => a (m.mpr z))]
      by_cases b : u p < x
      · rw [if_pos b, if_pos (l.mp b)]
      · rw [if_neg b, if_neg (fun z => b (l.mpr z))]
/-! ### forms -/
theorem endsL_map (g : Int → Int) (sc : List Span) : endsL (sc.map fun x => (g x.1, g x.2)) = (endsL sc).map g := by
  induction sc with
  | nil => rfl
  | cons x xs ih => simp [endsL] at ih ⊢; exact ih
theorem form_ends (sc : List Span) : endsL (form sc) = (endsL sc).map fun x => ((rk x (endsL sc) : Nat) : Int) := endsL_map (fun x => ((rk x (endsL sc) : Nat) : Int)) sc
/-- the ends in sequence without gaps -/
theorem ends_form (sc : List Span) : endsOf (endsL (form sc)) = (List.range (endsOf (endsL sc)).length).map fun (i : Nat) => (i : Int) := by
  refine asc_one (ends_asc _) ?_ fun k => ?_
  · rw [Asc, List.pairwise_map]
    exact List.Pairwise.imp (fun h => by omega) List.pairwise_lt_range
  · rw [ends_mem, form_ends]
    simp only [List.mem_map, List.mem_range]
    constructor
    · rintro ⟨x, hx, rfl⟩
      exact ⟨rk x (endsL sc), by rw [rk_cnt]; exact cnt_len (ends_mem.mpr hx), rfl⟩
    · rintro ⟨i, hi, rfl⟩
      have e := List.getElem?_eq_getElem hi
      exact ⟨(endsOf (endsL sc))[i], ends_mem.mp (List.getElem_mem hi), by rw [rk_cnt, cnt_at (ends_asc _) e]⟩
theorem cnt_range (m k : Nat) (h : k < m) : cnt (k : Int) ((List.range m).map fun (i : Nat) => (i : Int)) = k := by
  refine cnt_at ?_ (by simp [h])
  rw [Asc, List.pairwise_map]
  exact List.Pairwise.imp (fun h => by omega) List.pairwise_lt_range
theorem form_form (sc : List Span) : form (form sc) = form sc := by
  have key : ∀ z ∈ endsL sc, rk ((rk z (endsL sc) : Nat) : Int) (endsL (form sc)) = rk z (endsL sc) := fun z hz => by
    rw [rk_cnt _ (endsL (form sc)), ends_form, cnt_range]
    rw [rk_cnt]; exact cnt_len (ends_mem.mpr hz)
  show (form sc).map (fun x => (((rk x.1 (endsL (form sc)) : Nat) : Int), ((rk x.2 (endsL (form sc)) : Nat) : Int))) = form sc
  unfold form at *
  rw [List.map_map]
  refine List.map_congr_left fun x hx => ?_
  obtain ⟨h1, h2⟩ := mem_ends hx
  simp only [Function.comp]
  rw [key _ h1, key _ h2]
theorem form_mono {sc : List Span} {g : Int → Int} (hg : ∀ x y, g x < g y ↔ x < y) : form (sc.map fun x => (g x.1, g x.2)) = form sc := by
  have inj : ∀ x y, x = y ↔ g x = g y := fun x y => by
    constructor
    · intro h; rw [h]
    · intro h
      rcases Int.lt_trichotomy x y with c | c | c
      · have := (hg x y).mpr c; omega
      · exact c
      · have := (hg y x).mpr c; omega
  have key : ∀ z, rk (g z) ((endsL sc).map g) = rk z (endsL sc) := fun z => by
    have := rk_congr (α := Int) id g z (g z) (endsL sc) (fun p _ q _ => inj p q) (fun p _ => (hg p z).symm)
    rw [List.map_id] at this
    exact this.symm
  unfold form
  rw [endsL_map, List.map_map]
  refine List.map_congr_left fun x _ => ?_
  simp only [Function.comp, key]
theorem form_len (sc : List Span) : (form sc).length = sc.length := by simp [form]
theorem rk_le (x : Int) (l : List Int) : rk x l ≤ l.length := by
  induction l with
  | nil => simp [rk]
  | cons y l ih => simp only [rk, List.length_cons]; split <;> (try split) <;> omega
theorem form_valid {sc : List Span} (h : Valid sc) : Valid (form sc) := by
  refine ⟨by rw [form_len]; exact h.one, by rw [form_len]; exact h.five, fun x hx => ?_⟩
  obtain ⟨y, hy, rfl⟩ := List.mem_map.mp hx
  obtain ⟨m1, m2⟩ := mem_ends hy
  have := rk_lt m1 (h.ok y hy).mid
  have a := rk_le y.2 (endsL sc)
  rw [endsL_len] at a
  have := h.five
  exact ⟨by simp only; omega, by simp only; omega, by simp only; omega⟩
/-! ### what a letter says -/
theorem letter_cmp {x y x' y' : Span} (hx : x.1 < x.2) (hy : y.1 < y.2) (hx' : x'.1 < x'.2) (hy' : y'.1 < y'.2) (h : letter x y = letter x' y') :
    ((x.1 < y.1 ↔ x'.1 < y'.1) ∧ (x.1 = y.1 ↔ x'.1 = y'.1)) ∧ ((x.1 < y.2 ↔ x'.1 < y'.2) ∧ (x.1 = y.2 ↔ x'.1 = y'.2)) ∧ ((x.2 < y.1 ↔ x'.2 < y'.1) ∧ (x.2 = y.1 ↔ x'.2 = y'.1)) ∧ ((x.2 < y.2 ↔ x'.2 < y'.2) ∧ (x.2 = y.2 ↔ x'.2 = y'.2)) := by
  obtain ⟨a, b⟩ := x
  obtain ⟨c, d⟩ := y
  obtain ⟨a', b'⟩ := x'
  obtain ⟨c', d'⟩ := y'
  simp only at hx hy hx' hy' ⊢
  unfold letter at h
  simp only at h
  repeat' split at h
  all_goals first | (exfalso; revert h; decide) | (refine ⟨⟨?_, ?_⟩, ⟨?_, ?_⟩, ⟨?_, ?_⟩, ?_, ?_⟩ <;> omega)
theorem letter_congr {x y x' y' : Span} (h : ((x.1 < y.1 ↔ x'.1 < y'.1) ∧ (x.1 = y.1 ↔ x'.1 = y'.1)) ∧ ((x.1 < y.2 ↔ x'.1 < y'.2) ∧ (x.1 = y.2 ↔ x'.1 = y'.2)) ∧ ((x.2 < y.1 ↔ x'.2 < y'.1) ∧ (x.2 = y.1 ↔ x'.2 = y'.1)) ∧ ((x.2 < y.2 ↔ x'.2 < y'.2) ∧ (x.2 = y.2 ↔ x'.2 = y'.2))) : letter x y = letter x' y' := by
  obtain ⟨⟨h1, h2⟩, ⟨h3, h4⟩, ⟨h5, h6⟩, h7, h8⟩ := h
  have e1 : x.2 ≤ y.1 ↔ x'.2 ≤ y'.1 := by omega
  have e2 : y.2 ≤ x.1 ↔ y'.2 ≤ x'.1 := by omega
  have e3 : y.1 < x.1 ↔ y'.1 < x'.1 := by omega
  have e4 : y.2 = x.1 ↔ y'.2 = x'.1 := by omega
  unfold letter
  simp only [e1, e2, e3, e4, h1, h2, h6, h7, h8]
theorem letter_form {sc : List Span} {x y : Span} (hx : x ∈ sc) (hy : y ∈ sc) : letter (((rk x.1 (endsL sc) : Nat) : Int), ((rk x.2 (endsL sc) : Nat) : Int)) (((rk y.1 (endsL sc) : Nat) : Int), ((rk y.2 (endsL sc) : Nat) : Int)) = letter x y := by
  obtain ⟨a1, a2⟩ := mem_ends hx
  obtain ⟨b1, b2⟩ := mem_ends hy
  refine letter_congr ⟨⟨?_, ?_⟩, ⟨?_, ?_⟩, ⟨?_, ?_⟩, ?_, ?_⟩ <;> simp only [Int.ofNat_lt, Int.natCast_inj, rk_lt_iff, rk_eq_iff, a1, a2, b1, b2]
/-- two scenes have one form exactly if all their ways are equal -/
theorem form_iff {sc sc' : List Span} (hv : ∀ x ∈ sc, x.1 < x.2) (hv' : ∀ x ∈ sc', x.1 < x.2) (hl : sc.length = sc'.length) :
    (∀ (i j : Nat) (x y x' y' : Span), sc[i]? = some x → sc[j]? = some y → sc'[i]? = some x' → sc'[j]? = some y' → letter x y = letter x' y') ↔ form sc = form sc' := by
  constructor
  · intro h
    let ps : List (Int × Int) := (sc.zip sc').flatMap fun z => [(z.1.1, z.2.1), (z.1.2, z.2.2)]
    have e1 : ∀ {a b : List Span}, a.length = b.length → ((a.zip b).flatMap fun z => [(z.1.1, z.2.1), (z.1.2, z.2.2)]).map Prod.fst = endsL a ∧ ((a.zip b).flatMap fun z => [(z.1.1, z.2.1), (z.1.2, z.2.2)]).map Prod.snd = endsL b := by
      intro a
      induction a with
      | nil => intro b hb; cases b with
        | nil => exact ⟨rfl, rfl⟩
        | cons _ _ => simp at hb
      | cons x xs ih =>
        intro b hb
        cases b with
        | nil => simp at hb
        | cons y ys =>
          obtain ⟨i1, i2⟩ := ih (b := ys) (by simpa using hb)
          simp [endsL] at i1 i2 ⊢
          exact ⟨i1, i2⟩
    obtain ⟨f1, f2⟩ := e1 hl
    have hp : ∀ p ∈ ps, ∃ (i : Nat) (x x' : Span), sc[i]? = some x ∧ sc'[i]? = some x' ∧ (p = (x.1, x'.1) ∨ p = (x.2, x'.2)) := fun p hp => by
      obtain ⟨z, hz, hz2⟩ := List.mem_flatMap.mp hp
      obtain ⟨i, hi, e⟩ := List.getElem_of_mem hz
      refine ⟨i, z.1, z.2, ?_, ?_, by simpa using hz2⟩
      · rw [List.getElem_zip] at e
        have : i < sc.length := by simp at hi; omega
        rw [List.getElem?_eq_getElem this, ← e]
      · rw [List.getElem_zip] at e
        have : i < sc'.length := by simp at hi; omega
        rw [List.getElem?_eq_getElem this, ← e]
    have cmp : ∀ p ∈ ps, ∀ q ∈ ps, (p.1 < q.1 ↔ p.2 < q.2) ∧ (p.1 = q.1 ↔ p.2 = q.2) := fun p hp' q hq => by
      obtain ⟨i, x, x', h1, h2, h3⟩ := hp p hp'
      obtain ⟨j, y, y', g1, g2, g3⟩ := hp q hq
      have c := letter_cmp (hv x (List.mem_of_getElem? h1)) (hv y (List.mem_of_getElem? g1)) (hv' x' (List.mem_of_getElem? h2)) (hv' y' (List.mem_of_getElem? g2)) (h i j x y x' y' h1 g1 h2 g2)
      rcases h3 with rfl | rfl <;> rcases g3 with rfl | rfl
      · exact c.1
      · exact c.2.1
      · exact c.2.2.1
      · exact c.2.2.2
    have key : ∀ q ∈ ps, rk q.1 (endsL sc) = rk q.2 (endsL sc') := fun q hq => by
      rw [← f1, ← f2]
      exact rk_congr Prod.fst Prod.snd q.1 q.2 ps (fun a ha b hb => (cmp a ha b hb).2) (fun a ha => (cmp a ha q hq).1)
    unfold form
    refine List.ext_getElem? fun i => ?_
    rw [List.getElem?_map, List.getElem?_map]
    by_cases hi : i < sc.length
    · have hi' : i < sc'.length := by omega
      rw [List.getElem?_eq_getElem hi, List.getElem?_eq_getElem hi']
      have hz : (sc[i], sc'[i]) ∈ sc.zip sc' := by
        have : i < (sc.zip sc').length := by simp; omega
        have e := List.getElem_mem this
        rwa [List.getElem_zip] at e
      simp only [Option.map_some, Option.some.injEq, Prod.mk.injEq, Int.natCast_inj]
      exact ⟨key (sc[i].1, sc'[i].1) (List.mem_flatMap.mpr ⟨_, hz, by simp⟩), key (sc[i].2, sc'[i].2) (List.mem_flatMap.mpr ⟨_, hz, by simp⟩)⟩
    · rw [List.getElem?_eq_none (by omega), List.getElem?_eq_none (by omega)]; rfl
  · intro h i j x y x' y' h1 h2 h3 h4
    have g : ∀ {a : List Span} {k : Nat} {z : Span}, a[k]? = some z → (form a)[k]? = some (((rk z.1 (endsL a) : Nat) : Int), ((rk z.2 (endsL a) : Nat) : Int)) := fun hz => by
      unfold form; rw [List.getElem?_map, hz]; rfl
    have i1 := g h1
    have i2 := g h2
    rw [h, g h3] at i1
    rw [h, g h4] at i2
    have e1 := Option.some.inj i1
    have e2 := Option.some.inj i2
    rw [← letter_form (List.mem_of_getElem? h1) (List.mem_of_getElem? h2), ← letter_form (List.mem_of_getElem? h3) (List.mem_of_getElem? h4), ← e1, ← e2]
end XL
end
section
set_option Elab.async false
set_option linter.all false
set_option autoImplicit false
set_option maxRecDepth 100000
set_option maxHeartbeats 1000000
namespace XL
end XL
end
section
set_option Elab.async false
set_option linter.all false
set_option autoImplicit false
set_option maxRecDepth 100000
set_option maxHeartbeats 1000000
namespace XL
theorem letter_conv {x y : Span} (hx : x.1 < x.2) (hy : y.1 < y.2) : conv (letter x y) = letter y x := by
  unfold letter
  repeat' split
  all_goals first | (exfalso; omega) | decide
theorem letter_self {x : Span} (hx : x.1 < x.2) : letter x x = [101] := by
  unfold letter
  repeat' split
  all_goals first | (exfalso; omega) | rfl
theorem letter_ways (x y : Span) : IsWays (letter x y) := by
  unfold letter
  repeat' split
  all_goals decide
theorem fm_succ {α : Type} (f : Nat → List α) (k : Nat) : (List.range (k + 1)).flatMap f = (List.range k).flatMap f ++ f k := by
  rw [List.range_succ, List.flatMap_append]; simp
/-! ### a law's body, step by step -/
section
variable {ρ ρ' : Env} {S S1 : Sto} {s a b : XS} {e : XE} {t : XT} {i : Nat} {d : P} {ds : List P}
theorem tup2_p {a b : XE} {p q : P} {S2 : Sto} (ha : a ρ S = some (.p p, S1)) (hb : b ρ S1 = some (.p q, S2)) : xTup (xCons a (xCons b xNil)) ρ S = some (.p (.tup [p, q]), S2) := by simp [ha, hb]
end
/-! ### defs of data alone: looked at with no cells at all -/
section
variable {k n : Nat} {b : XS} [LocS b] {ps : List P} {S' : Sto}
theorem pure_frl {ds : List P} (hk : ps.length = k) (h : b (startE n (ps.map D.p)) [] = some (.rt (.frl ds), S')) (S : Sto) : mkF k n b (ps.map D.p) S = some (.frl ds, S) := by
  refine frame0 ?_ S
  unfold mkF
  rw [if_pos (by rw [List.length_map]; exact hk), h]; rfl
end
/-! ### defs that draw: looked at with the town alone -/
section
variable {k n : Nat} {b : XS} [LocS b] {as : List D} {S' : Sto} {C C' : Cell}
end
/-! ### slots that hold data or nothing -/
abbrev op (o : Option P) : Option D := o.map D.p
@[simp] theorem slots_op {n0 : Nat} {o : Option P} {ρ : Env} : slotRefs n0 (Option.map D.p o :: ρ) = slotRefs n0 ρ := by cases o <;> rfl
@[simp] theorem slots_p {n0 : Nat} {d : P} {ρ : Env} : slotRefs n0 (some (D.p d) :: ρ) = slotRefs n0 ρ := rfl
@[simp] theorem slots_none {n0 : Nat} {ρ : Env} : slotRefs n0 (none :: ρ) = slotRefs n0 ρ := rfl
@[simp] theorem slots_nil {n0 : Nat} : slotRefs n0 [] = [] := rfl
@[simp] theorem slots_ref {n0 l : Nat} {ρ : Env} : slotRefs n0 (some (D.ref l) :: ρ) = if n0 ≤ l ∧ l ∉ slotRefs n0 ρ then l :: slotRefs n0 ρ else slotRefs n0 ρ := rfl
@[simp] theorem ren_op {n0 : Nat} {ks : List Nat} {o : Option P} : renSlot n0 ks (Option.map D.p o) = Option.map D.p o := by cases o <;> rfl
@[simp] theorem ren_p {n0 : Nat} {ks : List Nat} {d : P} : renSlot n0 ks (some (D.p d)) = some (D.p d) := rfl
@[simp] theorem ren_none {n0 : Nat} {ks : List Nat} : renSlot n0 ks none = none := rfl
@[simp] theorem ren_ref {n0 l : Nat} {ks : List Nat} : renSlot n0 ks (some (D.ref l)) = some (D.ref (if l < n0 then l else n0 + ks.idxOf l)) := rfl
theorem var_ref {ρ : Env} {S : Sto} {i l : Nat} (h : ρ[i]? = some (some (.ref l))) : xVar i ρ S = some (.ref l, S) := by rw [e_Var, h]
/-! ### loops -/
/-- comprehensions over things of a kind -/
theorem lcGo_typed {α : Type} {l : Option Nat} {S : Sto} {t : Tg} {c : XT} {e : XE} {ρ : Env} (g : α → P) (keep : α → Bool) (v : α → P) : ∀ (xs : List α) (acc : List P),
    (∀ x ∈ xs, ∃ ρ1, t.put (g x) ρ = some ρ1 ∧ c ρ1 S = some (keep x, S) ∧ (keep x = true → ∃ r, e ρ1 S = some (r, S) ∧ r.fz = some (v x))) → acc.length + xs.length ≤ big →
    lcGo l S t c e ρ (xs.map g) acc S = some (acc ++ (xs.filter keep).map v, S)
  | [], acc, _, _ => by simp [lcGo]
  | x :: xs, acc, h, hl => by
    obtain ⟨ρ1, h1, h2, h3⟩ := h x List.mem_cons_self
    simp only [List.length_cons] at hl
    have rest := fun acc' (q : acc'.length + xs.length ≤ big) => lcGo_typed (l := l) (t := t) (c := c) (e := e) g keep v xs acc' (fun y hy => h y (List.mem_cons_of_mem _ hy)) q
    simp only [List.map_cons, lcGo, h1, Option.bind_some, h2]
    cases hk : keep x with
    | true =>
      obtain ⟨r, h4, h5⟩ := h3 hk
      simp only [if_true, h4, Option.bind_some, h5]
      rw [if_pos ⟨by omega, cell_same⟩, rest _ (by rw [List.length_append]; simp only [List.length_cons, List.length_nil]; omega), List.filter_cons_of_pos hk]
      simp
    | false =>
      simp only [Bool.false_eq_true, if_false]
      rw [if_pos cell_same, rest _ (by omega), List.filter_cons_of_neg (by simp [hk])]
/-! ### draws, the town being the first cell -/
def Tw (ns : List Int) (c : Int) (C : Cell) : Prop := Town ns 0 c [C]
theorem Tw.mono {ns : List Int} {c c' : Int} {C : Cell} (h : Tw ns c C) (hc : c ≤ c') : Tw ns c' C := Town.mono h hc
theorem tw_new {ns : List Int} : Tw ns 0 (.lst (.int 0 :: ns.map P.int)) := town_new (S := [])
theorem Town.head {ns : List Int} {c : Int} {C : Cell} {S : Sto} : Town ns 0 c (C :: S) ↔ Tw ns c C := by
  simp [Tw, Town]
theorem draw_tw {ns : List Int} {c lim : Int} {C : Cell} (hT : Tw ns c C) (hc : c < 1000000) (h0 : 0 < lim) (h1 : lim < 1000000) (S : Sto) :
    ∃ v C', f_law_draw [scr ns, .ref 0, .p (.int lim)] (C :: S) = some (.p (.int v), C' :: S) ∧ 0 ≤ v ∧ v < lim ∧ Tw ns (c + 1) C' := by
  obtain ⟨v, S', e, v0, v1, C', eS, hT'⟩ := draw_ok (l := 0) (S := C :: S) (lim := lim) (Town.head.mpr hT) hc h0 h1
  rw [List.set_cons_zero] at eS
  subst eS
  exact ⟨v, C', e, v0, v1, Town.head.mp hT'⟩
theorem pick_tw {ns : List Int} {c : Int} {C : Cell} (hT : Tw ns c C) (hc : c < 1000000) (ch : List P) (h0 : ch ≠ []) (h1 : ch.length < 1000000) (S : Sto) :
    ∃ d C', f_law_pick [scr ns, .ref 0, .p (.lst ch)] (C :: S) = some (.p d, C' :: S) ∧ d ∈ ch ∧ Tw ns (c + 1) C' := by
  obtain ⟨d, S', e, hd, C', eS, hT'⟩ := law_pick_ok (l := 0) (S := C :: S) (Town.head.mpr hT) hc ch h0 h1
  rw [List.set_cons_zero] at eS
  subst eS
  exact ⟨d, C', e, hd, Town.head.mp hT'⟩
theorem scene_tw {ns : List Int} {c : Int} {C : Cell} (n : Nat) (far : Int) (hT : Tw ns c C) (hn : n ≤ 1000) (hc : c + 2 * n < 1000000) (h0 : 0 < far) (h1 : far < 1000000) (S : Sto) :
    ∃ sc C', f_law_scene [scr ns, .ref 0, .p (.int n), .p (.int far)] (C :: S) = some (.p (scP sc), C' :: S) ∧ sc.length = n ∧ (∀ x ∈ sc, 0 ≤ x.1 ∧ x.1 < far ∧ x.1 < x.2 ∧ x.2 ≤ x.1 + far) ∧ Tw ns (c + 2 * n) C' := by
  obtain ⟨sc, S', e, hl, hx, C', eS, hT'⟩ := law_scene_ok (l := 0) (S := C :: S) n far (Town.head.mpr hT) hn hc h0 h1
  rw [List.set_cons_zero] at eS
  subst eS
  exact ⟨sc, C', e, hl, hx, Town.head.mp hT'⟩
end XL
end
section
set_option Elab.async false
set_option linter.all false
set_option autoImplicit false
set_option maxRecDepth 100000
set_option maxHeartbeats 1000000
namespace XL
/-! ### composition -/
def rowC (a : Nat) : List Nat := match t_COMPOSED.lookup [a] with
  | some (.str s) => s
  | _ => []
def cells (a : Nat) : List (List Nat) := splitC 32 [] (rowC a)
def tbl (a b : Nat) : List Nat := (cells a).getD (lettersC.idxOf b) []
theorem tbl_is : ∀ a ∈ c_LETTERS, ∀ b ∈ c_LETTERS, (cells a)[lettersC.idxOf b]? = some (tbl a b) ∧ (tbl a b ≠ [] ∧ ∀ c ∈ tbl a b, c ∈ c_LETTERS) := by decide +kernel
/-! a dict with letters as keys -/
/-! sorted letters -/
abbrev AscN (l : List Nat) : Prop := l.Pairwise (· < ·)
theorem ascN_one : ∀ {l m : List Nat}, AscN l → AscN m → (∀ k, k ∈ l ↔ k ∈ m) → l = m
  | [], [], _, _, _ => rfl
  | [], y :: ys, _, _, h => absurd ((h y).mpr List.mem_cons_self) (by simp)
  | x :: xs, [], _, _, h => absurd ((h x).mp List.mem_cons_self) (by simp)
  | x :: xs, y :: ys, hl, hm, h => by
    obtain ⟨a1, a2⟩ := List.pairwise_cons.mp hl
    obtain ⟨b1, b2⟩ := List.pairwise_cons.mp hm
    have e : x = y := by
      rcases List.mem_cons.mp ((h x).mp List.mem_cons_self) with q | q
      · exact q
      · rcases List.mem_cons.mp ((h y).mpr List.mem_cons_self) with r | r
        · exact r.symm
        · have := b1 x q; have := a1 y r; omega
    subst e
    congr 1
    refine ascN_one a2 b2 fun k => ?_
    constructor
    · intro hk
      rcases List.mem_cons.mp ((h k).mp (List.mem_cons_of_mem _ hk)) with q | q
      · subst q; exact absurd (a1 k hk) (Nat.lt_irrefl _)
      · exact q
    · intro hk
      rcases List.mem_cons.mp ((h k).mpr (List.mem_cons_of_mem _ hk)) with q | q
      · subst q; exact absurd (b1 k hk) (Nat.lt_irrefl _)
      · exact q
theorem mem_insN {x z : Nat} : ∀ {l : List Nat}, z ∈ insN x l ↔ z = x ∨ z ∈ l
  | [] => by simp [insN]
  | y :: ys => by
    unfold insN
    split
    · rw [List.mem_cons, mem_insN (l := ys), List.mem_cons]
      constructor
      · rintro (h | h | h)
        · exact .inr (.inl h)
        · exact .inl h
        · exact .inr (.inr h)
      · rintro (h | h | h)
        · exact .inr (.inl h)
        · exact .inl h
        · exact .inr (.inr h)
    · rw [List.mem_cons]
theorem mem_sortN {z : Nat} : ∀ {l : List Nat}, z ∈ sortN l ↔ z ∈ l
  | [] => by simp [sortN]
  | x :: xs => by rw [sortN, mem_insN, mem_sortN (l := xs), List.mem_cons]
theorem insN_asc {x : Nat} : ∀ {l : List Nat}, AscN l → x ∉ l → AscN (insN x l)
  | [], _, _ => by simp [insN]
  | y :: ys, h, hx => by
    obtain ⟨h1, h2⟩ := List.pairwise_cons.mp h
    simp only [List.mem_cons, not_or] at hx
    unfold insN
    split
    · refine List.pairwise_cons.mpr ⟨fun z hz => ?_, insN_asc h2 hx.2⟩
      rcases mem_insN.mp hz with q | q
      · subst q; assumption
      · exact h1 z q
    · refine List.pairwise_cons.mpr ⟨fun z hz => ?_, h⟩
      rcases List.mem_cons.mp hz with q | q
      · subst q; omega
      · have := h1 z q; omega
theorem sortN_asc : ∀ {l : List Nat}, l.Nodup → AscN (sortN l)
  | [], _ => List.Pairwise.nil
  | x :: xs, h => by
    obtain ⟨h1, h2⟩ := List.nodup_cons.mp h
    exact insN_asc (sortN_asc h2) (fun q => h1 (mem_sortN.mp q))
theorem letters_asc : AscN c_LETTERS := by decide
theorem filt_asc (f : Nat → Bool) : AscN (c_LETTERS.filter f) := letters_asc.filter f
/-- letters in sequence, each once: those that are in the list -/
theorem sorted_is {L : List Nat} {f : Nat → Bool} (hn : L.Nodup) (h : ∀ c, c ∈ L ↔ c ∈ c_LETTERS ∧ f c = true) : sortN L = c_LETTERS.filter f :=
  ascN_one (sortN_asc hn) (filt_asc f) fun k => by rw [mem_sortN, h, List.mem_filter]
def comp (s t : List Nat) : List Nat := c_LETTERS.filter fun c => s.any fun a => t.any fun b => decide (c ∈ tbl a b)
theorem mem_comp {s t : List Nat} {c : Nat} (hs : ∀ a ∈ s, a ∈ c_LETTERS) (ht : ∀ b ∈ t, b ∈ c_LETTERS) : c ∈ comp s t ↔ ∃ a ∈ s, ∃ b ∈ t, c ∈ tbl a b := by
  unfold comp
  rw [List.mem_filter, List.any_eq_true]
  constructor
  · rintro ⟨_, a, ha, h⟩
    rw [List.any_eq_true] at h
    obtain ⟨b, hb, h⟩ := h
    exact ⟨a, ha, b, hb, by simpa using h⟩
  · rintro ⟨a, ha, b, hb, h⟩
    refine ⟨(tbl_is a (hs a ha) b (ht b hb)).2.2 c h, a, ha, ?_⟩
    rw [List.any_eq_true]
    exact ⟨b, hb, by simpa using h⟩
theorem sub_len {L : List Nat} (hn : L.Nodup) (h : ∀ c ∈ L, c ∈ c_LETTERS) : L.length ≤ 13 := by
  have e : sortN L = c_LETTERS.filter fun c => decide (c ∈ L) := sorted_is hn fun c => by
    constructor
    · exact fun q => ⟨h c q, by simpa using q⟩
    · exact fun q => by simpa using q.2
  rw [← sortN_len, e]
  exact Nat.le_trans (List.length_filter_le _ _) (by decide)
theorem IsWays.all {s : List Nat} (h : IsWays s) : ∀ a ∈ s, a ∈ c_LETTERS := fun a ha => h.mem ha
end XL
end
section
set_option Elab.async false
set_option linter.all false
set_option autoImplicit false
set_option maxRecDepth 100000
set_option maxHeartbeats 1000000
namespace XL
/-! ### drawn ways -/
theorem IsWays.asc {s : List Nat} (h : IsWays s) : AscN s := by rw [← h.2]; exact filt_asc _
end XL
end
section
set_option Elab.async false
set_option linter.all false
set_option autoImplicit false
set_option maxRecDepth 100000
set_option maxHeartbeats 1000000
namespace XL
/-! ### what slots hold, wherever the cells lie -/
def Has (ρ : Env) (S : Sto) (i : Nat) : R → Prop
  | .p d => ρ[i]? = some (some (.p d))
  | .frl ds => ∃ l, ρ[i]? = some (some (.ref l)) ∧ S[l]? = some (.lst ds)
  | .frd t kv => ∃ l, ρ[i]? = some (some (.ref l)) ∧ S[l]? = some (.dct false t kv)
  | .ref _ => False
def Hs (ρ : Env) (S : Sto) (vs : List (Nat × R)) : Prop := ∀ x ∈ vs, Has ρ S x.1 x.2
theorem Has.app {ρ : Env} {S : Sto} {i : Nat} {r : R} (h : Has ρ S i r) (T : Sto) : Has ρ (S ++ T) i r := by
  cases r with
  | p d => exact h
  | frl ds => obtain ⟨l, h1, h2⟩ := h; exact ⟨l, h1, by rw [List.getElem?_append_left (List.getElem?_eq_some_iff.mp h2).1]; exact h2⟩
  | frd t kv => obtain ⟨l, h1, h2⟩ := h; exact ⟨l, h1, by rw [List.getElem?_append_left (List.getElem?_eq_some_iff.mp h2).1]; exact h2⟩
  | ref _ => exact h
theorem Has.put {ρ : Env} {S : Sto} {i j : Nat} {r : R} {x : Option D} (h : Has ρ S i r) (hij : j ≠ i) : Has (ρ.set j x) S i r := by
  cases r with
  | p d => show (ρ.set j x)[i]? = _; rw [List.getElem?_set_ne hij]; exact h
  | frl ds => obtain ⟨l, h1, h2⟩ := h; exact ⟨l, by rw [List.getElem?_set_ne hij]; exact h1, h2⟩
  | frd t kv => obtain ⟨l, h1, h2⟩ := h; exact ⟨l, by rw [List.getElem?_set_ne hij]; exact h1, h2⟩
  | ref _ => exact h
theorem Hs.nil {ρ : Env} {S : Sto} : Hs ρ S [] := fun _ h => nomatch h
theorem Hs.cons {ρ : Env} {S : Sto} {i : Nat} {r : R} {vs : List (Nat × R)} (h : Has ρ S i r) (k : Hs ρ S vs) : Hs ρ S ((i, r) :: vs) := fun x hx => by
  rcases List.mem_cons.mp hx with e | e
  · subst e; exact h
  · exact k x e
theorem Hs.get {ρ : Env} {S : Sto} {vs : List (Nat × R)} (h : Hs ρ S vs) {i : Nat} {r : R} (hm : (i, r) ∈ vs) : Has ρ S i r := h (i, r) hm
theorem Hs.app {ρ : Env} {S : Sto} {vs : List (Nat × R)} (h : Hs ρ S vs) (T : Sto) : Hs ρ (S ++ T) vs := fun x hx => (h x hx).app T
theorem Hs.put {ρ : Env} {S : Sto} {vs : List (Nat × R)} {j : Nat} {x : Option D} (h : Hs ρ S vs) (hj : ∀ v ∈ vs, j ≠ v.1) : Hs (ρ.set j x) S vs := fun v hv => (h v hv).put (hj v hv)
theorem Hs.sub {ρ : Env} {S : Sto} {vs ws : List (Nat × R)} (h : Hs ρ S vs) (hs : ∀ w ∈ ws, w ∈ vs) : Hs ρ S ws := fun v hv => h v (hs v hv)
theorem Has.p {ρ : Env} {S : Sto} {i : Nat} {d : P} (h : Has ρ S i (.p d)) : ρ[i]? = some (some (.p d)) := h
/-- what is read of a slot with a list -/
theorem Has.rd {ρ : Env} {S : Sto} {i : Nat} {ds : List P} (h : Has ρ S i (.frl ds)) (T : Sto) : ∃ l, xVar i ρ S = some (.ref l, S) ∧ (R.ref l).rd (S ++ T) = some (.lst ds) ∧ S[l]? = some (.lst ds) := by
  obtain ⟨l, h1, h2⟩ := h
  refine ⟨l, var_ref h1, ?_, h2⟩
  exact rd_ref (by rw [List.getElem?_append_left (List.getElem?_eq_some_iff.mp h2).1]; exact h2)
/-! ### all rows, all forms -/
def rngI (lo hi : Int) : List Int := (List.range (hi - lo).toNat).map fun (i : Nat) => lo + i
def everyOf (n : Nat) (k : Nat) : List Span := (List.range k).flatMap fun (b : Nat) => (rngI ((b : Int) + 1) (2 * n)).map fun e => ((b : Int), e)
theorem mem_every {n k : Nat} {x : Span} : x ∈ everyOf n k ↔ 0 ≤ x.1 ∧ x.1 < k ∧ x.1 < x.2 ∧ x.2 < 2 * n := by
  obtain ⟨a, b⟩ := x
  simp only [everyOf, rngI, List.mem_flatMap, List.mem_map, List.mem_range, Prod.mk.injEq]
  constructor
  · rintro ⟨i, hi, j, ⟨m, hm, rfl⟩, rfl, rfl⟩
    refine ⟨by omega, by omega, by omega, by omega⟩
  · rintro ⟨h1, h2, h3, h4⟩
    exact ⟨a.toNat, by omega, b, ⟨(b - (a + 1)).toNat, by omega, by omega⟩, by omega, rfl⟩
end XL
end
section
set_option Elab.async false
set_option linter.all false
set_option autoImplicit false
set_option maxRecDepth 100000
set_option maxHeartbeats 1000000
namespace XL
/-! ### the table of compositions -/
def tbL : List (List (List Nat)) := [[[66], [66], [66], [66], [66], [66], [66, 68, 70, 77, 79, 83, 98, 100, 101, 102, 109, 111, 115], [66, 77, 79, 100, 102], [66], [66], [66, 77, 79, 100, 102], [66, 77, 79, 100, 102], [66, 77, 79, 100, 102]], [[66, 68, 77, 79, 83], [68], [68], [68, 79, 83], [68, 79, 83], [68], [68, 70, 98, 109, 111], [68, 70, 79, 83, 100, 101, 102, 111, 115], [68], [68, 79, 83], [68, 70, 111], [68, 70, 111], [68, 70, 111]], [[66, 68, 77, 79, 83], [68], [70], [68, 79, 83], [68, 79, 83], [68], [98], [100, 111, 115], [70], [70, 101, 102], [109], [111], [111]], [[66], [66], [77], [66], [66], [66], [68, 70, 98, 109, 111], [79, 100, 102], [77], [77], [83, 101, 115], [79, 100, 102], [79, 100, 102]], [[66], [66, 68, 77, 79, 83], [68, 79, 83], [66], [66, 77, 79], [66, 77, 79], [68, 70, 98, 109, 111], [79, 100, 102], [79], [79], [68, 70, 111], [68, 70, 79, 83, 100, 101, 102, 111, 115], [79, 100, 102]], [[66], [68], [68], [77], [79], [83], [68, 70, 98, 109, 111], [79, 100, 102], [83], [79], [68, 70, 111], [68, 70, 111], [83, 101, 115]], [[66, 68, 70, 77, 79, 83, 98, 100, 101, 102, 109, 111, 115], [98], [98], [98, 100, 109, 111, 115], [98, 100, 109, 111, 115], [98], [98], [98, 100, 109, 111, 115], [98], [98, 100, 109, 111, 115], [98], [98], [98]], [[66], [66, 68, 70, 77, 79, 83, 98, 100, 101, 102, 109, 111, 115], [98, 100, 109, 111, 115], [66], [66, 77, 79, 100, 102], [66, 77, 79, 100, 102], [98], [100], [100], [100], [98], [98, 100, 109, 111, 115], [100]], [[66], [68], [70], [77], [79], [83], [98], [100], [101], [102], [109], [111], [115]], [[66], [66, 68, 77, 79, 83], [70, 101, 102], [66], [66, 77, 79], [66, 77, 79], [98], [100], [102], [102], [109], [100, 111, 115], [100]], [[66, 68, 77, 79, 83], [98], [98], [70, 101, 102], [100, 111, 115], [109], [98], [100, 111, 115], [109], [100, 111, 115], [98], [98], [109]], [[66, 68, 77, 79, 83], [68, 70, 98, 109, 111], [98, 109, 111], [68, 79, 83], [68, 70, 79, 83, 100, 101, 102, 111, 115], [68, 70, 111], [98], [100, 111, 115], [111], [100, 111, 115], [98], [98, 109, 111], [111]], [[66], [68, 70, 98, 109, 111], [98, 109, 111], [77], [79, 100, 102], [83, 101, 115], [98], [100], [115], [100], [98], [98, 109, 111], [115]]]
def lc1 (x y : Span) : Nat := (letter x y).headD 0
theorem letter_lc1 (x y : Span) : letter x y = [lc1 x y] := by
  unfold lc1 letter
  repeat' split
  all_goals rfl
theorem lc1_letter (x y : Span) : lc1 x y ∈ c_LETTERS := (letter_ways x y).mem (by rw [letter_lc1]; simp)
def mk (a b : Nat) : List Nat := (tbL.getD (lettersC.idxOf a) []).getD (lettersC.idxOf b) []
theorem tbl_mk : ∀ a ∈ c_LETTERS, ∀ b ∈ c_LETTERS, tbl a b = mk a b := by decide +kernel
def sp6 : List Span := everyOf 3 6
theorem sound6 : ∀ x ∈ sp6, ∀ y ∈ sp6, ∀ z ∈ sp6, lc1 x z ∈ mk (lc1 x y) (lc1 y z) := by decide +kernel
def triples : List (Nat × Nat × Nat) := c_LETTERS.flatMap fun a => c_LETTERS.flatMap fun b => (mk a b).map fun c => (a, b, c)
theorem conv_conv : ∀ a ∈ c_LETTERS, convC (convC a) = a ∧ convC a ∈ c_LETTERS := by decide +kernel
end XL
end
section
set_option Elab.async false
set_option linter.all false
set_option autoImplicit false
set_option maxRecDepth 100000
set_option maxHeartbeats 1000000
namespace XL
theorem rk_bound {x : Int} {l : List Int} (h : x ∈ l) : rk x l < l.length := by
  rw [rk_cnt]
  refine Nat.lt_of_lt_of_le (cnt_len (ends_mem.mpr h)) ?_
  have : ∀ l : List Int, (endsOf l).length ≤ l.length := by
    intro l
    induction l with
    | nil => simp [endsOf]
    | cons y l ih =>
      have h2 : ∀ (m : List Int), (insS y m).length ≤ m.length + 1 := by
        intro m
        induction m with
        | nil => simp [insS]
        | cons z m ih2 => unfold insS; split <;> (try split) <;> simp <;> omega
      show (insS y (endsOf l)).length ≤ _
      have := h2 (endsOf l)
      simp; omega
  exact this l
theorem form_in {sc : List Span} (hv : ∀ x ∈ sc, x.1 < x.2) {x : Span} (hx : x ∈ form sc) : 0 ≤ x.1 ∧ x.1 < x.2 ∧ x.2 < 2 * sc.length := by
  obtain ⟨y, hy, rfl⟩ := List.mem_map.mp hx
  obtain ⟨h1, h2⟩ := mem_ends hy
  have b1 := rk_lt h1 (hv y hy)
  have b2 := rk_bound h2
  rw [endsL_len] at b2
  refine ⟨by omega, by omega, by omega⟩
theorem sp6_form {x y z : Span} (hx : x.1 < x.2) (hy : y.1 < y.2) (hz : z.1 < z.2) : ∃ x' ∈ sp6, ∃ y' ∈ sp6, ∃ z' ∈ sp6, letter x' y' = letter x y ∧ letter y' z' = letter y z ∧ letter x' z' = letter x z := by
  have hv : ∀ w ∈ [x, y, z], w.1 < w.2 := by
    intro w hw
    simp only [List.mem_cons, List.not_mem_nil, or_false] at hw
    rcases hw with rfl | rfl | rfl <;> assumption
  have mem : ∀ w ∈ form [x, y, z], w ∈ sp6 := fun w hw => by
    obtain ⟨h1, h2, h3⟩ := form_in hv hw
    have : ([x, y, z] : List Span).length = 3 := rfl
    rw [this] at h3
    exact mem_every.mpr ⟨h1, by omega, h2, h3⟩
  refine ⟨_, mem _ (List.mem_map.mpr ⟨x, by simp, rfl⟩), _, mem _ (List.mem_map.mpr ⟨y, by simp, rfl⟩), _, mem _ (List.mem_map.mpr ⟨z, by simp, rfl⟩), ?_, ?_, ?_⟩
  · exact letter_form (by simp) (by simp)
  · exact letter_form (by simp) (by simp)
  · exact letter_form (by simp) (by simp)
/-- the table allows what is -/
theorem tbl_sound {x y z : Span} (hx : x.1 < x.2) (hy : y.1 < y.2) (hz : z.1 < z.2) : lc1 x z ∈ tbl (lc1 x y) (lc1 y z) := by
  obtain ⟨x', hx', y', hy', z', hz', e1, e2, e3⟩ := sp6_form hx hy hz
  have := sound6 x' hx' y' hy' z' hz'
  rw [tbl_mk _ (lc1_letter x y) _ (lc1_letter y z)]
  unfold lc1 at this ⊢
  rw [e1, e2, e3] at this
  exact this
/-! ways as sets -/
theorem mem_conv {s : List Nat} (hs : ∀ a ∈ s, a ∈ c_LETTERS) {c : Nat} : c ∈ conv s ↔ c ∈ c_LETTERS ∧ convC c ∈ s := by
  unfold conv
  rw [mem_sortN, List.mem_map]
  constructor
  · rintro ⟨a, ha, rfl⟩
    have := conv_conv a (hs a ha)
    exact ⟨this.2, by rw [this.1]; exact ha⟩
  · rintro ⟨h1, h2⟩
    exact ⟨convC c, h2, (conv_conv c h1).1⟩
theorem AscN.nodup {l : List Nat} (h : AscN l) : l.Nodup := h.imp (fun q => Nat.ne_of_lt q)
end XL
end
section
set_option Elab.async false
set_option linter.all false
set_option autoImplicit false
set_option maxRecDepth 100000
set_option maxHeartbeats 1000000
namespace XL
/-! ### a def that reads or changes one cell, wherever it lies -/
def D.to (l : Nat) : D → D
  | .p d => .p d
  | .ref _ => .ref l
theorem frameL {f : XF} [L : LocF f] {as : List D} {r : R} {C C' : Cell} (h : f as [C] = some (r, [C'])) (hw : ∀ d ∈ as, WfD 1 d) (hr : ∀ l, r ≠ .ref l) {S : Sto} {l : Nat} (hl : S[l]? = some C) : f (as.map (D.to l)) S = some (r, S.set l C') := by
  have hlt := (List.getElem?_eq_some_iff.mp hl).1
  let F : Fm := ⟨1, S.length, fun _ => l, S, fun _ _ => hlt, fun a b ha hb _ => by omega⟩
  have rn0 : ∀ k, k < 1 → F.rn k = l := fun k h => by show (if k < 1 then l else _) = l; rw [if_pos h]
  have s : SimS F [C] S := ⟨Nat.le_refl _, by simp [F], fun k h => by
    have h1 : k < 1 := h
    rw [rn0 k h1, hl]
    have : k = 0 := by omega
    subst this; rfl, fun j _ _ => rfl⟩
  obtain ⟨T', a, s', w, _⟩ := L.loc s hw h
  have e : as.map (D.rn F) = as.map (D.to l) := List.map_congr_left fun d hd => by
    have q := hw d hd
    cases d with
    | p _ => rfl
    | ref k => show D.ref (F.rn k) = D.ref l; rw [rn0 k q]
  have er : r.rn F = r := (rn_new (k := 0) hr).1
  have eT : T' = S.set l C' := by
    apply List.ext_getElem?
    intro j
    have h1 := s'.len
    simp [F] at h1
    by_cases c : j < S.length
    · by_cases cj : j = l
      · subst cj
        have := s'.cell 0 (by simp)
        rw [rn0 0 (by omega)] at this
        rw [this, List.getElem?_set_self hlt]; rfl
      · rw [List.getElem?_set_ne (fun q => cj q.symm)]
        exact s'.out j c fun k h q => cj q.symm
    · rw [List.getElem?_eq_none (by omega), List.getElem?_eq_none (by simp; omega)]
  rw [e, er, eT] at a
  exact a
/-! ### comprehensions with two fors over things of a kind -/
theorem lc2Go_typed {α β : Type} {l : Option Nat} {S : Sto} {t t1 : Tg} {it1 : XI} {e : XE} {ρ : Env} {vs1 : List Nat} (g : α → P) (w : α → List β) (g1 : β → P) (v : α → β → P) : ∀ (xs : List α) (acc : List P),
    (∀ x ∈ xs, ∃ ρ1 l1, t.put (g x) ρ = some ρ1 ∧ it1 ρ1 S = some ((w x).map g1, l1, S) ∧ ∀ y ∈ w x, ∃ ρ2, t1.put (g1 y) (wipeE ρ1 vs1) = some ρ2 ∧ ∃ r, e ρ2 S = some (r, S) ∧ r.fz = some (v x y)) → acc.length + (xs.flatMap w).length ≤ big →
    lc2Go l S t xTyes it1 t1 xTyes e ρ vs1 (xs.map g) acc S = some (acc ++ xs.flatMap fun x => (w x).map (v x), S)
  | [], acc, _, _ => by simp [lc2Go]
  | x :: xs, acc, h, hl => by
    obtain ⟨ρ1, l1, h1, h2, h3⟩ := h x List.mem_cons_self
    simp only [List.flatMap_cons, List.length_append] at hl
    simp only [List.map_cons, lc2Go, h1, Option.bind_some, e_Tyes, if_true, h2]
    rw [lcGo_typed g1 (fun _ => true) (v x) (w x) acc (fun y hy => by
      obtain ⟨ρ2, a1, a2⟩ := h3 y hy
      exact ⟨ρ2, a1, rfl, fun _ => a2⟩) (by omega), filt_true]
    simp only [Option.bind_some]
    rw [if_pos cell_same, lc2Go_typed g w g1 v xs _ (fun y hy => h y (List.mem_cons_of_mem _ hy)) (by rw [List.length_append, List.length_map]; omega)]
    simp
theorem lc2_each {α β : Type} {it it1 : XI} {t t1 : Tg} {e : XE} {vs vs1 : List Nat} {ρ : Env} {S : Sto} {l : Option Nat} {xs : List α} (g : α → P) (w : α → List β) (g1 : β → P) (v : α → β → P) (hi : it ρ S = some (xs.map g, l, S))
    (h : ∀ x ∈ xs, ∃ ρ1 l1, t.put (g x) (wipeE ρ vs) = some ρ1 ∧ it1 ρ1 S = some ((w x).map g1, l1, S) ∧ ∀ y ∈ w x, ∃ ρ2, t1.put (g1 y) (wipeE ρ1 vs1) = some ρ2 ∧ ∃ r, e ρ2 S = some (r, S) ∧ r.fz = some (v x y)) (hl : (xs.flatMap w).length ≤ 1000000) :
    xLc2 it t xTyes it1 t1 xTyes e vs vs1 ρ S = some (.frl (xs.flatMap fun x => (w x).map (v x)), S) := by
  simp only [xLc2, hi, Option.bind_some]
  rw [lc2Go_typed g w g1 v xs [] h (by simpa using hl)]
  simp
/-! ### pairs of spans -/
def upto (i n : Nat) : List Nat := (List.range (n - i)).map fun k => i + k
theorem mem_upto {i n k : Nat} : k ∈ upto i n ↔ i ≤ k ∧ k < n := by
  simp only [upto, List.mem_map, List.mem_range]
  constructor
  · rintro ⟨j, hj, rfl⟩; omega
  · intro h; exact ⟨k - i, by omega, by omega⟩
def pairsN (n : Nat) : List (Nat × Nat) := (List.range n).flatMap fun i => (upto (i + 1) n).map fun j => (i, j)
theorem mem_pairsN {n : Nat} {x : Nat × Nat} : x ∈ pairsN n ↔ x.1 < x.2 ∧ x.2 < n := by
  obtain ⟨a, b⟩ := x
  simp only [pairsN, List.mem_flatMap, List.mem_range, List.mem_map, mem_upto, Prod.mk.injEq]
  constructor
  · rintro ⟨i, hi, j, hj, rfl, rfl⟩; omega
  · intro h; exact ⟨a, by omega, b, by omega, rfl, rfl⟩
def pairP (x : Nat × Nat) : P := .tup [.int (x.1 : Nat), .int (x.2 : Nat)]
theorem rngN {a b : XE} {ρ : Env} {S : Sto} {i j : Nat} (ha : a ρ S = some (.p (.int (i : Nat)), S)) (hb : b ρ S = some (.p (.int (j : Nat)), S)) (hi : i ≤ 1000000) (hj : j ≤ 1000000) : xRng2 a b ρ S = some ((upto i j).map fun (k : Nat) => P.int (k : Nat), none, S) := by
  simp only [xRng2, ha, hb, Option.bind_some]
  rw [if_pos ⟨by omega, by omega, by omega, by omega⟩, intsFrom_eq, upto, List.map_map]
  have : ((j : Int) - (i : Int)).toNat = j - i := by omega
  rw [this]
  congr 2
theorem rngN1 {a : XE} {ρ : Env} {S : Sto} {n : Nat} (h : a ρ S = some (.p (.int n), S)) (hn : n ≤ 1000000) : xRng1 a ρ S = some ((List.range n).map fun (k : Nat) => P.int (k : Nat), none, S) := by
  rw [rng1 h hn, intsFrom_eq]; simp
theorem pairsN_len : ∀ n, (pairsN n).length ≤ n * n := by
  intro n
  have : ∀ k, ((List.range k).flatMap fun i => (upto (i + 1) n).map fun j => (i, j)).length ≤ k * n := by
    intro k
    induction k with
    | zero => simp
    | succ k ih =>
      rw [fm_succ, List.length_append, List.length_map, upto, List.length_map, List.length_range, Nat.succ_mul]
      omega
  exact this n
theorem pairs_of_ok (n : Nat) (hn : n ≤ 100) (S : Sto) : f_pairs_of [.p (.int n)] S = some (.frl ((pairsN n).map pairP), S) := by
  have k : b_pairs_of (startE 3 [.p (.int n)]) [] = some (.rt (.frl ((pairsN n).map pairP)), []) := by
    unfold b_pairs_of
    have e := lc2_each (it := xRng1 (xVar 0)) (t := .nm 1) (it1 := xRng2 (xBin pAdd (xVar 1) (xC (.int 1))) (xVar 0)) (t1 := .nm 2) (e := xTup (xCons (xVar 1) (xCons (xVar 2) xNil))) (vs := [1, 2]) (vs1 := [2]) (ρ := startE 3 [.p (.int n)]) (S := [])
      (fun (i : Nat) => P.int (i : Nat)) (fun i => upto (i + 1) n) (fun (j : Nat) => P.int (j : Nat)) (fun i j => pairP (i, j)) (rngN1 (n := n) rfl (by omega)) (fun i hi => by
        have hi := List.mem_range.mp hi
        refine ⟨[some (.p (.int n)), some (.p (.int (i : Nat))), none], none, rfl, rngN (by rw [bin_p (p := .int (i : Nat)) rfl rfl]; simp) rfl (by omega) (by omega), fun j hj => ?_⟩
        exact ⟨[some (.p (.int n)), some (.p (.int (i : Nat))), some (.p (.int (j : Nat)))], rfl, .p (pairP (i, j)), tup2_p rfl rfl, rfl⟩) (by
        have h1 := pairsN_len n
        have h2 : ((List.range n).flatMap fun i => upto (i + 1) n).length = (pairsN n).length := by simp [pairsN, List.length_flatMap]
        rw [h2]
        have : n * n ≤ 100 * 100 := Nat.mul_le_mul hn hn
        omega)
    rw [e_Ret, e]
    simp only [pairsN, List.map_flatMap, List.map_map, Option.map_some]
    rfl
  exact pure_frl (ps := [.int n]) rfl k S
end XL
end
section
set_option Elab.async false
set_option linter.all false
set_option autoImplicit false
set_option maxRecDepth 100000
set_option maxHeartbeats 1000000
namespace XL
/-! ### room for new numbers -/
def mo (b e : Nat) (x : Int) : Int := (if b % 2 = 0 ∧ ((b / 2 : Nat) : Int) ≤ x then 1 else 0) + (if e % 2 = 0 ∧ ((e / 2 : Nat) : Int) ≤ x then 1 else 0)
def sh (b e : Nat) (x : Int) : Int := x + mo b e x
def movedF (b e : Nat) (f : List Span) : List Span := f.map fun x => (sh b e x.1, sh b e x.2)
end XL
end
section
set_option Elab.async false
set_option linter.all false
set_option autoImplicit false
set_option maxRecDepth 100000
set_option maxHeartbeats 1000000
namespace XL
/-! ### all forms with one span more -/
def many (f : List Span) : Nat := (endsOf (endsL f)).length
def spread (f : List Span) : List Span := f.map fun x => (4 * x.1 + 2, 4 * x.2 + 2)
def place (b e : Nat) : Span := (2 * (b : Int), 2 * (e : Int) + (if b = e then 1 else 0))
def lastOf (b e : Nat) : Span := (((b / 2 : Nat) : Int), ((e / 2 : Nat) : Int) + (if b % 2 = 0 then 1 else 0))
def extF (b e : Nat) (f : List Span) : List Span := movedF b e f ++ [lastOf b e]
def fits (f : List Span) (al : Nat → List Nat) (b e : Nat) : Bool := (List.range f.length).all fun i => decide (lc1 ((spread f).getD i (0, 1)) (place b e) ∈ al i)
def good (f : List Span) (al : Nat → List Nat) (b e : Nat) : Bool := decide (b < e ∨ b % 2 = 0) && fits f al b e
def longer (f : List Span) (al : Nat → List Nat) : List (List Span) := (List.range (2 * many f + 1)).flatMap fun b => ((upto b (2 * many f + 1)).filter fun e => good f al b e).map fun e => extF b e f
theorem endsOf_len (l : List Int) : (endsOf l).length ≤ l.length := by
  induction l with
  | nil => simp [endsOf]
  | cons y l ih =>
    have h2 : ∀ (m : List Int), (insS y m).length ≤ m.length + 1 := by
      intro m
      induction m with
      | nil => simp [insS]
      | cons z m ih2 => unfold insS; split <;> (try split) <;> simp <;> omega
    show (insS y (endsOf l)).length ≤ _
    have := h2 (endsOf l)
    simp; omega
theorem many_le (f : List Span) : many f ≤ 2 * f.length := by
  have := endsOf_len (endsL f)
  rw [endsL_len] at this
  exact this
abbrev inL : XS := (xIfS (xTor (xB (xBin pLt (xVar 3) (xVar 7))) (xB (xBin pEq (xBin pMod (xVar 3) (xC (.int 2))) (xC (.int 0)))))
    (xSeq (xSet 8 (xTup (xCons (xBin pMul (xC (.int 2)) (xVar 3)) (xCons (xBin pAdd (xBin pMul (xC (.int 2)) (xVar 7)) (xCall cInt (xCons (xBin pEq (xVar 3) (xVar 7)) xNil))) xNil))))
    (xIfS (xB (xCall cAll (xCons (xLc (xRng1 (xVar 5)) (.nm 11) xTyes
      (xBin pIn (xDef f_letter_of (xConsD (xBin pIx (xVar 2) (xVar 11)) (xConsD (xVar 8) xNilD))) (xGetD (xVar 1) (xTup (xCons (xVar 11) (xCons (xVar 5) xNil))))) [11]) xNil)))
    (xSeq (xSet 9 (xTup (xCons (xBin pDiv (xVar 3) (xC (.int 2))) (xCons (xBin pAdd (xBin pDiv (xVar 7) (xC (.int 2))) (xCall cInt (xCons (xBin pEq (xBin pMod (xVar 3) (xC (.int 2))) (xC (.int 0))) xNil))) xNil))))
    (xDrop (xApp (xVar 6) (xBin pAdd (xDef f_moved (xConsD (xVar 0) (xConsD (xVar 3) (xConsD (xVar 7) xNilD)))) (xTup (xCons (xVar 9) xNil))))))
    xPass))
    xPass)
end XL
end
section
set_option Elab.async false
set_option linter.all false
set_option autoImplicit false
set_option maxRecDepth 100000
set_option maxHeartbeats 1000000
namespace XL
theorem upto_len (i n : Nat) : (upto i n).length = n - i := by simp [upto]
end XL
end
section
set_option Elab.async false
set_option linter.all false
set_option autoImplicit false
set_option maxRecDepth 100000
set_option maxHeartbeats 1000000
namespace XL
/-! ### forms with one span more: what they are -/
structure IsForm (f : List Span) : Prop where
  ok : ∀ x ∈ f, x.1 < x.2
  nf : form f = f
theorem form_isForm {sc : List Span} (h : ∀ x ∈ sc, x.1 < x.2) : IsForm (form sc) :=
  ⟨fun x hx => (form_in h hx).2.1, form_form sc⟩
theorem IsForm.ends {f : List Span} (h : IsForm f) (z : Int) : z ∈ endsL f ↔ 0 ≤ z ∧ z < many f := by
  have e := ends_form f
  rw [h.nf] at e
  rw [← ends_mem, e, many]
  simp only [List.mem_map, List.mem_range]
  constructor
  · rintro ⟨k, hk, rfl⟩; omega
  · intro q; exact ⟨z.toNat, by omega, by omega⟩
/-- ends without gaps: a form -/
theorem form_of_ends {f : List Span} {m : Nat} (h : ∀ z, z ∈ endsL f ↔ 0 ≤ z ∧ z < (m : Int)) : form f = f := by
  have e : endsOf (endsL f) = (List.range m).map fun (i : Nat) => (i : Int) := asc_one (ends_asc _) (by
      rw [Asc, List.pairwise_map]
      exact List.pairwise_lt_range.imp fun q => by omega) fun z => by
    rw [ends_mem, h]
    simp only [List.mem_map, List.mem_range]
    constructor
    · intro q; exact ⟨z.toNat, by omega, by omega⟩
    · rintro ⟨k, hk, rfl⟩; omega
  have r : ∀ z ∈ endsL f, ((rk z (endsL f) : Nat) : Int) = z := fun z hz => by
    obtain ⟨h1, h2⟩ := (h z).mp hz
    rw [rk_cnt, e]
    have : z = ((z.toNat : Nat) : Int) := by omega
    rw [this, cnt_range m z.toNat (by omega)]
  unfold form
  have : ∀ x ∈ f, (((rk x.1 (endsL f) : Nat) : Int), ((rk x.2 (endsL f) : Nat) : Int)) = x := fun x hx => by
    obtain ⟨h1, h2⟩ := mem_ends hx
    rw [r _ h1, r _ h2]
  exact (List.map_congr_left this).trans (List.map_id' _)
theorem sh_lt (b e : Nat) (x y : Int) : sh b e x < sh b e y ↔ x < y := by
  unfold sh mo
  constructor
  · intro h
    by_cases c : x < y
    · exact c
    · exfalso
      revert h
      repeat' split
      all_goals omega
  · intro h
    repeat' split
    all_goals omega
theorem movedF_form (b e : Nat) (f : List Span) : form (movedF b e f) = form f := form_mono (sc := f) (g := sh b e) (sh_lt b e)
/-- a place for a new span among m numbers -/
def Place (m b e : Nat) : Prop := b ≤ e ∧ e ≤ 2 * m ∧ (b < e ∨ b % 2 = 0)
theorem old_begin {b e : Nat} (h : b ≤ e) (hp : b < e ∨ b % 2 = 0) (y : Int) : (4 * y + 2 < 2 * (b : Int) ↔ sh b e y < ((b / 2 : Nat) : Int)) ∧ (4 * y + 2 = 2 * (b : Int) ↔ sh b e y = ((b / 2 : Nat) : Int)) := by
  unfold sh mo
  constructor
  · constructor
    · intro q; repeat' split
      all_goals omega
    · intro q; revert q; repeat' split
      all_goals omega
  · constructor
    · intro q; repeat' split
      all_goals omega
    · intro q; revert q; repeat' split
      all_goals omega
theorem old_end {b e : Nat} (h : b ≤ e) (hp : b < e ∨ b % 2 = 0) (y : Int) : (4 * y + 2 < (place b e).2 ↔ sh b e y < (lastOf b e).2) ∧ (4 * y + 2 = (place b e).2 ↔ sh b e y = (lastOf b e).2) := by
  unfold sh mo place lastOf
  simp only
  constructor
  · constructor
    · intro q; revert q; repeat' split
      all_goals omega
    · intro q; revert q; repeat' split
      all_goals omega
  · constructor
    · intro q; revert q; repeat' split
      all_goals omega
    · intro q; revert q; repeat' split
      all_goals omega
theorem place_lt {b e : Nat} (h : b ≤ e) (hp : b < e ∨ b % 2 = 0) : (place b e).1 < (place b e).2 ∧ (lastOf b e).1 < (lastOf b e).2 := by
  unfold place lastOf
  simp only
  constructor <;> (repeat' split) <;> omega
theorem letter_old_new {b e : Nat} (h : b ≤ e) (hp : b < e ∨ b % 2 = 0) (x : Span) : letter (sh b e x.1, sh b e x.2) (lastOf b e) = letter (4 * x.1 + 2, 4 * x.2 + 2) (place b e) := by
  obtain ⟨a1, a2⟩ := old_begin h hp x.1
  obtain ⟨a3, a4⟩ := old_begin h hp x.2
  obtain ⟨a5, a6⟩ := old_end h hp x.1
  obtain ⟨a7, a8⟩ := old_end h hp x.2
  exact letter_congr ⟨⟨a1.symm, a2.symm⟩, ⟨a5.symm, a6.symm⟩, ⟨a3.symm, a4.symm⟩, a7.symm, a8.symm⟩
theorem letter_new_old {b e : Nat} (h : b ≤ e) (hp : b < e ∨ b % 2 = 0) (x : Span) : letter (lastOf b e) (sh b e x.1, sh b e x.2) = letter (place b e) (4 * x.1 + 2, 4 * x.2 + 2) := by
  obtain ⟨a1, a2⟩ := old_begin h hp x.1
  obtain ⟨a3, a4⟩ := old_begin h hp x.2
  obtain ⟨a5, a6⟩ := old_end h hp x.1
  obtain ⟨a7, a8⟩ := old_end h hp x.2
  have b1 : (lastOf b e).1 = ((b / 2 : Nat) : Int) := rfl
  have b2 : (place b e).1 = 2 * (b : Int) := rfl
  refine letter_congr ⟨⟨?_, ?_⟩, ⟨?_, ?_⟩, ⟨?_, ?_⟩, ?_, ?_⟩ <;> simp only [b1, b2] <;> omega
theorem ext_ends {f : List Span} (hf : IsForm f) {b e : Nat} (hp : Place (many f) b e) (z : Int) : z ∈ endsL (extF b e f) ↔ 0 ≤ z ∧ z < ((many f + (if b % 2 = 0 then 1 else 0) + (if e % 2 = 0 then 1 else 0) : Nat) : Int) := by
  obtain ⟨h1, h2, h3⟩ := hp
  have e1 : endsL (extF b e f) = (endsL f).map (sh b e) ++ [(lastOf b e).1, (lastOf b e).2] := by
    unfold extF
    have : endsL (movedF b e f ++ [lastOf b e]) = endsL (movedF b e f) ++ [(lastOf b e).1, (lastOf b e).2] := by simp [endsL]
    rw [this, movedF, endsL_map]
  rw [e1, List.mem_append, List.mem_map]
  have key : (∃ a ∈ endsL f, sh b e a = z) ↔ ∃ a : Int, (0 ≤ a ∧ a < many f) ∧ sh b e a = z := by
    constructor
    · rintro ⟨a, ha, q⟩; exact ⟨a, (hf.ends a).mp ha, q⟩
    · rintro ⟨a, ha, q⟩; exact ⟨a, (hf.ends a).mpr ha, q⟩
  rw [key]
  generalize many f = m at *
  constructor
  · rintro (⟨a, ha, rfl⟩ | q)
    · unfold sh mo
      by_cases hb : b % 2 = 0 <;> by_cases he : e % 2 = 0 <;> simp only [hb, he, true_and, false_and, if_true, if_false] <;> (repeat' split) <;> omega
    · simp only [List.mem_cons, List.not_mem_nil, or_false, lastOf] at q
      rcases q with rfl | rfl
      · repeat' split
        all_goals omega
      · repeat' split
        all_goals omega
  · intro q
    have put : ∀ a : Int, 0 ≤ a → a < m → sh b e a = z → ((∃ a : Int, (0 ≤ a ∧ a < (m : Int)) ∧ sh b e a = z) ∨ z ∈ [(lastOf b e).1, (lastOf b e).2]) := fun a h1 h2 h3 => .inl ⟨a, ⟨h1, h2⟩, h3⟩
    have new1 : z = ((b / 2 : Nat) : Int) → ((∃ a : Int, (0 ≤ a ∧ a < (m : Int)) ∧ sh b e a = z) ∨ z ∈ [(lastOf b e).1, (lastOf b e).2]) := fun h => .inr (by rw [h]; simp [lastOf])
    have new2 : z = (lastOf b e).2 → ((∃ a : Int, (0 ≤ a ∧ a < (m : Int)) ∧ sh b e a = z) ∨ z ∈ [(lastOf b e).1, (lastOf b e).2]) := fun h => .inr (by rw [h]; simp)
    by_cases hb : b % 2 = 0 <;> by_cases he : e % 2 = 0 <;> simp only [hb, he, if_true, if_false] at q
    · by_cases c1 : z < ((b / 2 : Nat) : Int)
      · exact put z (by omega) (by omega) (by unfold sh mo; simp only [hb, he, true_and]; repeat' split; all_goals omega)
      by_cases c2 : z = ((b / 2 : Nat) : Int)
      · exact new1 c2
      by_cases c3 : z ≤ ((e / 2 : Nat) : Int)
      · exact put (z - 1) (by omega) (by omega) (by unfold sh mo; simp only [hb, he, true_and]; repeat' split; all_goals omega)
      by_cases c4 : z = ((e / 2 : Nat) : Int) + 1
      · exact new2 (by simp only [lastOf, hb, if_true]; exact c4)
      · exact put (z - 2) (by omega) (by omega) (by unfold sh mo; simp only [hb, he, true_and]; repeat' split; all_goals omega)
    · by_cases c1 : z < ((b / 2 : Nat) : Int)
      · exact put z (by omega) (by omega) (by unfold sh mo; simp only [hb, he, true_and, false_and, if_false]; repeat' split; all_goals omega)
      by_cases c2 : z = ((b / 2 : Nat) : Int)
      · exact new1 c2
      · exact put (z - 1) (by omega) (by omega) (by unfold sh mo; simp only [hb, he, true_and, false_and, if_false]; repeat' split; all_goals omega)
    · by_cases c1 : z < ((e / 2 : Nat) : Int)
      · exact put z (by omega) (by omega) (by unfold sh mo; simp only [hb, he, true_and, false_and, if_false]; repeat' split; all_goals omega)
      by_cases c2 : z = ((e / 2 : Nat) : Int)
      · exact new2 (by simp only [lastOf, hb, if_false]; omega)
      · exact put (z - 1) (by omega) (by omega) (by unfold sh mo; simp only [hb, he, true_and, false_and, if_false]; repeat' split; all_goals omega)
    · exact put z (by omega) (by omega) (by unfold sh mo; simp only [hb, he, false_and, if_false]; omega)
theorem ext_form {f : List Span} (hf : IsForm f) {b e : Nat} (hp : Place (many f) b e) : IsForm (extF b e f) := by
  refine ⟨fun x hx => ?_, form_of_ends (ext_ends hf hp)⟩
  unfold extF at hx
  rcases List.mem_append.mp hx with q | q
  · obtain ⟨y, hy, rfl⟩ := List.mem_map.mp q
    exact (sh_lt b e _ _).mpr (hf.ok y hy)
  · simp at q; subst q; exact (place_lt hp.1 hp.2.2).2
theorem ext_take {f : List Span} (b e : Nat) : (extF b e f).take f.length = movedF b e f := by
  unfold extF
  rw [List.take_append_of_le_length (by simp [movedF])]
  exact List.take_of_length_le (by simp [movedF])
theorem ext_prefix {f : List Span} (hf : IsForm f) (b e : Nat) : form ((extF b e f).take f.length) = f := by rw [ext_take, movedF_form, hf.nf]
theorem ext_len (f : List Span) (b e : Nat) : (extF b e f).length = f.length + 1 := by simp [extF, movedF]
theorem ext_at {f : List Span} {b e i : Nat} {x : Span} (h : f[i]? = some x) : (extF b e f)[i]? = some (sh b e x.1, sh b e x.2) := by
  have hi := (List.getElem?_eq_some_iff.mp h).1
  unfold extF
  rw [List.getElem?_append_left (by simp [movedF, hi])]
  simp [movedF, h]
theorem ext_last {f : List Span} {b e : Nat} : (extF b e f)[f.length]? = some (lastOf b e) := by
  unfold extF
  rw [List.getElem?_append_right (by simp [movedF])]
  simp [movedF]
/-- the other way round: each form with a span more is one of these -/
theorem form_is_ext {g : List Span} {n : Nat} (hg : IsForm g) (hl : g.length = n + 1) : ∃ b e, Place (many (form (g.take n))) b e ∧ g = extF b e (form (g.take n)) ∧ ∀ i x y, g[i]? = some x → i < n → g[n]? = some y → lc1 x y = lc1 ((spread (form (g.take n))).getD i (0, 1)) (place b e) := by
  obtain ⟨g0, p, q, rfl, hn⟩ : ∃ g0 p q, g = g0 ++ [(p, q)] ∧ g0.length = n := by
    have hne : g ≠ [] := fun e => by subst e; simp at hl
    exact ⟨g.dropLast, (g.getLast hne).1, (g.getLast hne).2, (List.dropLast_concat_getLast hne).symm, by simp [hl]⟩
  subst hn
  have ht : (g0 ++ [(p, q)]).take g0.length = g0 := by simp
  rw [ht]
  have hv0 : ∀ x ∈ g0, x.1 < x.2 := fun x hx => hg.ok x (List.mem_append_left _ hx)
  have hpq : p < q := hg.ok (p, q) (by simp)
  have hf := form_isForm hv0
  have hm : many (form g0) = (endsOf (endsL g0)).length := by
    unfold many
    rw [ends_form, List.length_map, List.length_range]
  have rk_le : ∀ z, rk z (endsL g0) ≤ (endsOf (endsL g0)).length := fun z => by
    rw [rk_cnt]; exact List.length_filter_le _ _
  have rk_lt' : ∀ z ∈ endsL g0, rk z (endsL g0) < (endsOf (endsL g0)).length := fun z hz => by
    rw [rk_cnt]; exact cnt_len (ends_mem.mpr hz)
  let B : Int → Nat := fun z => 2 * rk z (endsL g0) + (if z ∈ endsL g0 then 1 else 0)
  have hB : ∀ u ∈ endsL g0, ∀ z, (4 * ((rk u (endsL g0) : Nat) : Int) + 2 < 2 * ((B z : Nat) : Int) ↔ u < z) ∧ (4 * ((rk u (endsL g0) : Nat) : Int) + 2 = 2 * ((B z : Nat) : Int) ↔ u = z) := by
    intro u hu z
    have h1 := rk_lt_iff (x := u) (y := z) hu
    by_cases c : z ∈ endsL g0
    · have h2 := rk_eq_iff hu c
      have e : B z = 2 * rk z (endsL g0) + 1 := by simp [B, c]
      rw [e]
      omega
    · have e : B z = 2 * rk z (endsL g0) := by simp [B, c]
      have ne : u ≠ z := fun q => c (q ▸ hu)
      rw [e]
      omega
  have mono : rk p (endsL g0) ≤ rk q (endsL g0) := by
    rw [rk_cnt, rk_cnt]; exact cnt_mono (by omega) _
  have hlast : (B p ≤ B q) ∧ (B p < B q ∨ B p % 2 = 0) := by
    by_cases c : p ∈ endsL g0
    · have h1 := rk_lt c hpq
      have e : B p = 2 * rk p (endsL g0) + 1 := by simp [B, c]
      have e2 : 2 * rk q (endsL g0) ≤ B q := Nat.le_add_right _ _
      omega
    · have e : B p = 2 * rk p (endsL g0) := by simp [B, c]
      have e2 : 2 * rk q (endsL g0) ≤ B q := Nat.le_add_right _ _
      omega
  have htop : B q ≤ 2 * many (form g0) := by
    rw [hm]
    by_cases c : q ∈ endsL g0
    · have h1 := rk_lt' q c
      have e : B q = 2 * rk q (endsL g0) + 1 := by simp [B, c]
      omega
    · have e : B q = 2 * rk q (endsL g0) := by simp [B, c]
      have := rk_le q
      omega
  have hP : Place (many (form g0)) (B p) (B q) := ⟨hlast.1, htop, hlast.2⟩
  -- comparisons of the new span with the others
  have hend : ∀ u ∈ endsL g0, (4 * ((rk u (endsL g0) : Nat) : Int) + 2 < (place (B p) (B q)).2 ↔ u < q) ∧ (4 * ((rk u (endsL g0) : Nat) : Int) + 2 = (place (B p) (B q)).2 ↔ u = q) := by
    intro u hu
    obtain ⟨h1, h2⟩ := hB u hu q
    unfold place
    simp only
    split
    · rename_i c
      have c2 : B q % 2 = 0 := by rw [← c]; have := hlast.2; omega
      have c3 : q ∉ endsL g0 := fun z => by
        have e : B q = 2 * rk q (endsL g0) + 1 := by simp [B, z]
        omega
      have ne : u ≠ q := fun z => c3 (z ▸ hu)
      omega
    · omega
  have hold : ∀ x ∈ g0, letter x (p, q) = letter (4 * ((rk x.1 (endsL g0) : Nat) : Int) + 2, 4 * ((rk x.2 (endsL g0) : Nat) : Int) + 2) (place (B p) (B q)) ∧ letter (p, q) x = letter (place (B p) (B q)) (4 * ((rk x.1 (endsL g0) : Nat) : Int) + 2, 4 * ((rk x.2 (endsL g0) : Nat) : Int) + 2) := by
    intro x hx
    obtain ⟨m1, m2⟩ := mem_ends hx
    obtain ⟨a1, a2⟩ := hB x.1 m1 p
    obtain ⟨a3, a4⟩ := hB x.2 m2 p
    obtain ⟨a5, a6⟩ := hend x.1 m1
    obtain ⟨a7, a8⟩ := hend x.2 m2
    have b2 : (place (B p) (B q)).1 = 2 * ((B p : Nat) : Int) := rfl
    constructor
    · refine letter_congr ⟨⟨?_, ?_⟩, ⟨?_, ?_⟩, ⟨?_, ?_⟩, ?_, ?_⟩ <;> simp only [b2] <;> omega
    · refine letter_congr ⟨⟨?_, ?_⟩, ⟨?_, ?_⟩, ⟨?_, ?_⟩, ?_, ?_⟩ <;> simp only [b2] <;> omega
  have hpl := place_lt hlast.1 hlast.2
  have sp : spread (form g0) = g0.map fun x => (4 * ((rk x.1 (endsL g0) : Nat) : Int) + 2, 4 * ((rk x.2 (endsL g0) : Nat) : Int) + 2) := by simp [spread, form, Function.comp]
  -- the forms are the same
  have hv1 : ∀ x ∈ extF (B p) (B q) (form g0), x.1 < x.2 := (ext_form hf hP).ok
  have same : form (g0 ++ [(p, q)]) = form (extF (B p) (B q) (form g0)) := by
    refine (form_iff hg.ok hv1 (by rw [ext_len, form_len]; simp)).mp ?_
    intro i j x y x' y' h1 h2 h3 h4
    have old : ∀ {i : Nat} {x x' : Span}, i < g0.length → (g0 ++ [(p, q)])[i]? = some x → (extF (B p) (B q) (form g0))[i]? = some x' → x ∈ g0 ∧ x' = (sh (B p) (B q) ((rk x.1 (endsL g0) : Nat) : Int), sh (B p) (B q) ((rk x.2 (endsL g0) : Nat) : Int)) := by
      intro i x x' hi h1 h3
      rw [List.getElem?_append_left hi] at h1
      have hfi : (form g0)[i]? = some (((rk x.1 (endsL g0) : Nat) : Int), ((rk x.2 (endsL g0) : Nat) : Int)) := by simp [form, h1]
      rw [ext_at hfi] at h3
      exact ⟨List.mem_of_getElem? h1, (Option.some.inj h3).symm⟩
    have new : ∀ {i : Nat} {x x' : Span}, i = g0.length → (g0 ++ [(p, q)])[i]? = some x → (extF (B p) (B q) (form g0))[i]? = some x' → x = (p, q) ∧ x' = lastOf (B p) (B q) := by
      intro i x x' hi h1 h3
      subst hi
      simp at h1
      have := ext_last (f := form g0) (b := B p) (e := B q)
      rw [form_len] at this
      rw [this] at h3
      exact ⟨h1.symm, (Option.some.inj h3).symm⟩
    have bound : ∀ {i : Nat} {x : Span}, (g0 ++ [(p, q)])[i]? = some x → i < g0.length ∨ i = g0.length := by
      intro i x h
      have := (List.getElem?_eq_some_iff.mp h).1
      simp at this; omega
    rcases bound h1 with ci | ci <;> rcases bound h2 with cj | cj
    · obtain ⟨m1, rfl⟩ := old ci h1 h3
      obtain ⟨m2, rfl⟩ := old cj h2 h4
      rw [← letter_form m1 m2]
      exact letter_congr ⟨⟨(sh_lt _ _ _ _).symm, by have a := sh_lt (B p) (B q) ((rk x.1 (endsL g0) : Nat) : Int) ((rk y.1 (endsL g0) : Nat) : Int); have b := sh_lt (B p) (B q) ((rk y.1 (endsL g0) : Nat) : Int) ((rk x.1 (endsL g0) : Nat) : Int); simp only; omega⟩,
        ⟨(sh_lt _ _ _ _).symm, by have a := sh_lt (B p) (B q) ((rk x.1 (endsL g0) : Nat) : Int) ((rk y.2 (endsL g0) : Nat) : Int); have b := sh_lt (B p) (B q) ((rk y.2 (endsL g0) : Nat) : Int) ((rk x.1 (endsL g0) : Nat) : Int); simp only; omega⟩,
        ⟨(sh_lt _ _ _ _).symm, by have a := sh_lt (B p) (B q) ((rk x.2 (endsL g0) : Nat) : Int) ((rk y.1 (endsL g0) : Nat) : Int); have b := sh_lt (B p) (B q) ((rk y.1 (endsL g0) : Nat) : Int) ((rk x.2 (endsL g0) : Nat) : Int); simp only; omega⟩,
        (sh_lt _ _ _ _).symm, by have a := sh_lt (B p) (B q) ((rk x.2 (endsL g0) : Nat) : Int) ((rk y.2 (endsL g0) : Nat) : Int); have b := sh_lt (B p) (B q) ((rk y.2 (endsL g0) : Nat) : Int) ((rk x.2 (endsL g0) : Nat) : Int); simp only; omega⟩
    · obtain ⟨m1, rfl⟩ := old ci h1 h3
      obtain ⟨rfl, rfl⟩ := new cj h2 h4
      rw [(hold x m1).1]
      exact (letter_old_new hlast.1 hlast.2 (((rk x.1 (endsL g0) : Nat) : Int), ((rk x.2 (endsL g0) : Nat) : Int))).symm
    · obtain ⟨rfl, rfl⟩ := new ci h1 h3
      obtain ⟨m2, rfl⟩ := old cj h2 h4
      rw [(hold y m2).2]
      exact (letter_new_old hlast.1 hlast.2 (((rk y.1 (endsL g0) : Nat) : Int), ((rk y.2 (endsL g0) : Nat) : Int))).symm
    · obtain ⟨rfl, rfl⟩ := new ci h1 h3
      obtain ⟨rfl, rfl⟩ := new cj h2 h4
      rw [letter_self hpq, letter_self hpl.2]
  refine ⟨B p, B q, hP, ?_, ?_⟩
  · have := hg.nf
    rw [same, (ext_form hf hP).nf] at this
    exact this.symm
  · intro i x y h1 hi h2
    rw [List.getElem?_append_left hi] at h1
    have hy : y = (p, q) := by simpa using h2.symm
    subst hy
    have hm1 := List.mem_of_getElem? h1
    have : (spread (form g0)).getD i (0, 1) = (4 * ((rk x.1 (endsL g0) : Nat) : Int) + 2, 4 * ((rk x.2 (endsL g0) : Nat) : Int) + 2) := by
      rw [sp, List.getD_eq_getElem?_getD, List.getElem?_map, h1]; rfl
    rw [this]
    unfold lc1
    rw [(hold x hm1).1]
end XL
end
section
set_option Elab.async false
set_option linter.all false
set_option autoImplicit false
set_option maxRecDepth 100000
set_option maxHeartbeats 1000000
namespace XL
theorem mem_longer {f g : List Span} {al : Nat → List Nat} (hf : IsForm f) : g ∈ longer f al ↔ IsForm g ∧ g.length = f.length + 1 ∧ form (g.take f.length) = f ∧ ∀ i x y, i < f.length → g[i]? = some x → g[f.length]? = some y → lc1 x y ∈ al i := by
  have sp : ∀ {i : Nat} {x : Span}, f[i]? = some x → (spread f).getD i (0, 1) = (4 * x.1 + 2, 4 * x.2 + 2) := fun {i x} h => by
    rw [spread, List.getD_eq_getElem?_getD, List.getElem?_map, h]; rfl
  unfold longer
  simp only [List.mem_flatMap, List.mem_range, List.mem_map, List.mem_filter, mem_upto]
  constructor
  · rintro ⟨b, hb, e, ⟨⟨h1, h2⟩, hg⟩, rfl⟩
    simp only [good, Bool.and_eq_true, decide_eq_true_eq, fits, List.all_eq_true, List.mem_range] at hg
    have hP : Place (many f) b e := ⟨h1, by omega, hg.1⟩
    refine ⟨ext_form hf hP, ext_len f b e, ext_prefix hf b e, fun i x y hi h3 h4 => ?_⟩
    have hfi : f[i]? = some f[i] := List.getElem?_eq_getElem hi
    rw [ext_at hfi] at h3
    rw [ext_last] at h4
    cases h3
    cases h4
    have := hg.2 i hi
    rw [sp hfi] at this
    unfold lc1 at this ⊢
    rw [letter_old_new h1 hg.1]
    exact this
  · rintro ⟨h1, h2, h3, h4⟩
    obtain ⟨b, e, hP, hE, hlet⟩ := form_is_ext h1 h2
    rw [h3] at hP hE hlet
    refine ⟨b, by have := hP.1; have := hP.2.1; omega, e, ⟨⟨hP.1, by have := hP.2.1; omega⟩, ?_⟩, hE.symm⟩
    simp only [good, Bool.and_eq_true, decide_eq_true_eq, fits, List.all_eq_true, List.mem_range]
    refine ⟨hP.2.2, fun i hi => ?_⟩
    have hgi : g[i]? = some g[i] := List.getElem?_eq_getElem (by omega)
    have hgn : g[f.length]? = some g[f.length] := List.getElem?_eq_getElem (by omega)
    rw [← hlet i _ _ hgi hi hgn]
    exact h4 i _ _ hi hgi hgn
/-- forms of n spans whose ways are allowed -/
structure Sol (al : Nat → Nat → List Nat) (n : Nat) (g : List Span) : Prop where
  fm : IsForm g
  len : g.length = n
  kp : ∀ i j x y, i < j → g[i]? = some x → g[j]? = some y → lc1 x y ∈ al i j
theorem form_at {sc : List Span} {i : Nat} {x : Span} (h : sc[i]? = some x) : (form sc)[i]? = some (((rk x.1 (endsL sc) : Nat) : Int), ((rk x.2 (endsL sc) : Nat) : Int)) := by simp [form, h]
theorem lc1_form {sc : List Span} {i j : Nat} {x y : Span} (hx : sc[i]? = some x) (hy : sc[j]? = some y) : lc1 (((rk x.1 (endsL sc) : Nat) : Int), ((rk x.2 (endsL sc) : Nat) : Int)) (((rk y.1 (endsL sc) : Nat) : Int), ((rk y.2 (endsL sc) : Nat) : Int)) = lc1 x y := by
  unfold lc1
  rw [letter_form (List.mem_of_getElem? hx) (List.mem_of_getElem? hy)]
/-- the letters of a scene's first spans are those of its form's -/
theorem form_take {sc : List Span} (hv : ∀ x ∈ sc, x.1 < x.2) (k : Nat) : form ((form sc).take k) = form (sc.take k) := by
  have hv1 : ∀ x ∈ (form sc).take k, x.1 < x.2 := fun x hx => (form_isForm hv).ok x (List.mem_of_mem_take hx)
  have hv2 : ∀ x ∈ sc.take k, x.1 < x.2 := fun x hx => hv x (List.mem_of_mem_take hx)
  refine (form_iff hv1 hv2 (by simp [form_len])).mp fun i j x y x' y' h1 h2 h3 h4 => ?_
  have lim : ∀ {l : List Span} {i : Nat} {x : Span}, (l.take k)[i]? = some x → l[i]? = some x := fun {l i x} h => by
    rw [List.getElem?_take] at h
    split at h
    · exact h
    · cases h
  have a3 := form_at (lim h3)
  have a4 := form_at (lim h4)
  rw [lim h1] at a3
  rw [lim h2] at a4
  cases a3
  cases a4
  exact letter_form (List.mem_of_getElem? (lim h3)) (List.mem_of_getElem? (lim h4))
theorem Sol.pre {al : Nat → Nat → List Nat} {n k : Nat} {g : List Span} (h : Sol al n g) (hk : k ≤ n) : Sol al k (form (g.take k)) := by
  have hv : ∀ x ∈ g.take k, x.1 < x.2 := fun x hx => h.fm.ok x (List.mem_of_mem_take hx)
  refine ⟨form_isForm hv, by rw [form_len, List.length_take, h.len]; omega, fun i j x y hij hx hy => ?_⟩
  have at_ : ∀ {i : Nat} {x : Span}, (form (g.take k))[i]? = some x → ∃ z, (g.take k)[i]? = some z ∧ g[i]? = some z ∧ x = (((rk z.1 (endsL (g.take k)) : Nat) : Int), ((rk z.2 (endsL (g.take k)) : Nat) : Int)) := fun {i x} h => by
    have hi := (List.getElem?_eq_some_iff.mp h).1
    rw [form_len] at hi
    have e := List.getElem?_eq_getElem hi
    have := form_at e
    rw [h] at this
    refine ⟨_, e, ?_, Option.some.inj this⟩
    rw [List.getElem?_take] at e
    split at e
    · exact e
    · cases e
  obtain ⟨z, z1, z2, rfl⟩ := at_ hx
  obtain ⟨w, w1, w2, rfl⟩ := at_ hy
  rw [lc1_form z1 w1]
  exact h.kp i j z w hij z2 w2
theorem Sol.child {al : Nat → Nat → List Nat} {n k : Nat} {g : List Span} (h : Sol al n g) (hk : k + 1 ≤ n) : form (g.take (k + 1)) ∈ longer (form (g.take k)) (fun i => al i k) := by
  have h1 := h.pre hk
  have h0 := h.pre (k := k) (by omega)
  have hv : ∀ x ∈ g.take (k + 1), x.1 < x.2 := fun x hx => h.fm.ok x (List.mem_of_mem_take hx)
  rw [mem_longer h0.fm]
  rw [h0.len]
  refine ⟨h1.fm, h1.len, ?_, fun i x y hi hx hy => h1.kp i k x y hi hx hy⟩
  rw [form_take hv, List.take_take]
  congr 2
  omega
theorem Sol.longer {al : Nat → Nat → List Nat} {k : Nat} {f g : List Span} (h : Sol al k f) (hg : g ∈ XL.longer f (fun i => al i k)) : Sol al (k + 1) g := by
  rw [mem_longer h.fm, h.len] at hg
  obtain ⟨h1, h2, h3, h4⟩ := hg
  refine ⟨h1, h2, fun i j x y hij hx hy => ?_⟩
  have hj := (List.getElem?_eq_some_iff.mp hy).1
  rw [h2] at hj
  by_cases c : j = k
  · subst c; exact h4 i x y hij hx hy
  · have hx' : (g.take k)[i]? = some x := by rw [List.getElem?_take_of_lt (by omega)]; exact hx
    have hy' : (g.take k)[j]? = some y := by rw [List.getElem?_take_of_lt (by omega)]; exact hy
    have := h.kp i j _ _ hij (by rw [← h3]; exact form_at hx') (by rw [← h3]; exact form_at hy')
    rw [lc1_form hx' hy'] at this
    exact this
/-! ### how many -/
theorem longer_count {f : List Span} {al : Nat → List Nat} : (longer f al).length ≤ (2 * many f + 1) * (2 * many f + 2) / 2 := by
  have key : ∀ M k, k ≤ M → ((List.range k).flatMap fun b => ((upto b M).filter fun e => good f al b e).map fun e => extF b e f).length + (M - k) * (M - k + 1) / 2 ≤ M * (M + 1) / 2 := by
    intro M k
    induction k with
    | zero => intro _; simp
    | succ k ih =>
      intro hk
      have h1 := ih (by omega)
      rw [fm_succ, List.length_append, List.length_map]
      have h2 := List.length_filter_le (fun e => good f al k e) (upto k M)
      rw [upto_len] at h2
      obtain ⟨d, hd⟩ : ∃ d, M - k = d + 1 := ⟨M - k - 1, by omega⟩
      have hd2 : M - (k + 1) = d := by omega
      rw [hd] at h1 h2
      rw [hd2]
      have : (d + 1) * (d + 1 + 1) = d * (d + 1) + 2 * (d + 1) := by
        rw [Nat.add_mul, Nat.mul_add]; simp [Nat.mul_add, Nat.add_mul]; omega
      rw [this] at h1
      omega
  have := key (2 * many f + 1) (2 * many f + 1) (Nat.le_refl _)
  rw [Nat.sub_self] at this
  simp only [Nat.zero_mul, Nat.zero_div, Nat.add_zero] at this
  exact this
def cK : Nat → Nat
  | 0 => 1
  | 1 => 15
  | 2 => 45
  | 3 => 91
  | _ => 153
theorem longer_cK {f : List Span} {al : Nat → List Nat} {k : Nat} (hl : f.length = k) (h1 : 1 ≤ k) (h4 : k ≤ 4) : (longer f al).length ≤ cK k := by
  have h := longer_count (f := f) (al := al)
  have hm := many_le f
  rw [hl] at hm
  have mono : (2 * many f + 1) * (2 * many f + 2) ≤ (4 * k + 1) * (4 * k + 2) := Nat.mul_le_mul (by omega) (by omega)
  have : (2 * many f + 1) * (2 * many f + 2) / 2 ≤ (4 * k + 1) * (4 * k + 2) / 2 := Nat.div_le_div_right mono
  have e : (4 * k + 1) * (4 * k + 2) / 2 ≤ cK k := by
    match k, h1, h4 with
    | 1, _, _ => decide
    | 2, _, _ => decide
    | 3, _, _ => decide
    | 4, _, _ => decide
  omega
end XL
end
section
set_option Elab.async false
set_option linter.all false
set_option autoImplicit false
set_option maxRecDepth 100000
set_option maxHeartbeats 1000000
namespace XL
/-! ### while -/
/-! ### some form whose ways are allowed -/
def wK : Nat → Nat
  | 1 => 9460141
  | 2 => 630676
  | 3 => 14015
  | 4 => 154
  | _ => 1
def wL (L : List (List Span)) : Nat := (L.map fun s => wK s.length).sum
theorem wL_app (A B : List (List Span)) : wL (A ++ B) = wL A + wL B := by simp [wL]
theorem wL_const {B : List (List Span)} {k : Nat} (h : ∀ s ∈ B, s.length = k) : wL B = B.length * wK k := by
  unfold wL
  induction B with
  | nil => simp
  | cons s B ih =>
    rw [List.map_cons, List.sum_cons, ih (fun x hx => h x (List.mem_cons_of_mem _ hx)), h s List.mem_cons_self, List.length_cons, Nat.succ_mul]
    omega
/-- a stack of forms: longer ones behind shorter ones, never many of one length -/
structure Stack (al : Nat → Nat → List Nat) (n : Nat) (L : List (List Span)) : Prop where
  sol : ∀ s ∈ L, Sol al s.length s ∧ 1 ≤ s.length ∧ s.length ≤ n
  srt : L.Pairwise fun a b => a.length ≤ b.length
  few : ∀ k, (L.filter fun s => s.length == k).length ≤ cK (k - 1)
  all : ∀ g, Sol al n g → ∃ s ∈ L, form (g.take s.length) = s
theorem split_len {n : Nat} : ∀ {L : List (List Span)}, (∀ s ∈ L, 1 ≤ s.length ∧ s.length ≤ 5) → L.length = (L.filter fun s => s.length == 1).length + (L.filter fun s => s.length == 2).length + (L.filter fun s => s.length == 3).length + (L.filter fun s => s.length == 4).length + (L.filter fun s => s.length == 5).length
  | [], _ => rfl
  | s :: L, h => by
    have ih := split_len (n := n) (L := L) fun x hx => h x (List.mem_cons_of_mem _ hx)
    have hs := h s List.mem_cons_self
    have hc : s.length = 1 ∨ s.length = 2 ∨ s.length = 3 ∨ s.length = 4 ∨ s.length = 5 := by omega
    rcases hc with c | c | c | c | c <;> simp only [List.filter_cons, c, List.length_cons] <;> simp <;> omega
theorem Stack.size {al : Nat → Nat → List Nat} {n : Nat} {L : List (List Span)} (h : Stack al n L) (hn : n ≤ 5) : L.length ≤ 305 := by
  have := split_len (n := n) (L := L) fun s hs => ⟨(h.sol s hs).2.1, Nat.le_trans (h.sol s hs).2.2 hn⟩
  have h1 := h.few 1
  have h2 := h.few 2
  have h3 := h.few 3
  have h4 := h.few 4
  have h5 := h.few 5
  simp [cK] at h1 h2 h3 h4 h5
  omega
theorem Stack.next {al : Nat → Nat → List Nat} {n : Nat} {L : List (List Span)} {s : List Span} (h : Stack al n (L ++ [s])) (hn : n ≤ 5) (hs : s.length ≠ n) : Stack al n (L ++ longer s (fun i => al i s.length)) ∧ wL (L ++ longer s (fun i => al i s.length)) < wL (L ++ [s]) := by
  obtain ⟨h1, h2, h3⟩ := h.sol s (by simp)
  have hk : s.length ≤ 4 := by omega
  have hch : ∀ g ∈ longer s (fun i => al i s.length), Sol al (s.length + 1) g := fun g hg => h1.longer hg
  have hcl : ∀ g ∈ longer s (fun i => al i s.length), g.length = s.length + 1 := fun g hg => (hch g hg).len
  have hle : ∀ x ∈ L, x.length ≤ s.length := fun x hx => (List.pairwise_append.mp h.srt).2.2 x hx s (by simp)
  refine ⟨⟨fun x hx => ?_, ?_, fun k => ?_, fun g hg => ?_⟩, ?_⟩
  · rcases List.mem_append.mp hx with q | q
    · exact h.sol x (by simp [q])
    · have := hch x q
      have e := hcl x q
      rw [e]
      exact ⟨this, by omega, by omega⟩
  · refine List.pairwise_append.mpr ⟨(List.pairwise_append.mp h.srt).1, ?_, fun a ha b hb => ?_⟩
    · have : ∀ (B : List (List Span)), (∀ g ∈ B, g.length = s.length + 1) → B.Pairwise fun a b => a.length ≤ b.length := by
        intro B
        induction B with
        | nil => intro _; exact List.Pairwise.nil
        | cons x B ih =>
          intro hB
          refine List.pairwise_cons.mpr ⟨fun y hy => ?_, ih fun g hg => hB g (List.mem_cons_of_mem _ hg)⟩
          rw [hB x List.mem_cons_self, hB y (List.mem_cons_of_mem _ hy)]
          exact Nat.le_refl _
      exact this _ hcl
    · rw [hcl b hb]; have := hle a ha; omega
  · rw [List.filter_append, List.length_append]
    by_cases c : k = s.length + 1
    · have e : (L.filter fun s => s.length == k) = [] := List.filter_eq_nil_iff.mpr fun x hx => by
        have := hle x hx
        simp; omega
      rw [e]
      have e2 := List.length_filter_le (fun s => s.length == k) (longer s (fun i => al i s.length))
      have e3 := longer_cK (f := s) (al := fun i => al i s.length) rfl h2 hk
      have : k - 1 = s.length := by omega
      rw [this]
      simp only [List.length_nil, Nat.zero_add]
      omega
    · have e : ((longer s (fun i => al i s.length)).filter fun s => s.length == k) = [] := List.filter_eq_nil_iff.mpr fun x hx => by
        have := hcl x hx
        simp; omega
      have h5 := h.few k
      rw [List.filter_append, List.length_append] at h5
      rw [e]
      simp only [List.length_nil]
      omega
  · obtain ⟨x, hx, e⟩ := h.all g hg
    rcases List.mem_append.mp hx with q | q
    · exact ⟨x, List.mem_append_left _ q, e⟩
    · simp at q
      subst q
      have := hg.child (k := x.length) (by omega)
      rw [e] at this
      refine ⟨_, List.mem_append_right _ this, ?_⟩
      have := (hg.pre (k := x.length + 1) (by omega)).len
      rw [this]
  · rw [wL_app, wL_app, wL_const hcl]
    have e3 := longer_cK (f := s) (al := fun i => al i s.length) rfl h2 hk
    have : wL [s] = wK s.length := by simp [wL]
    rw [this]
    have m := Nat.mul_le_mul_right (wK (s.length + 1)) e3
    have : cK s.length * wK (s.length + 1) < wK s.length := by
      have hc : s.length = 1 ∨ s.length = 2 ∨ s.length = 3 ∨ s.length = 4 := by omega
      rcases hc with c | c | c | c <;> rw [c] <;> decide
    omega
end XL
end
section
set_option Elab.async false
set_option linter.all false
set_option autoImplicit false
set_option maxRecDepth 100000
set_option maxHeartbeats 1000000
namespace XL
/-! ### the ways of all pairs, in a dict -/
abbrev Al := Nat → Nat → List Nat
theorem pairP_inj {x y : Nat × Nat} : pairP x = pairP y ↔ x = y := by
  obtain ⟨a, b⟩ := x
  obtain ⟨c, d⟩ := y
  simp [pairP]
  omega
def updA (al : Al) (i j : Nat) (s : List Nat) : Al := fun a b => if a = i ∧ b = j then s else al a b
/-- ways in sequence, for all pairs -/
def OkA (n : Nat) (al : Al) : Prop := ∀ i j, i < j → j < n → AscN (al i j) ∧ ∀ c ∈ al i j, c ∈ c_LETTERS
def wb (al : Al) (i j : Nat) : List Nat := if i < j then al i j else conv (al j i)
theorem OkA.wb {n : Nat} {al : Al} (h : OkA n al) {i j : Nat} (hi : i < n) (hj : j < n) (ne : i ≠ j) : ∀ c ∈ XL.wb al i j, c ∈ c_LETTERS := by
  intro c hc
  unfold XL.wb at hc
  split at hc
  · exact (h i j (by assumption) hj).2 c hc
  · have := (h j i (by omega) hi).2
    exact ((mem_conv this).mp hc).1
/-! ### nothing left for some pair -/
/-! ### cutting down by threes -/
def cut (al : Al) (i j k : Nat) : List Nat := (al i j).filter fun c => decide (c ∈ comp (wb al i k) (wb al k j))
theorem cut_ok {n : Nat} {al : Al} (h : OkA n al) {i j k : Nat} (hij : i < j) (hj : j < n) : OkA n (updA al i j (cut al i j k)) := by
  intro a b hab hb
  unfold updA
  split
  · rename_i q
    obtain ⟨rfl, rfl⟩ := q
    have := h a b hab hb
    exact ⟨this.1.filter _, fun c hc => this.2 c (List.mem_filter.mp hc).1⟩
  · exact h a b hab hb
theorem Sol.wb {al : Al} {n : Nat} {g : List Span} (h : OkA n al) (hg : Sol al n g) {i k : Nat} {x z : Span} (hi : g[i]? = some x) (hk : g[k]? = some z) (ne : i ≠ k) : lc1 x z ∈ XL.wb al i k := by
  have li := (List.getElem?_eq_some_iff.mp hi).1
  have lk := (List.getElem?_eq_some_iff.mp hk).1
  rw [hg.len] at li lk
  unfold XL.wb
  split
  · exact hg.kp i k x z (by assumption) hi hk
  · have hki : k < i := by omega
    rw [mem_conv (h k i hki li).2]
    have hx := hg.fm.ok x (List.mem_of_getElem? hi)
    have hz := hg.fm.ok z (List.mem_of_getElem? hk)
    refine ⟨lc1_letter x z, ?_⟩
    have e := letter_conv hz hx
    rw [letter_lc1 z x, letter_lc1 x z] at e
    have e2 : convC (lc1 z x) = lc1 x z := by
      have : conv [lc1 z x] = [convC (lc1 z x)] := rfl
      rw [this] at e
      exact (List.cons.inj e).1
    rw [← e2, (conv_conv _ (lc1_letter z x)).1]
    exact hg.kp k i z x hki hk hi
theorem Sol.cut {al : Al} {n : Nat} {g : List Span} (h : OkA n al) (hg : Sol al n g) {i j k : Nat} (hij : i < j) (hj : j < n) (hk : k < n) (n1 : k ≠ i) (n2 : k ≠ j) : Sol (updA al i j (XL.cut al i j k)) n g := by
  refine ⟨hg.fm, hg.len, fun a b x y hab hx hy => ?_⟩
  unfold updA
  split
  · rename_i q
    obtain ⟨rfl, rfl⟩ := q
    have lk : k < g.length := by rw [hg.len]; exact hk
    have hz : g[k]? = some g[k] := List.getElem?_eq_getElem lk
    unfold XL.cut
    rw [List.mem_filter]
    refine ⟨hg.kp a b x y hab hx hy, decide_eq_true ?_⟩
    have ha : a < n := by omega
    rw [mem_comp (h.wb ha hk n1.symm) (h.wb hk hj n2)]
    exact ⟨_, hg.wb h hx hz n1.symm, _, hg.wb h hz hy n2, tbl_sound (hg.fm.ok _ (List.mem_of_getElem? hx)) (hg.fm.ok _ (List.mem_of_getElem? hz)) (hg.fm.ok _ (List.mem_of_getElem? hy))⟩
  · exact hg.kp a b x y hab hx hy
def tot (n : Nat) (al : Al) : Nat := ((pairsN n).map fun x => (al x.1 x.2).length).sum
theorem pairsN_nodup : ∀ n, n ≤ 5 → (pairsN n).Nodup := by decide
theorem tot_upd {n : Nat} (hn : n ≤ 5) {al : Al} {i j : Nat} {s : List Nat} (hij : i < j) (hj : j < n) : tot n (updA al i j s) + (al i j).length = tot n al + s.length := by
  have key : ∀ l : List (Nat × Nat), l.Nodup → ((i, j) ∉ l → (l.map fun x => (updA al i j s x.1 x.2).length).sum = (l.map fun x => (al x.1 x.2).length).sum) ∧ ((i, j) ∈ l → (l.map fun x => (updA al i j s x.1 x.2).length).sum + (al i j).length = (l.map fun x => (al x.1 x.2).length).sum + s.length) := by
    intro l
    induction l with
    | nil => intro _; exact ⟨fun _ => rfl, fun h => by cases h⟩
    | cons x l ih =>
      intro hn
      obtain ⟨h1, h2⟩ := List.nodup_cons.mp hn
      obtain ⟨i1, i2⟩ := ih h2
      obtain ⟨a, b⟩ := x
      simp only [List.map_cons, List.sum_cons]
      by_cases c : (a, b) = (i, j)
      · have c2 : a = i ∧ b = j := by simpa using c
        obtain ⟨rfl, rfl⟩ := c2
        have e : updA al a b s a b = s := by simp [updA]
        refine ⟨fun h => absurd List.mem_cons_self h, fun _ => ?_⟩
        rw [e, i1 h1]
        omega
      · have c2 : ¬ (a = i ∧ b = j) := by simpa using c
        have e : updA al i j s a b = al a b := by simp [updA, c2]
        rw [e]
        refine ⟨fun h => ?_, fun h => ?_⟩
        · rw [i1 fun q => h (List.mem_cons_of_mem _ q)]
        · rcases List.mem_cons.mp h with q | q
          · exact absurd q.symm c
          · have := i2 q
            omega
  exact (key (pairsN n) (pairsN_nodup n hn)).2 (mem_pairsN.mpr ⟨hij, hj⟩)
end XL
end
section
set_option Elab.async false
set_option linter.all false
set_option autoImplicit false
set_option maxRecDepth 100000
set_option maxHeartbeats 1000000
namespace XL
structure Cl (n : Nat) (al0 : Al) (T0 : Nat) (al : Al) (nw : Bool) : Prop where
  ok : OkA n al
  sub : ∀ i j, ∀ c ∈ al i j, c ∈ al0 i j
  sol : ∀ g, Sol al0 n g → Sol al n g
  le : tot n al ≤ T0
  lt : nw = true → tot n al < T0
theorem Cl.step {n : Nat} (hn : n ≤ 5) {al0 al : Al} {T0 : Nat} {nw : Bool} (h : Cl n al0 T0 al nw) {i j k : Nat} (hij : i < j) (hj : j < n) (hk : k < n) (n1 : k ≠ i) (n2 : k ≠ j) : Cl n al0 T0 (updA al i j (cut al i j k)) (nw || !decide (cut al i j k = al i j)) := by
  have ht := tot_upd hn (al := al) (s := cut al i j k) hij hj
  have hs : (cut al i j k).Sublist (al i j) := List.filter_sublist
  have hle := hs.length_le
  have h1 := h.le
  refine ⟨cut_ok h.ok hij hj, fun a b c hc => ?_, fun g hg => (h.sol g hg).cut h.ok hij hj hk n1 n2, by omega, fun q => ?_⟩
  · unfold updA at hc
    split at hc
    · rename_i q
      obtain ⟨rfl, rfl⟩ := q
      exact h.sub a b c (List.mem_filter.mp hc).1
    · exact h.sub a b c hc
  · by_cases c : nw = true
    · have := h.lt c
      omega
    · have c' : nw = false := by simpa using c
      rw [c'] at q
      simp only [Bool.false_or, Bool.not_eq_true', decide_eq_false_iff_not] at q
      have : (cut al i j k).length ≠ (al i j).length := fun e => q (hs.eq_of_length e)
      omega
end XL
end
section
set_option Elab.async false
set_option linter.all false
set_option autoImplicit false
set_option maxRecDepth 100000
set_option maxHeartbeats 1000000
namespace XL
end XL
end
open XL
local macro_rules | `(tactic| simp_all_arith) => `(tactic| repeat first
  | (with_reducible exact sv_z) | (with_reducible apply sv_s) | (with_reducible apply pv_w) | ((with_reducible apply pv_nm); (· rfl)) | (with_reducible apply pv_tp) | (with_reducible exact pv_nil) | ((with_reducible apply pv_cons); (· rfl)) | (with_reducible apply wv_cons) | (with_reducible apply wv_nil) | (with_reducible exact lk_none) | ((with_reducible apply lk_l); (· rfl)) | ((with_reducible apply lk_d); (· rfl))
  | (with_reducible exact bv_nil) | ((with_reducible apply bv_cons_n); (· rfl)) | ((with_reducible apply bv_cons_p); (· rfl)) | ((with_reducible apply bv_cons_l); (· rfl)) | (with_reducible exact ul_none) | ((with_reducible apply ul_some); (· rfl)))
local macro_rules | `(tactic| simp_arith) => `(tactic| first
  | (with_reducible refine seqK_nx ?_)
  | (with_reducible refine wps_seq ?_)
  | (with_reducible refine wps_set ?_)
  | (with_reducible refine wps_if ?_)
  | (with_reducible refine wps_ret ?_)
  | (with_reducible refine wps_drop ?_)
  | (with_reducible refine wps_unp ?_)
  | (with_reducible refine wps_unpL ?_)
  | (with_reducible refine wps_par ?_)
  | (with_reducible refine wps_pass ?_)
  | (with_reducible refine wps_putL ?_)
  | (with_reducible refine wps_putD ?_)
  | (with_reducible refine seqK_rt ?_)
  | ((with_reducible refine' wpe_varp ?h ?_); case h => rfl)
  | ((with_reducible refine' wpe_varl ?h ?_); case h => rfl)
  | ((with_reducible refine' wpe_vard ?h ?_); case h => rfl)
  | (with_reducible refine wpe_c ?_)
  | (with_reducible refine wpe_bin ?_)
  | (with_reducible refine wpe_un ?_)
  | (with_reducible refine wpe_def ?_)
  | (with_reducible refine wpe_call ?_)
  | (with_reducible refine wpe_tup ?_)
  | (with_reducible refine wpe_lst ?_)
  | (with_reducible refine wpe_meth ?_)
  | (with_reducible refine wpe_if ?_)
  | (with_reducible refine wpe_and ?_)
  | (with_reducible refine wpe_or ?_)
  | (with_reducible refine wpe_not ?_)
  | (with_reducible refine wpe_chain ?_)
  | (with_reducible refine wpt_B ?_)
  | (with_reducible refine wpt_and ?_)
  | (with_reducible refine wpt_or ?_)
  | (with_reducible refine wpt_not ?_)
  | (with_reducible refine wpt_yes ?_)
  | (with_reducible refine wpa_cons ?_)
  | (with_reducible refine wpa_nil ?_)
  | (with_reducible refine wpd_consD ?_)
  | (with_reducible refine wpd_consB ?_)
  | (with_reducible refine wpd_nil ?_)
  | (with_reducible refine wpe_isN ?_)
  | (with_reducible refine wpe_app ?_)
  | (with_reducible refine wpe_ext ?_)
  | (with_reducible refine wpe_pop ?_)
  | (with_reducible refine wpe_newD ?_)
  | (with_reducible refine wpe_getD ?_)
  | (with_reducible refine wpe_inD ?_)
  | (with_reducible refine wpe_lenD ?_)
  | (with_reducible refine wpe_sortedD ?_)
  | (with_reducible refine wpe_sortedT ?_)
  | (with_reducible refine wpe_copyD ?_)
  | (with_reducible refine wpe_slice ?_)
  | ((with_reducible refine' set_end_p ?h1 ?h2 ?_); (case h1 => rfl); (case h2 => (repeat (first | exact sv_z | apply sv_s))))
  | ((with_reducible refine' set_end_l ?h1 ?h2 ?_); (case h1 => rfl); (case h2 => (repeat (first | exact sv_z | apply sv_s))))
  | ((with_reducible refine' set_end_d ?h1 ?h2 ?_); (case h1 => rfl); (case h2 => (repeat (first | exact sv_z | apply sv_s))))
  | ((with_reducible refine' set_end_sl ?h1 ?hv ?hc ?ht ?h0 ?h2 ?_); (case h1 => rfl); (case hv => rfl); (case hc => exact fun z => nomatch z); (case ht => rfl); (case h0 => (repeat (first | exact sv_z | apply sv_s))); (case h2 => (repeat (first | exact sv_z | apply sv_s))))
  | (with_reducible refine qr_p ?_)
  | (with_reducible refine qr_frl ?_)
  | (with_reducible refine qr_frd ?_)
  | ((with_reducible refine' bin_end ?h1 ?h2 ?h3 ?_); (case h1 => rfl); (case h2 => rfl); (case h3 => first | with_reducible assumption | rfl))
  | ((with_reducible refine' un_end ?h1 ?h3 ?_); (case h1 => rfl); (case h3 => first | with_reducible assumption | rfl))
  | ((with_reducible refine' call_end ?h1 ?h3 ?_); (case h1 => (repeat (first | exact urds_nil | apply urds_p | apply urds_frl | (apply urds_sl (by rfl))))); (case h3 => first | with_reducible assumption | rfl))
  | ((with_reducible refine' meth1_end ?h1 ?h2 ?_); (case h1 => rfl); (case h2 => rfl))
  | ((with_reducible refine' meth2_end ?h1 ?h2 ?h3 ?_); (case h1 => rfl); (case h2 => (repeat (first | exact urds_nil | apply urds_p | apply urds_frl | (apply urds_sl (by rfl))))); (case h3 => first | with_reducible assumption | rfl))
  | ((with_reducible refine' tup_end ?h1 ?h2 ?_); (case h1 => (repeat (first | exact ufzs_nil | apply ufzs_p | apply ufzs_frl))); (case h2 => rfl))
  | ((with_reducible refine' at_end ?h ?_); case h => (repeat (first | exact sv_z | apply sv_s)))
  | (with_reducible refine B_end ?_)
  | (with_reducible refine ife_t ?_)
  | (with_reducible refine ife_f ?_)
  | (with_reducible refine ifo_t ?_)
  | (with_reducible refine ifo_f ?_)
  | (with_reducible refine live_p ?_)
  | (with_reducible refine live_frl ?_)
  | (with_reducible refine live_frd ?_)
  | ((with_reducible refine' live_l ?h ?_); case h => rfl)
  | ((with_reducible refine' live_d ?h ?_); case h => rfl)
  | ((with_reducible refine' def_end ?h1 ?h2 ?h3 ?h4 ?_); (case h1 => rfl); (case h2 => (repeat (first | exact argVs_nil | apply argVs_p' | apply argVs_frl' | apply argVs_frd' | (apply argVs_l' (by rfl)) | (apply argVs_d' (by rfl))))); (case h3 => with_reducible assumption); (case h4 => first | exact putGo_nil | (refine' putGo_tw ⟨_, rfl⟩ ?q1 ?q2 ?q3; (case q1 => rfl); (case q2 => exact fun z => nomatch z); (case q3 => (repeat (first | exact sv_z | apply sv_s))))))
  | ((with_reducible refine' app1_end ?h ?_); case h => rfl)
  | ((with_reducible refine' app2_end ?h1 ?h2 ?h3 ?h4 ?_); (case h1 => rfl); (case h2 => exact fun z => nomatch z); (case h3 => rfl); (case h4 => with_reducible assumption))
  | ((with_reducible refine' ext2_end ?h1 ?h2 ?h4 ?_); (case h1 => rfl); (case h2 => exact fun z => nomatch z); (case h4 => with_reducible assumption))
  | (with_reducible refine wpi_any ?_)
  | (with_reducible refine wpi_rng1 ?_)
  | (with_reducible refine wpi_rng2 ?_)
  | (with_reducible refine wpi_enum ?_)
  | ((with_reducible refine' wpi_keys ?h ?_); case h => rfl)
  | (with_reducible refine it_lst ?_)
  | (with_reducible refine it_tup ?_)
  | (with_reducible refine it_str ?_)
  | (with_reducible refine it_frl ?_)
  | ((with_reducible refine' it_sl ?h ?_); case h => rfl)
  | ((with_reducible refine' unp_end ?h1 ?h2 ?_); (case h1 => rfl); (case h2 => simp_all_arith))
  | ((with_reducible refine' par_end ?h1 ?_); (case h1 => (simp only [setAllA, U.boxA, AV.val, Option.bind_some, List.set, List.length, if_true, Nat.blt_eq]; rfl)))
  | ((with_reducible refine' getD2_end ?h1 ?h2 ?h3 ?h4 ?_); (case h1 => rfl); (case h2 => rfl); (case h3 => first | with_reducible assumption | rfl); (case h4 => first | with_reducible assumption | rfl))
  | ((with_reducible refine' putD_end ?h1 ?h2 ?h3 ?h4 ?h5 ?_); (case h1 => rfl); (case h2 => rfl); (case h3 => first | with_reducible assumption | rfl); (case h4 => with_reducible assumption); (case h5 => rfl))
  | ((with_reducible refine' chain_end ?h1 ?h2 ?h3 ?_); (case h1 => rfl); (case h2 => rfl); (case h3 => first | with_reducible assumption | rfl))
  | (with_reducible refine wpp_none ?_)
  | (with_reducible refine wpp_some ?_)
  | (with_reducible refine int_end ?_)
  | (with_reducible refine enum_end ?_)
  | ((with_reducible refine' put_end ?h ?_); (case h => simp_all_arith))
  | ((with_reducible refine' atb_end ?h ?_); (case h => simp_all_arith))
  | ((with_reducible refine' atu_end ?h ?_); (case h => simp_all_arith))
  | (with_reducible refine getD1_end ?_))
local macro_rules | `(tactic| bv_omega) => `(tactic| repeat simp_arith)
local macro_rules | `(tactic| simp_arith!) => `(tactic| repeat first | exact forget_nil | refine forget_keep ?_ | refine forget_drop ?_)
local macro_rules | `(tactic| decreasing_with $t) => `(tactic| ((repeat simp_arith); repeat ((first | (refine br_f ?h ?_; (case h => $t)) | (refine br_t ?h ?_; (case h => $t)) | (refine bo_f ?h ?_; (case h => $t)) | (refine bo_t ?h ?_; (case h => $t))); repeat simp_arith)))
section
set_option Elab.async false
set_option linter.all false
set_option autoImplicit false
set_option maxRecDepth 100000
set_option maxHeartbeats 1000000
namespace XL
/-! ### what is known of the defs, as runs -/
theorem runs_letter_of (x y : Span) : RunsF f_letter_of [.p (pr x), .p (pr y)] (.p (.str (letter x y))) [] := runs_pure (ps := [pr x, pr y]) (letter_of_ok x y)
end XL
end
section
set_option Elab.async false
set_option linter.all false
set_option autoImplicit false
set_option maxRecDepth 100000
set_option maxHeartbeats 1000000
namespace XL
/-! ### forms_with -/
end XL
end
section
set_option Elab.async false
set_option linter.all false
set_option autoImplicit false
set_option maxRecDepth 100000
set_option maxHeartbeats 1000000
namespace XL
/-! ### webs -/
abbrev Cl3 := Nat × Nat × List Nat
def clP (c : Cl3) : P := .tup [.int (c.1 : Nat), .int (c.2.1 : Nat), .str c.2.2]
structure ClOk (n : Nat) (c : Cl3) : Prop where
  lt : c.1 < c.2.1
  hi : c.2.1 < n
  ways : IsWays c.2.2
structure IsWeb (n : Nat) (cs : List Cl3) : Prop where
  one : 1 ≤ n
  five : n ≤ 5
  few : cs.length ≤ 8
  ok : ∀ c ∈ cs, ClOk n c
  asc : AscP (cs.map clP)
theorem ix_tupN {ds : List P} {i : Nat} {d : P} (h : ds[i]? = some d) : pIx (.tup ds) (.int (i : Nat)) = some (.p d) := ix_tup_of (by omega) (by simpa using h)
end XL
end
section
set_option Elab.async false
set_option linter.all false
set_option autoImplicit false
set_option maxRecDepth 100000
set_option maxHeartbeats 1000000
namespace XL
/-! ### the ways that claims allow -/
theorem runs_pairs_of (n : Nat) (hn : n ≤ 100) : RunsF f_pairs_of [.p (.int (n : Nat))] (.frl ((pairsN n).map pairP)) [] := runs_pure (ps := [.int (n : Nat)]) (pairs_of_ok n hn)
/-! ### forms that keep a web -/
/-- the way of two spans of a form -/
def wayAt (g : List Span) (i j : Nat) : Nat := lc1 (g.getD i (0, 1)) (g.getD j (0, 1))
structure KeepsW (n : Nat) (cs : List Cl3) (g : List Span) : Prop where
  fm : IsForm g
  len : g.length = n
  kp : ∀ c ∈ cs, wayAt g c.1 c.2.1 ∈ c.2.2
theorem at_getD {g : List Span} {i : Nat} (h : i < g.length) : g[i]? = some (g.getD i (0, 1)) := by simp [List.getD_eq_getElem?_getD, List.getElem?_eq_getElem h]
/-- is there a form? -/
def Poss (n : Nat) (cs : List Cl3) : Prop := ∃ g, KeepsW n cs g
noncomputable def possB (n : Nat) (cs : List Cl3) : Bool := @decide (Poss n cs) (Classical.propDecidable _)
theorem possB_iff {n : Nat} {cs : List Cl3} : possB n cs = true ↔ Poss n cs := by unfold possB; exact @decide_eq_true_iff _ (Classical.propDecidable _)
end XL
end
section
set_option Elab.async false
set_option linter.all false
set_option autoImplicit false
set_option maxRecDepth 100000
set_option maxHeartbeats 1000000
namespace XL
/-! ### draws -/
abbrev scrP (ns : List Int) : P := .lst (ns.map P.int)
def TwL (ns : List Int) (c : Int) (T : List P) : Prop := Tw ns c (.lst T)
theorem TwL.mono {ns : List Int} {c c' : Int} {T : List P} (h : TwL ns c T) (hc : c ≤ c') : TwL ns c' T := Tw.mono h hc
theorem tw_lst {ns : List Int} {c : Int} {C : Cell} (h : Tw ns c C) : ∃ T, C = .lst T ∧ TwL ns c T := by
  have h' := h
  obtain ⟨t0, tr, h1, _⟩ := h'
  simp at h1
  subst h1
  exact ⟨_, rfl, h⟩
theorem args_tw {S : Sto} {xs : List D} {d : P} {T : List P} {ps : List P} (A : Args S xs (.p d :: .l .gst T :: ps.map V.p)) : ∃ l, xs = .p d :: .ref l :: ps.map D.p ∧ S[l]? = some (.lst T) := by
  obtain ⟨l, h1, h2⟩ := A.cel 1 _ _ rfl rfl
  refine ⟨l, ?_, h2⟩
  apply List.ext_getElem?
  intro i
  match i with
  | 0 => exact A.dat 0 d rfl
  | 1 => exact h1
  | i + 2 =>
    by_cases c : i < ps.length
    · have := A.dat (i + 2) ps[i] (by simp [c])
      rw [this]; simp [c]
    · rw [List.getElem?_eq_none (by rw [A.len]; simp; omega), List.getElem?_eq_none (by simp; omega)]
theorem runs_tw {f : XF} [LocF f] {d : P} {ps : List P} {T T' : List P} {r : R} (hr : ∀ l, r ≠ .ref l) (h : f (.p d :: .ref 0 :: ps.map D.p) [.lst T] = some (r, [.lst T'])) : RunsF f (.p d :: .l .gst T :: ps.map V.p) r [(1, .l .gst T')] := fun S xs A => by
  obtain ⟨l, rfl, hl⟩ := args_tw A
  have hlt := (List.getElem?_eq_some_iff.mp hl).1
  have e := frameL h (fun x hx => by
    simp only [List.mem_cons, List.mem_map] at hx
    rcases hx with rfl | rfl | ⟨p, _, rfl⟩
    · trivial
    · exact Nat.zero_lt_one
    · trivial) hr hl
  have em : (D.p d :: D.ref 0 :: ps.map D.p).map (D.to l) = .p d :: .ref l :: ps.map D.p := by
    simp [D.to, Function.comp]
  rw [em] at e
  refine ⟨S.set l (.lst T'), e, by simp, fun i v c k hv hc hk => ?_, fun j hj hn => ?_⟩
  · by_cases ei : i = 1
    · subst ei
      simp [List.lookup] at hv; subst hv
      cases hc
      simp at hk; subst hk
      exact List.getElem?_set_self hlt
    · have : List.lookup i [(1, V.l .gst T')] = none := by
        simp only [List.lookup]
        have : (i == 1) = false := by simp [ei]
        rw [this]
      rw [this] at hv; cases hv
  · have ne : l ≠ j := fun q => by
      have := hn 1 (by simp [q])
      simp [List.lookup] at this
    exact List.getElem?_set_ne ne
theorem runs_draw {ns : List Int} {c : Int} {T : List P} (hT : TwL ns c T) (hc : c < 1000000) (lim : Int) (h0 : 0 < lim) (h1 : lim < 1000000) : ∃ (v : Nat) (T' : List P), RunsF f_law_draw [.p (scrP ns), .l .gst T, .p (.int lim)] (.p (.int (v : Nat))) [(1, .l .gst T')] ∧ (v : Int) < lim ∧ TwL ns (c + 1) T' := by
  obtain ⟨v, C', e, v0, v1, hT'⟩ := draw_tw (lim := lim) hT hc h0 h1 []
  obtain ⟨T', rfl, hT'⟩ := tw_lst hT'
  obtain ⟨k, rfl⟩ : ∃ k : Nat, v = (k : Nat) := ⟨v.toNat, by omega⟩
  exact ⟨k, T', runs_tw (ps := [.int lim]) (fun l z => nomatch z) e, v1, hT'⟩
theorem runs_pick {ns : List Int} {c : Int} {T : List P} (hT : TwL ns c T) (hc : c < 1000000) (ch : List P) (h0 : ch ≠ []) (h1 : ch.length < 1000000) : ∃ d T', RunsF f_law_pick [.p (scrP ns), .l .gst T, .p (.lst ch)] (.p d) [(1, .l .gst T')] ∧ d ∈ ch ∧ TwL ns (c + 1) T' := by
  obtain ⟨d, C', e, hd, hT'⟩ := pick_tw hT hc ch h0 h1 []
  obtain ⟨T', rfl, hT'⟩ := tw_lst hT'
  exact ⟨d, T', runs_tw (ps := [.lst ch]) (fun l z => nomatch z) e, hd, hT'⟩
theorem runs_scene {ns : List Int} {c : Int} {T : List P} (n : Nat) (nI far : Int) (hI : nI = (n : Nat)) (hT : TwL ns c T) (hn : n ≤ 1000) (hc : c + 2 * n < 1000000) (h0 : 0 < far) (h1 : far < 1000000) : ∃ sc T', RunsF f_law_scene [.p (scrP ns), .l .gst T, .p (.int nI), .p (.int far)] (.p (scP sc)) [(1, .l .gst T')] ∧ sc.length = n ∧ (∀ x ∈ sc, 0 ≤ x.1 ∧ x.1 < far ∧ x.1 < x.2 ∧ x.2 ≤ x.1 + far) ∧ TwL ns (c + 2 * n) T' := by
  subst hI
  obtain ⟨sc, C', e, hl, hs, hT'⟩ := scene_tw n far hT hn hc h0 h1 []
  obtain ⟨T', rfl, hT'⟩ := tw_lst hT'
  exact ⟨sc, T', runs_tw (ps := [.int (n : Nat), .int far]) (fun l z => nomatch z) e, hl, hs, hT'⟩
theorem runs_town {ns : List Int} (hl : ns.length ≤ 63) : RunsF f_law_town [.p (scrP ns)] (.frl (.int 0 :: ns.map P.int)) [] := runs_pure (ps := [scrP ns]) (law_town_ok hl)
theorem twL_new (ns : List Int) : TwL ns 0 (.int 0 :: ns.map P.int) := tw_new
/-- a law is kept: from the run of its body -/
theorem law_of_runs {ns : List Int} {n : Nat} {b : XS} (h : RunsF (mkF 1 n b) [.p (scrP ns)] (.p (.bl true)) []) : ∃ S, mkF 1 n b [.p (.lst (ns.map P.int))] [] = some (.p (.bl true), S) := by
  obtain ⟨S', e, _⟩ := h [] [.p (scrP ns)] ⟨rfl, fun i d hd => by
    cases i with
    | zero => simp at hd ⊢; exact hd
    | succ i => simp at hd, fun i v c hv hc => by
    cases i with
    | zero => simp at hv; subst hv; cases hc
    | succ i => simp at hv, fun i j l hi hj => by
    cases i with
    | zero => simp at hi
    | succ i => simp at hi⟩
  exact ⟨S', e⟩
/-! ### pairs -/
theorem runs_law_pairs {n : Nat} (hn : n ≤ 5) : RunsF f_law_pairs [.p (.int (n : Nat))] (.frl ((pairsN n).map pairP)) [] := by
  refine runs_mk rfl rfl ?_
  show WPS b_law_pairs [some (.p (.int (n : Nat))), none, none, none] _
  unfold b_law_pairs
  bv_omega
  refine wps_for ?_
  bv_omega
  refine rng1_end (n := n) rfl (by omega) ?_
  refine for_rng (fun k => [some (.p (.int (n : Nat))), some (.l .own (((List.range k).flatMap fun i => (upto (i + 1) n).map fun j => (i, j)).map pairP)), none, none]) (by simp_arith!) (fun i hi => ?_) ?_
  · have hlen : ∀ k ≤ n, (((List.range k).flatMap fun i => (upto (i + 1) n).map fun j => (i, j)).map pairP).length ≤ 25 := fun k hk => by
      have : ∀ k, ((List.range k).flatMap fun i => (upto (i + 1) n).map fun j => (i, j)).length ≤ k * n := by
        intro k
        induction k with
        | zero => simp
        | succ k ih =>
          rw [fm_succ, List.length_append, List.length_map, upto, List.length_map, List.length_range, Nat.succ_mul]
          omega
      have h1 := this k
      have h2 : k * n ≤ 5 * 5 := Nat.mul_le_mul (by omega) (by omega)
      rw [List.length_map]; omega
    have a1 : pAdd (.lst (((List.range i).flatMap fun i => (upto (i + 1) n).map fun j => (i, j)).map pairP)) (.lst ((uptoN (i + 1) n).map fun j => pairP (i, j))) = some (.frl (((List.range (i + 1)).flatMap fun i => (upto (i + 1) n).map fun j => (i, j)).map pairP)) := by
      have h1 := hlen (i + 1) (by omega)
      rw [fm_succ, List.map_append, List.map_map] at h1 ⊢
      rw [List.length_append] at h1
      have eu : uptoN (i + 1) n = upto (i + 1) n := rfl
      rw [eu]
      exact if_pos (show _ ≤ 1000000 by simp only [List.length_map] at h1 ⊢; omega)
    bv_omega
    refine wpe_lc_all (fun (k : Nat) => P.int (k : Nat)) (uptoN (i + 1) n) (fun j => pairP (i, j)) rfl ?_
    bv_omega
    refine rng2_end (n := i + 1) (m := n) (by simp) rfl (by omega) (by omega) ?_
    refine ⟨rfl, rfl, by simp [uptoN]; omega, fun j hj => ?_, ?_⟩
    · bv_omega
      exact ⟨rfl, rfl⟩
    bv_omega
    exact turn_eq (by simp_arith!) trivial
  · bv_omega
    exact ⟨rfl, trivial⟩
end XL
end
section
set_option Elab.async false
set_option linter.all false
set_option autoImplicit false
set_option maxRecDepth 100000
set_option maxHeartbeats 1000000
namespace XL
/-! ### sorted by what things look like -/
def insB {α : Type} (f : α → P) (x : α) : List α → List α
  | [] => [x]
  | y :: ys => if P.lt (f y) (f x) then y :: insB f x ys else x :: y :: ys
def sortB {α : Type} (f : α → P) : List α → List α
  | [] => []
  | x :: xs => insB f x (sortB f xs)
theorem insP_map {α : Type} (f : α → P) (x : α) : ∀ l : List α, insP (f x) (l.map f) = (insB f x l).map f
  | [] => rfl
  | y :: l => by
    simp only [List.map_cons, insP, insB]
    split
    · simp [insP_map f x l]
    · simp
theorem sortP_map {α : Type} (f : α → P) : ∀ l : List α, sortP (l.map f) = (sortB f l).map f
  | [] => rfl
  | x :: l => by simp only [List.map_cons, sortP, sortB, sortP_map f l, insP_map]
theorem mem_insB {α : Type} {f : α → P} {x y : α} : ∀ {l : List α}, y ∈ insB f x l ↔ y = x ∨ y ∈ l
  | [] => by simp [insB]
  | z :: l => by
    unfold insB
    split
    · simp only [List.mem_cons, mem_insB (l := l)]
      constructor
      · rintro (h | h | h) <;> simp [h]
      · rintro (h | h | h) <;> simp [h]
    · simp
theorem mem_sortB {α : Type} {f : α → P} {y : α} : ∀ {l : List α}, y ∈ sortB f l ↔ y ∈ l
  | [] => by simp [sortB]
  | z :: l => by unfold sortB; rw [mem_insB, mem_sortB]; simp
theorem sortB_len {α : Type} (f : α → P) (l : List α) : (sortB f l).length = l.length := by
  have := congrArg List.length (sortP_map f l)
  rw [sortP_length, List.length_map, List.length_map] at this
  exact this.symm
/-! ### rows of numbers -/
def chRows : Nat → List (List Nat)
  | 0 => [[]]
  | m + 1 => chRows m ++ (chRows m).map fun r => r ++ [m]
theorem mem_chRows : ∀ {m : Nat} {r : List Nat}, r ∈ chRows m ↔ r.Pairwise (· < ·) ∧ ∀ k ∈ r, k < m
  | 0, r => by
    simp only [chRows, List.mem_cons, List.not_mem_nil, or_false]
    constructor
    · rintro rfl; simp
    · rintro ⟨_, h⟩
      cases r with
      | nil => rfl
      | cons k r => have := h k (by simp); omega
  | m + 1, r => by
    simp only [chRows, List.mem_append, List.mem_map, mem_chRows (m := m)]
    constructor
    · rintro (⟨h1, h2⟩ | ⟨s, ⟨h1, h2⟩, rfl⟩)
      · exact ⟨h1, fun k hk => by have := h2 k hk; omega⟩
      · refine ⟨?_, fun k hk => ?_⟩
        · rw [List.pairwise_append]
          exact ⟨h1, by simp, fun a ha b hb => by simp at hb; subst hb; exact h2 a ha⟩
        · simp at hk; rcases hk with hk | rfl
          · have := h2 k hk; omega
          · omega
    · rintro ⟨h1, h2⟩
      by_cases c : m ∈ r
      · right
        rcases List.eq_nil_or_concat r with rfl | ⟨s, k, e⟩
        · simp at c
        · rw [List.concat_eq_append] at e
          subst e
          rw [List.pairwise_append] at h1
          have hk : k = m := by
            simp at c
            rcases c with c | c
            · have := h1.2.2 m c k (by simp)
              have := h2 k (by simp); omega
            · exact c.symm
          subst hk
          exact ⟨s, ⟨h1.1, fun a ha => h1.2.2 a ha k (by simp)⟩, rfl⟩
      · left
        exact ⟨h1, fun k hk => by
          have := h2 k hk
          have : k ≠ m := fun e => c (e ▸ hk)
          omega⟩
theorem nodup_map {α β : Type} {f : α → β} (hf : ∀ a b, f a = f b → a = b) {l : List α} (h : l.Nodup) : (l.map f).Nodup := List.Pairwise.map f (fun a b ne e => ne (hf a b e)) h
theorem row_len_le {m : Nat} {r : List Nat} (h : r ∈ chRows m) : r.length ≤ m := by
  induction m generalizing r with
  | zero => simp [chRows] at h; subst h; simp
  | succ m ih =>
    simp only [chRows, List.mem_append, List.mem_map] at h
    rcases h with h | ⟨s, h, rfl⟩
    · have := ih h; omega
    · have := ih h; simp; omega
end XL
end
section
set_option Elab.async false
set_option linter.all false
set_option autoImplicit false
set_option maxRecDepth 100000
set_option maxHeartbeats 1000000
namespace XL
/-! ### some of the claims -/
def pickC (cs : List Cl3) (r : List Nat) : List Cl3 := r.map fun k => cs.getD k (0, 0, [])
theorem getC {cs : List Cl3} {k : Nat} (h : k < cs.length) : cs[k]? = some (cs.getD k (0, 0, [])) := by simp [List.getD_eq_getElem?_getD, List.getElem?_eq_getElem h]
theorem mem_pickC {cs : List Cl3} {r : List Nat} (h : ∀ k ∈ r, k < cs.length) {c : Cl3} (hc : c ∈ pickC cs r) : c ∈ cs := by
  obtain ⟨k, hk, rfl⟩ := List.mem_map.mp hc
  exact List.mem_of_getElem? (getC (h k hk))
theorem pickC_asc {cs : List Cl3} {r : List Nat} (ha : AscP (cs.map clP)) (hr : r.Pairwise (· < ·)) (h : ∀ k ∈ r, k < cs.length) : AscP ((pickC cs r).map clP) := by
  unfold AscP pickC
  rw [List.map_map, List.pairwise_map]
  refine List.Pairwise.imp_of_mem (fun {a b} ha' hb' hab => ?_) hr
  have := List.pairwise_iff_getElem.mp ha a b (by simpa using h a ha') (by simpa using h b hb') hab
  simp only [List.getElem_map] at this
  simp only [Function.comp]
  rw [List.getD_eq_getElem?_getD, List.getD_eq_getElem?_getD, List.getElem?_eq_getElem (h a ha'), List.getElem?_eq_getElem (h b hb')]
  exact this
theorem asc_row_len {m : Nat} {r : List Nat} (hr : r.Pairwise (· < ·)) (h : ∀ k ∈ r, k < m) : r.length ≤ m := row_len_le (mem_chRows.mpr ⟨hr, h⟩)
theorem IsWeb.pick {n : Nat} {cs : List Cl3} (h : IsWeb n cs) {r : List Nat} (hr : r.Pairwise (· < ·)) (hk : ∀ k ∈ r, k < cs.length) : IsWeb n (pickC cs r) := by
  refine ⟨h.one, h.five, ?_, fun c hc => h.ok c (mem_pickC hk hc), pickC_asc h.asc hr hk⟩
  have := asc_row_len hr hk
  have := h.few
  unfold pickC; rw [List.length_map]; omega
theorem Poss.sub {n : Nat} {cs ds : List Cl3} (h : Poss n cs) (hs : ∀ c ∈ ds, c ∈ cs) : Poss n ds := by
  obtain ⟨g, hg⟩ := h
  exact ⟨g, hg.fm, hg.len, fun c hc => hg.kp c (hs c hc)⟩
/-! ### clash -/
/-! ### whether a form keeps claims -/
theorem ix_sc {g : List Span} {i : Nat} (h : i < g.length) : pIx (scP g) (.int (i : Nat)) = some (.p (pr (g.getD i (0, 1)))) := ix_tupN (by rw [List.getElem?_map, at_getD h]; rfl)
end XL
end
section
set_option Elab.async false
set_option linter.all false
set_option autoImplicit false
set_option maxRecDepth 100000
set_option maxHeartbeats 1000000
namespace XL
/-! ### all forms, each once, ascending -/
/-! order of scenes -/
/-- L is the list of all forms that keep the claims -/
structure Fms (n : Nat) (cs : List Cl3) (L : List (List Span)) : Prop where
  asc : AscP (L.map scP)
  mem : ∀ g, g ∈ L ↔ KeepsW n cs g
end XL
end
section
set_option Elab.async false
set_option linter.all false
set_option autoImplicit false
set_option maxRecDepth 100000
set_option maxHeartbeats 1000000
namespace XL
/-! ### what a scene breaks -/
theorem numbered_eq : ∀ (ds : List P) (k : Nat), numbered k ds = (List.range ds.length).map fun i => P.tup [.int ((k + i : Nat) : Int), ds.getD i .non]
  | [], k => rfl
  | d :: ds, k => by
    rw [numbered, numbered_eq ds (k + 1), List.length_cons, List.range_succ_eq_map, List.map_cons, List.map_map]
    simp only [Nat.add_zero, List.getD_cons_zero, List.cons.injEq, true_and]
    refine List.map_congr_left fun i _ => ?_
    simp only [Function.comp, List.getD_cons_succ]
    rw [show k + 1 + i = k + (i + 1) by omega]
theorem runs_check_scene {sc : List Span} (h : Valid sc) : RunsF f_check_scene [.p (scP sc)] (.p .non) [] := runs_pure (ps := [scP sc]) (check_scene_ok h)
theorem len_sc (sc : List Span) : cLen [scP sc] = some (.p (.int (sc.length : Nat))) := by simp [scP]
end XL
end
section
set_option Elab.async false
set_option linter.all false
set_option autoImplicit false
set_option maxRecDepth 100000
set_option maxHeartbeats 1000000
namespace XL
/-! ### drawn webs -/
end XL
end
section
set_option Elab.async false
set_option linter.all false
set_option autoImplicit false
set_option maxRecDepth 100000
set_option maxHeartbeats 1000000
namespace XL
/-! ### all forms of up to three spans, ascending -/
/-! ### scenes and their forms -/
end XL
end
section
set_option Elab.async false
set_option linter.all false
set_option autoImplicit false
set_option maxRecDepth 100000
set_option maxHeartbeats 1000000
namespace XL
/-! ### the naive functions: all rows of ends -/
end XL
end
section
set_option Elab.async false
set_option linter.all false
set_option autoImplicit false
set_option maxRecDepth 100000
set_option maxHeartbeats 4000000
namespace XL
/-! ### the end of found_least -/
/-! ### what it gives -/
structure LInv (n : Nat) (al L : Al) : Prop where
  nd : ∀ i j, i < j → j < n → (L i j).Nodup
  so : ∀ i j, i < j → j < n → ∀ c ∈ L i j, ∃ g, Sol al n g ∧ wayAt g i j = c
theorem way_letter (g : List Span) (i j : Nat) : wayAt g i j ∈ c_LETTERS := lc1_letter _ _
theorem LInv.few {n : Nat} {al L : Al} (h : LInv n al L) {i j : Nat} (hij : i < j) (hj : j < n) : (L i j).length ≤ 13 :=
  sub_len (h.nd i j hij hj) fun c hc => by obtain ⟨g, _, e⟩ := h.so i j hij hj c hc; rw [← e]; exact way_letter g i j
end XL
end
section
set_option Elab.async false
set_option linter.all false
set_option autoImplicit false
set_option maxRecDepth 100000
set_option maxHeartbeats 4000000
namespace XL
/-! ### the triples -/
end XL
end
section
set_option Elab.async false
set_option linter.all false
set_option autoImplicit false
set_option maxRecDepth 100000
set_option maxHeartbeats 4000000
namespace XL
/-! ### what follows -/
/-! ### needless claims -/
def dropC (cs : List Cl3) (k : Nat) : List Cl3 := cs.take k ++ cs.drop (k + 1)
theorem mem_dropC {cs : List Cl3} {k : Nat} {c : Cl3} (h : c ∈ dropC cs k) : c ∈ cs := by
  rcases List.mem_append.mp h with z | z
  · exact List.mem_of_mem_take z
  · exact List.mem_of_mem_drop z
theorem IsWeb.drop {n : Nat} {cs : List Cl3} (h : IsWeb n cs) (k : Nat) : IsWeb n (dropC cs k) := by
  refine ⟨h.one, h.five, ?_, fun c hc => h.ok c (mem_dropC hc), ?_⟩
  · have := h.few
    simp only [dropC, List.length_append, List.length_take, List.length_drop]; omega
  · have ha := h.asc
    unfold AscP at ha ⊢
    refine ha.sublist ?_
    rw [dropC, List.map_append]
    have e : cs.map clP = (cs.take k).map clP ++ (cs.drop k).map clP := by rw [← List.map_append, List.take_append_drop]
    rw [e]
    refine List.Sublist.append (List.Sublist.refl _) ?_
    refine List.Sublist.map _ ?_
    have e2 : cs.drop (k + 1) = (cs.drop k).drop 1 := by rw [List.drop_drop]
    rw [e2]
    exact List.drop_sublist 1 _
/-! ### two webs -/
def Same (n : Nat) (cs ds : List Cl3) : Prop := ∀ g, KeepsW n cs g ↔ KeepsW n ds g
end XL
end
section
set_option Elab.async false
set_option linter.all false
set_option autoImplicit false
set_option maxRecDepth 100000
set_option maxHeartbeats 4000000
namespace XL
theorem ne_self {p : P} (h : P.fit 60 p = true) : pNe p p = some (.p (.bl false)) := by simp only [pNe, h, pyeq_refl, Bool.and_self, if_true, Bool.not_true]
theorem Fms.ne {n : Nat} {cs : List Cl3} {L : List (List Span)} (h : Fms n cs L) : (L.map scP).isEmpty = !possB n cs := by
  cases e : possB n cs with
  | true =>
    obtain ⟨g, hg⟩ := possB_iff.mp e
    have := (h.mem g).mpr hg
    cases L with
    | nil => cases this
    | cons x L => rfl
  | false =>
    cases L with
    | nil => rfl
    | cons x L =>
      have := possB_iff.mpr ⟨x, (h.mem x).mp (by simp)⟩
      rw [this] at e; cases e
end XL
end
section
set_option Elab.async false
set_option linter.all false
set_option autoImplicit false
set_option maxRecDepth 100000
set_option maxHeartbeats 4000000
namespace XL
theorem Same.trans {n : Nat} {a b c : List Cl3} (h : Same n a b) (k : Same n b c) : Same n a c := fun g => (h g).trans (k g)
theorem Same.symm {n : Nat} {a b : List Cl3} (h : Same n a b) : Same n b a := fun g => (h g).symm
end XL
end
section
set_option Elab.async false
set_option linter.all false
set_option autoImplicit false
set_option maxRecDepth 100000
set_option maxHeartbeats 4000000
namespace XL
/-! ### the closed web -/
/-! ### two spans -/
/-! ### webs narrowed -/
end XL
end
section
set_option Elab.async false
set_option linter.all false
set_option autoImplicit false
set_option maxRecDepth 100000
set_option maxHeartbeats 4000000
namespace XL
/-! ### greatest and least -/
theorem maxI_sp : ∀ {l : List Int}, l ≠ [] → maxI l ∈ l ∧ ∀ x ∈ l, x ≤ maxI l
  | [], h => absurd rfl h
  | [x], _ => by simp [maxI]
  | x :: y :: l, _ => by
    obtain ⟨h1, h2⟩ := maxI_sp (l := y :: l) (by simp)
    have e : maxI (x :: y :: l) = if x < maxI (y :: l) then maxI (y :: l) else x := rfl
    rw [e]
    split
    · rename_i hlt
      exact ⟨List.mem_cons_of_mem _ h1, fun z hz => (List.mem_cons.mp hz).elim (fun e => by subst e; omega) (fun hz => by exact h2 z hz)⟩
    · rename_i hlt
      exact ⟨by simp, fun z hz => (List.mem_cons.mp hz).elim (fun e => by subst e; omega) (fun hz => by have := h2 z hz; omega)⟩
theorem minI_sp : ∀ {l : List Int}, l ≠ [] → minI l ∈ l ∧ ∀ x ∈ l, minI l ≤ x
  | [], h => absurd rfl h
  | [x], _ => by simp [minI]
  | x :: y :: l, _ => by
    obtain ⟨h1, h2⟩ := minI_sp (l := y :: l) (by simp)
    have e : minI (x :: y :: l) = if minI (y :: l) < x then minI (y :: l) else x := rfl
    rw [e]
    split
    · rename_i hlt
      exact ⟨List.mem_cons_of_mem _ h1, fun z hz => (List.mem_cons.mp hz).elim (fun e => by subst e; omega) (fun hz => by exact h2 z hz)⟩
    · rename_i hlt
      exact ⟨by simp, fun z hz => (List.mem_cons.mp hz).elim (fun e => by subst e; omega) (fun hz => by have := h2 z hz; omega)⟩
theorem maxI_eq {l m : List Int} (hl : l ≠ []) (hm : m ≠ []) (h1 : ∀ x ∈ l, ∃ y ∈ m, x ≤ y) (h2 : ∀ x ∈ m, ∃ y ∈ l, x ≤ y) : maxI l = maxI m := by
  obtain ⟨a1, a2⟩ := maxI_sp hl
  obtain ⟨b1, b2⟩ := maxI_sp hm
  obtain ⟨y, hy, e⟩ := h1 _ a1
  obtain ⟨z, hz, e2⟩ := h2 _ b1
  have := b2 y hy
  have := a2 z hz
  omega
theorem intsOf_map : ∀ l : List Int, intsOf (l.map P.int) = some l
  | [] => rfl
  | x :: l => by
    have : intsOf ((x :: l).map P.int) = (intsOf (l.map P.int)).map fun bs => x :: bs := rfl
    rw [this, intsOf_map l]; rfl
theorem cMax_ints {l : List Int} (h : l ≠ []) : cMax [.lst (l.map P.int)] = some (.p (.int (maxI l))) := by
  have : cMax [.lst (l.map P.int)] = (intsOf (l.map P.int)).bind fun bs => if bs = [] then none else some (.p (.int (maxI bs))) := rfl
  rw [this, intsOf_map, Option.bind_some, if_neg h]
theorem cMin_ints {l : List Int} (h : l ≠ []) : cMin [.lst (l.map P.int)] = some (.p (.int (minI l))) := by
  have : cMin [.lst (l.map P.int)] = (intsOf (l.map P.int)).bind fun bs => if bs = [] then none else some (.p (.int (minI bs))) := rfl
  rw [this, intsOf_map, Option.bind_some, if_neg h]
/-! ### spans at once -/
def hasM (m : Int) (x : Span) : Bool := decide (x.1 ≤ m ∧ m < x.2)
def cntM (sc : List Span) (m : Int) : Nat := (sc.filter (hasM m)).length
def once (sc : List Span) : Int := maxI (sc.map fun x => (cntM sc x.1 : Int))
theorem cnt_le_begin {sc : List Span} (m : Int) (h : cntM sc m ≠ 0) : ∃ x ∈ sc, hasM m x = true ∧ cntM sc m ≤ cntM sc x.1 := by
  -- the latest begin of the spans that have m
  have key : ∀ l : List Span, l ≠ [] → ∃ x ∈ l, ∀ y ∈ l, y.1 ≤ x.1 := by
    intro l
    induction l with
    | nil => intro h; exact absurd rfl h
    | cons a l ih =>
      intro _
      by_cases hl : l = []
      · subst hl; exact ⟨a, by simp, fun y hy => by simp at hy; subst hy; exact Int.le_refl _⟩
      · obtain ⟨x, hx, hm⟩ := ih hl
        by_cases c : x.1 ≤ a.1
        · exact ⟨a, by simp, fun y hy => (List.mem_cons.mp hy).elim (fun e => by subst e; exact Int.le_refl _) (fun hy => by have := hm y hy; omega)⟩
        · exact ⟨x, List.mem_cons_of_mem _ hx, fun y hy => (List.mem_cons.mp hy).elim (fun e => by subst e; omega) (fun hy => by exact hm y hy)⟩
  have hne : sc.filter (hasM m) ≠ [] := fun z => h (by simp [cntM, z])
  obtain ⟨x, hx, hm⟩ := key _ hne
  obtain ⟨hx1, hx2⟩ := List.mem_filter.mp hx
  refine ⟨x, hx1, hx2, ?_⟩
  have sub : ∀ y ∈ sc, hasM m y = true → hasM x.1 y = true := fun y hy hh => by
    have h1 := hm y (List.mem_filter.mpr ⟨hy, hh⟩)
    have h2 := of_decide_eq_true hh
    have h3 := of_decide_eq_true hx2
    exact decide_eq_true ⟨h1, by omega⟩
  unfold cntM
  have : sc.filter (hasM m) = (sc.filter (hasM x.1)).filter (hasM m) := by
    rw [List.filter_filter]
    refine List.filter_congr fun y hy => ?_
    cases e : hasM m y with
    | false => simp
    | true => rw [sub y hy e]; rfl
  rw [this]
  exact List.length_filter_le _ _
theorem once_spec {sc : List Span} (h : sc ≠ []) : (∃ x ∈ sc, once sc = (cntM sc x.1 : Int)) ∧ ∀ m, (cntM sc m : Int) ≤ once sc := by
  have hne : (sc.map fun x => (cntM sc x.1 : Int)) ≠ [] := by simpa using h
  obtain ⟨h1, h2⟩ := maxI_sp hne
  refine ⟨?_, fun m => ?_⟩
  · obtain ⟨x, hx, e⟩ := List.mem_map.mp h1
    exact ⟨x, hx, e.symm⟩
  · by_cases c : cntM sc m = 0
    · obtain ⟨x, hx⟩ := List.exists_mem_of_ne_nil _ h
      have := h2 _ (List.mem_map.mpr ⟨x, hx, rfl⟩)
      unfold once
      omega
    · obtain ⟨x, hx, _, hc⟩ := cnt_le_begin m c
      have := h2 _ (List.mem_map.mpr ⟨x, hx, rfl⟩)
      unfold once
      omega
/-- by some moments, among which all begins are -/
theorem once_by {sc : List Span} (h : sc ≠ []) {ms : List Int} (hb : ∀ x ∈ sc, x.1 ∈ ms) : maxI (ms.map fun m => (cntM sc m : Int)) = once sc := by
  obtain ⟨x, hx⟩ := List.exists_mem_of_ne_nil _ h
  refine maxI_eq ?_ (by simpa using h) (fun v hv => ?_) fun v hv => ?_
  · intro z
    have := hb x hx
    rw [List.map_eq_nil_iff] at z
    rw [z] at this; cases this
  · obtain ⟨m, hm, rfl⟩ := List.mem_map.mp hv
    by_cases c : cntM sc m = 0
    · exact ⟨_, List.mem_map.mpr ⟨x, hx, rfl⟩, by omega⟩
    · obtain ⟨y, hy, _, hc⟩ := cnt_le_begin m c
      exact ⟨_, List.mem_map.mpr ⟨y, hy, rfl⟩, by omega⟩
  · obtain ⟨y, hy, rfl⟩ := List.mem_map.mp hv
    exact ⟨_, List.mem_map.mpr ⟨y.1, hb y hy, rfl⟩, Int.le_refl _⟩
theorem once_pos {sc : List Span} (h : sc ≠ []) (hv : ∀ x ∈ sc, x.1 < x.2) : 1 ≤ once sc := by
  obtain ⟨x, hx⟩ := List.exists_mem_of_ne_nil _ h
  have h2 := (once_spec h).2 x.1
  have : x ∈ sc.filter (hasM x.1) := List.mem_filter.mpr ⟨hx, decide_eq_true ⟨Int.le_refl _, hv x hx⟩⟩
  have h3 : 1 ≤ cntM sc x.1 := by
    unfold cntM
    cases e : sc.filter (hasM x.1) with
    | nil => rw [e] at this; cases this
    | cons _ _ => simp
  omega
theorem filt_len_map {α β : Type} (p : α → Bool) (v : β) (l : List α) : ((l.filter p).map fun _ => v).length = (l.filter p).length := List.length_map _
theorem runs_found_at_once {sc : List Span} (h : sc ≠ []) (hl : sc.length ≤ 1000) : RunsF f_found_at_once [.p (scP sc)] (.p (.int (once sc))) [] := by
  refine runs_mk rfl rfl ?_
  show WPS b_found_at_once [some (.p (scP sc)), none, none, none, none] _
  unfold b_found_at_once
  have cm := cMax_ints (l := sc.map fun x => (cntM sc x.1 : Int)) (by simpa using h)
  bv_omega
  refine wpe_lc_all pr sc (fun x => P.int (cntM sc x.1 : Nat)) rfl ?_
  unfold scP
  bv_omega
  refine ⟨rfl, rfl, by omega, fun x hx => ?_, ?_⟩
  · unfold pr
    bv_omega
    refine wpe_lc_t pr sc (fun y => hasM x.1 y) (fun _ => P.int 1) rfl ?_
    unfold pr
    bv_omega
    refine ⟨rfl, rfl, by omega, fun y hy => ?_, ?_⟩
    · have q1 : pLe (.int y.1) (.int x.1) = some (.p (.bl (decide (y.1 ≤ x.1)))) := rfl
      have q2 : pLt (.int x.1) (.int y.2) = some (.p (.bl (decide (x.1 < y.2)))) := rfl
      bv_omega
      refine ⟨fun h1 => ?_, fun h1 => ?_⟩
      · bv_omega
        refine ⟨rfl, ?_, fun _ => ?_⟩
        · have := of_decide_eq_true h1
          simp [hasM, this]
        · bv_omega
          exact ⟨rfl, rfl⟩
      · refine ⟨false, rfl, rfl, ?_, fun z => nomatch z⟩
        have := of_decide_eq_false h1
        simp only [hasM]
        exact (decide_eq_false (fun z => this z.1)).symm
    have cl : cLen [.lst ((sc.filter fun y => hasM x.1 y).map fun _ => P.int 1)] = some (.p (.int (cntM sc x.1 : Nat))) := by
      have : cLen [.lst ((sc.filter fun y => hasM x.1 y).map fun _ => P.int 1)] = some (.p (.int ((((sc.filter fun y => hasM x.1 y).map fun _ => P.int 1).length : Nat)))) := rfl
      rw [this, filt_len_map]; rfl
    bv_omega
    exact ⟨rfl, rfl⟩
  have em : sc.map (fun x => P.int ((cntM sc x.1 : Nat) : Int)) = (sc.map fun x => (cntM sc x.1 : Int)).map P.int := by rw [List.map_map]; rfl
  rw [em]
  bv_omega
  exact ⟨rfl, trivial⟩
theorem runs_at_once {sc : List Span} (hv : Valid sc) : RunsF f_at_once [.p (scP sc)] (.p (.int (once sc))) [] := by
  have h1 := hv.one
  have h5 := hv.five
  refine runs_mk rfl rfl ?_
  show WPS b_at_once [some (.p (scP sc))] _
  unfold b_at_once
  have rc := runs_check_scene hv
  have ro := runs_found_at_once (sc := sc) (fun z => by rw [z] at h1; simp at h1) (by omega)
  bv_omega
  exact ⟨rfl, trivial⟩
/-! ### numbers at once of the forms of a web -/
end XL
end
section
set_option Elab.async false
set_option linter.all false
set_option autoImplicit false
set_option maxRecDepth 100000
set_option maxHeartbeats 4000000
namespace XL
/-! ### dealing rooms -/
def shareB (x y : Span) : Bool := !decide (lc1 x y ∈ [66, 77, 98, 109])
theorem nodup_len_le {α : Type} [DecidableEq α] : ∀ {l m : List α}, l.Nodup → (∀ x ∈ l, x ∈ m) → l.length ≤ m.length
  | [], m, _, _ => Nat.zero_le _
  | x :: l, m, hn, hs => by
    obtain ⟨h1, h2⟩ := List.nodup_cons.mp hn
    have q := nodup_len_le (l := l) (m := m.erase x) h2 fun y hy => (List.mem_erase_of_ne (fun z : y = x => h1 (z ▸ hy))).mpr (hs y (List.mem_cons_of_mem _ hy))
    have hx := hs x List.mem_cons_self
    rw [List.length_erase_of_mem hx] at q
    have := List.length_pos_of_mem hx
    simp only [List.length_cons]
    omega
theorem shareB_iff {x y : Span} (hx : x.1 < x.2) (hy : y.1 < y.2) : shareB x y = true ↔ x.1 < y.2 ∧ y.1 < x.2 := by
  unfold shareB lc1 letter
  repeat' split
  all_goals (simp; try omega)
theorem runs_share (x y : Span) : RunsF f_share_moment [.p (pr x), .p (pr y)] (.p (.bl (shareB x y))) [] := by
  refine runs_mk rfl rfl ?_
  show WPS b_share_moment [some (.p (pr x)), some (.p (pr y))] _
  unfold b_share_moment
  have rl : RunsF f_letter_of [.p (pr x), .p (pr y)] (.p (.str [lc1 x y])) [] := by
    have := runs_letter_of x y
    rw [letter_lc1] at this; exact this
  have ni : pNotIn (.str [lc1 x y]) (.str [66, 77, 98, 109]) = some (.p (.bl (shareB x y))) := rfl
  bv_omega
  exact ⟨rfl, trivial⟩
abbrev spAt (sc : List Span) (k : Nat) : Span := sc.getD k (0, 1)
/-- rooms that are taken when k is dealt -/
def takenR (sc : List Span) (F : List (Nat × Nat)) (k : Nat) : List Nat := (F.filter fun e => shareB (spAt sc e.1) (spAt sc k)).map (·.2)
def freeR (n : Nat) (tk : List Nat) : Nat := ((List.range n).filter fun r => !decide (r ∈ tk)).headD 0
def dealR (sc : List Span) (ks : List Nat) : List (Nat × Nat) := ks.foldl (fun F k => F ++ [(k, freeR sc.length (takenR sc F k))]) []
theorem dealR_snoc (sc : List Span) (ks : List Nat) (k : Nat) : dealR sc (ks ++ [k]) = dealR sc ks ++ [(k, freeR sc.length (takenR sc (dealR sc ks) k))] := by simp [dealR]
theorem dealR_keys (sc : List Span) : ∀ ks : List Nat, (dealR sc ks).map (·.1) = ks := by
  intro ks
  have key : ∀ (ks : List Nat) (F : List (Nat × Nat)), (ks.foldl (fun F k => F ++ [(k, freeR sc.length (takenR sc F k))]) F).map (·.1) = F.map (·.1) ++ ks := by
    intro ks
    induction ks with
    | nil => intro F; simp
    | cons k ks ih => intro F; simp [ih]
  simpa [dealR] using key ks []
theorem freeR_spec {n : Nat} {tk : List Nat} (h : tk.length < n) : freeR n tk < n ∧ freeR n tk ∉ tk ∧ ∀ q, q < freeR n tk → q ∈ tk := by
  have hne : ((List.range n).filter fun r => !decide (r ∈ tk)) ≠ [] := by
    intro z
    rw [List.filter_eq_nil_iff] at z
    have sub : ∀ x ∈ List.range n, x ∈ tk := fun x hx => by have := z x hx; simpa using this
    have := nodup_len_le List.nodup_range sub
    rw [List.length_range] at this
    omega
  unfold freeR
  cases e : (List.range n).filter fun r => !decide (r ∈ tk) with
  | nil => exact absurd e hne
  | cons r rs =>
    have hr : r ∈ (List.range n).filter fun r => !decide (r ∈ tk) := by rw [e]; simp
    obtain ⟨h1, h2⟩ := List.mem_filter.mp hr
    refine ⟨List.mem_range.mp h1, by simpa using h2, fun q hq => ?_⟩
    have hq : q < r := hq
    by_cases c : q ∈ tk
    · exact c
    · exfalso
      have hqm : q ∈ (List.range n).filter fun r => !decide (r ∈ tk) := List.mem_filter.mpr ⟨List.mem_range.mpr (by have := List.mem_range.mp h1; omega), by simpa using c⟩
      rw [e] at hqm
      have asc : ((List.range n).filter fun r => !decide (r ∈ tk)).Pairwise (· < ·) := List.pairwise_lt_range.filter _
      rw [e] at asc
      rcases List.mem_cons.mp hqm with z | z
      · omega
      · have := (List.pairwise_cons.mp asc).1 q z; omega
structure RInv (sc : List Span) (F : List (Nat × Nat)) : Prop where
  lt : ∀ e ∈ F, e.1 < sc.length ∧ e.2 < sc.length
  nd : (F.map (·.1)).Nodup
  dif : ∀ e ∈ F, ∀ f ∈ F, e.1 ≠ f.1 → shareB (spAt sc e.1) (spAt sc f.1) = true → e.2 ≠ f.2
  low : ∀ e ∈ F, ∀ q, q < e.2 → ∃ f ∈ F, f.2 = q ∧ shareB (spAt sc f.1) (spAt sc e.1) = true ∧ (spAt sc f.1).1 ≤ (spAt sc e.1).1
theorem shareB_comm {x y : Span} (hx : x.1 < x.2) (hy : y.1 < y.2) : shareB x y = shareB y x := by
  rw [Bool.eq_iff_iff, shareB_iff hx hy, shareB_iff hy hx]
  exact ⟨fun h => ⟨h.2, h.1⟩, fun h => ⟨h.2, h.1⟩⟩
theorem spAt_ok {sc : List Span} (hv : ∀ x ∈ sc, x.1 < x.2) (k : Nat) : (spAt sc k).1 < (spAt sc k).2 := by
  by_cases h : k < sc.length
  · exact hv _ (List.mem_of_getElem? (at_getD h))
  · have : spAt sc k = (0, 1) := by simp [spAt, List.getD_eq_getElem?_getD, List.getElem?_eq_none (Nat.le_of_not_lt h)]
    rw [this]; decide
theorem RInv.step {sc : List Span} (hv : ∀ x ∈ sc, x.1 < x.2) {F : List (Nat × Nat)} (h : RInv sc F) {k : Nat} (hk : k < sc.length) (hn : k ∉ F.map (·.1)) (hb : ∀ e ∈ F, (spAt sc e.1).1 ≤ (spAt sc k).1) : RInv sc (F ++ [(k, freeR sc.length (takenR sc F k))]) := by
  have hlen : F.length < sc.length := by
    have h1 : (k :: F.map (·.1)).Nodup := List.nodup_cons.mpr ⟨hn, h.nd⟩
    have := nodup_len_le (l := k :: F.map (·.1)) (m := List.range sc.length) h1 (fun x hx => by
      rcases List.mem_cons.mp hx with rfl | hx
      · exact List.mem_range.mpr hk
      · obtain ⟨e, he, rfl⟩ := List.mem_map.mp hx; exact List.mem_range.mpr (h.lt e he).1)
    simp at this
    omega
  have htk : (takenR sc F k).length < sc.length := by
    unfold takenR
    rw [List.length_map]
    exact Nat.lt_of_le_of_lt (List.length_filter_le _ _) hlen
  obtain ⟨f1, f2, f3⟩ := freeR_spec htk
  have tkm : ∀ e ∈ F, shareB (spAt sc e.1) (spAt sc k) = true → e.2 ∈ takenR sc F k := fun e he hs => List.mem_map.mpr ⟨e, List.mem_filter.mpr ⟨he, hs⟩, rfl⟩
  refine ⟨fun e he => ?_, ?_, fun e he f hf hne hs => ?_, fun e he q hq => ?_⟩
  · rcases List.mem_append.mp he with z | z
    · exact h.lt e z
    · simp at z; subst z; exact ⟨hk, f1⟩
  · rw [List.map_append, List.nodup_append]
    refine ⟨h.nd, by simp, fun a ha b hb e => ?_⟩
    simp at hb; subst hb; subst e; exact hn ha
  · rcases List.mem_append.mp he with z | z <;> rcases List.mem_append.mp hf with w | w
    · exact h.dif e z f w hne hs
    · simp at w; subst w
      intro q
      have q : e.2 = freeR sc.length (takenR sc F k) := q
      exact f2 (by rw [← q]; exact tkm e z hs)
    · simp at z; subst z
      intro q
      have q : freeR sc.length (takenR sc F k) = f.2 := q
      refine f2 ?_
      rw [q]
      refine tkm f w ?_
      rw [shareB_comm (spAt_ok hv _) (spAt_ok hv _)]; exact hs
    · simp at z w; subst z; subst w; exact absurd rfl hne
  · rcases List.mem_append.mp he with z | z
    · obtain ⟨f, hf, a, b, c⟩ := h.low e z q hq
      exact ⟨f, List.mem_append_left _ hf, a, b, c⟩
    · simp at z; subst z
      obtain ⟨f, hf, e2⟩ := List.mem_map.mp (f3 q hq)
      obtain ⟨hf1, hf2⟩ := List.mem_filter.mp hf
      exact ⟨f, List.mem_append_left _ hf1, e2, hf2, hb f hf1⟩
theorem RInv.nil (sc : List Span) : RInv sc [] := ⟨(fun e h => by cases h), List.nodup_nil, (fun e h => by cases h), (fun e h => by cases h)⟩
/-- as many rooms as spans are at once, at most -/
theorem RInv.low_once {sc : List Span} (hv : ∀ x ∈ sc, x.1 < x.2) {F : List (Nat × Nat)} (h : RInv sc F) {e : Nat × Nat} (he : e ∈ F) : (e.2 : Int) < once sc := by
  have hne : sc ≠ [] := fun z => by have := (h.lt e he).1; rw [z] at this; simp at this
  have hm := (once_spec hne).2 (spAt sc e.1).1
  -- numbers of spans that have the moment
  have sub : ∀ q ∈ List.range (e.2 + 1), q ∈ ((F.filter fun f => hasM (spAt sc e.1).1 (spAt sc f.1)).map (·.2)) := fun q hq => by
    have hq := List.mem_range.mp hq
    by_cases c : q = e.2
    · subst c
      exact List.mem_map.mpr ⟨e, List.mem_filter.mpr ⟨he, decide_eq_true ⟨Int.le_refl _, spAt_ok hv _⟩⟩, rfl⟩
    · obtain ⟨f, hf, e2, hs, hb⟩ := h.low e he q (by omega)
      refine List.mem_map.mpr ⟨f, List.mem_filter.mpr ⟨hf, decide_eq_true ⟨hb, ?_⟩⟩, e2⟩
      exact ((shareB_iff (spAt_ok hv _) (spAt_ok hv _)).mp hs).2
  have h1 := nodup_len_le List.nodup_range sub
  rw [List.length_range, List.length_map] at h1
  -- they are spans of the scene
  have h2 : (F.filter fun f => hasM (spAt sc e.1).1 (spAt sc f.1)).length ≤ cntM sc (spAt sc e.1).1 := by
    have nd : ((F.filter fun f => hasM (spAt sc e.1).1 (spAt sc f.1)).map (·.1)).Nodup := h.nd.sublist (List.Sublist.map _ List.filter_sublist)
    have sb : ∀ k ∈ (F.filter fun f => hasM (spAt sc e.1).1 (spAt sc f.1)).map (·.1), k ∈ (List.range sc.length).filter fun k => hasM (spAt sc e.1).1 (spAt sc k) := fun k hk => by
      obtain ⟨f, hf, rfl⟩ := List.mem_map.mp hk
      obtain ⟨a, b⟩ := List.mem_filter.mp hf
      exact List.mem_filter.mpr ⟨List.mem_range.mpr (h.lt f a).1, b⟩
    have := nodup_len_le nd sb
    rw [List.length_map] at this
    refine Nat.le_trans this ?_
    have er : (List.range sc.length).map (spAt sc) = sc := by
      apply List.ext_getElem?
      intro k
      rw [List.getElem?_map]
      by_cases c : k < sc.length
      · rw [List.getElem?_range c, at_getD c]; rfl
      · rw [List.getElem?_eq_none (by simpa using c), List.getElem?_eq_none (by omega)]; rfl
    have e3 : cntM sc (spAt sc e.1).1 = (((List.range sc.length).map (spAt sc)).filter (hasM (spAt sc e.1).1)).length := by rw [er]; rfl
    rw [e3, List.filter_map, List.length_map]
    exact Nat.le_refl _
  omega
/-! ### the sequence in which they are dealt -/
def begP (sc : List Span) (k : Nat) : P := .tup [.int (spAt sc k).1, .int (k : Nat)]
def ordR (sc : List Span) : List Nat := sortB (begP sc) (List.range sc.length)
theorem begP_inj {sc : List Span} {a b : Nat} (h : begP sc a = begP sc b) : a = b := by
  simp only [begP, P.tup.injEq, List.cons.injEq, P.int.injEq, and_true] at h
  omega
theorem begP_cmp (sc : List Span) (l : List Nat) : Cmp (l.map (begP sc)) := by
  refine ⟨fun a ha => ?_, fun a ha b hb => ?_⟩
  · obtain ⟨c, _, rfl⟩ := List.mem_map.mp ha; simp [begP, P.pl, P.pls]
  · obtain ⟨c, _, rfl⟩ := List.mem_map.mp ha
    obtain ⟨d, _, rfl⟩ := List.mem_map.mp hb
    simp [begP, P.alike, P.alikes]
theorem ordR_mem {sc : List Span} {k : Nat} : k ∈ ordR sc ↔ k < sc.length := by rw [ordR, mem_sortB, List.mem_range]
theorem ordR_asc (sc : List Span) : AscP ((ordR sc).map (begP sc)) := by
  rw [ordR, ← sortP_map]
  exact sortP_asc (begP_cmp sc _) (nodup_map (fun a b e => begP_inj e) List.nodup_range)
theorem ordR_nodup (sc : List Span) : (ordR sc).Nodup := by
  have := (ordR_asc sc).nodup (fun a ha => by obtain ⟨c, _, rfl⟩ := List.mem_map.mp ha; simp [begP, P.pl, P.pls])
  exact List.Pairwise.of_map (begP sc) (fun a b hne e => hne (by rw [e])) this
theorem lt_begP {sc : List Span} {a b : Nat} (h : P.lt (begP sc a) (begP sc b) = true) : (spAt sc a).1 ≤ (spAt sc b).1 := by
  have h : P.lts [.int (spAt sc a).1, .int (a : Nat)] [.int (spAt sc b).1, .int (b : Nat)] = true := h
  unfold P.lts at h
  split at h
  · rename_i e
    have : decide ((spAt sc a).1 = (spAt sc b).1) = true := e
    have := of_decide_eq_true this
    omega
  · have : decide ((spAt sc a).1 < (spAt sc b).1) = true := h
    have := of_decide_eq_true this
    omega
theorem ordR_begins (sc : List Span) : (ordR sc).Pairwise fun a b => (spAt sc a).1 ≤ (spAt sc b).1 := by
  have := ordR_asc sc
  unfold AscP at this
  rw [List.pairwise_map] at this
  exact this.imp lt_begP
theorem take_inv {sc : List Span} (hv : ∀ x ∈ sc, x.1 < x.2) : ∀ i, RInv sc (dealR sc ((ordR sc).take i)) := by
  intro i
  induction i with
  | zero => exact RInv.nil sc
  | succ i ih =>
    cases e : (ordR sc)[i]? with
    | none =>
      rw [List.take_add_one, e]
      simpa using ih
    | some k =>
      rw [List.take_add_one, e]
      show RInv sc (dealR sc ((ordR sc).take i ++ [k]))
      rw [dealR_snoc]
      have hk : k < sc.length := ordR_mem.mp (List.mem_of_getElem? e)
      have hi : i < (ordR sc).length := (List.getElem?_eq_some_iff.mp e).1
      have sp : ordR sc = (ordR sc).take i ++ k :: (ordR sc).drop (i + 1) := by
        have h1 := List.take_append_drop i (ordR sc)
        rw [List.drop_eq_getElem_cons hi] at h1
        have : (ordR sc)[i] = k := by rw [List.getElem?_eq_getElem hi] at e; exact Option.some.inj e
        rw [this] at h1
        exact h1.symm
      refine ih.step hv hk ?_ ?_
      · rw [dealR_keys]
        have := ordR_nodup sc
        rw [sp, List.nodup_append] at this
        exact fun z => this.2.2 k z k (by simp) rfl
      · intro f hf
        have hm : f.1 ∈ (ordR sc).take i := by
          rw [← dealR_keys sc ((ordR sc).take i)]
          exact List.mem_map.mpr ⟨f, hf, rfl⟩
        have := ordR_begins sc
        rw [sp, List.pairwise_append] at this
        exact this.2.2 f.1 hm k (by simp)
end XL
end
section
set_option Elab.async false
set_option linter.all false
set_option autoImplicit false
set_option maxRecDepth 100000
set_option maxHeartbeats 4000000
namespace XL
def kvR (F : List (Nat × Nat)) : List (P × P) := F.map fun e => (.int (e.1 : Nat), .int (e.2 : Nat))
def roomAt (F : List (Nat × Nat)) (k : Nat) : Nat := ((F.find? fun e => decide (e.1 = k)).map (·.2)).getD 0
theorem look_kvR : ∀ {F : List (Nat × Nat)} {k : Nat}, k ∈ F.map (·.1) → lookD (kvR F) (.int (k : Nat)) = some (.int (roomAt F k : Nat))
  | [], k, h => by simp at h
  | e :: F, k, h => by
    by_cases c : e.1 = k
    · subst c; simp [lookD, kvR, roomAt]
    · have h' : k ∈ F.map (·.1) := by
        simp only [List.map_cons, List.mem_cons] at h
        exact h.elim (fun z => absurd z.symm c) id
      have := look_kvR h'
      have c2 : ¬ (P.int (e.1 : Nat) = P.int (k : Nat)) := fun z => by injection z with z; omega
      simp only [lookD, kvR, List.map_cons, List.find?_cons, c2, decide_false, roomAt, c] at this ⊢
      exact this
theorem roomAt_mem : ∀ {F : List (Nat × Nat)} {e : Nat × Nat}, (F.map (·.1)).Nodup → e ∈ F → roomAt F e.1 = e.2
  | [], e, _, h => by cases h
  | f :: F, e, hn, h => by
    simp only [List.map_cons, List.nodup_cons] at hn
    rcases List.mem_cons.mp h with rfl | h
    · simp [roomAt]
    · have : f.1 ≠ e.1 := fun z => hn.1 (z ▸ List.mem_map.mpr ⟨e, h, rfl⟩)
      have ih := roomAt_mem hn.2 h
      simp only [roomAt, List.find?_cons, this, decide_false] at ih ⊢
      exact ih
theorem put_kvR {F : List (Nat × Nat)} {k r : Nat} (h : k ∉ F.map (·.1)) : putD (kvR F) (.int (k : Nat)) (.int (r : Nat)) = kvR (F ++ [(k, r)]) := by
  unfold putD
  rw [if_neg]
  · simp [kvR]
  · simp only [kvR, List.any_map, List.any_eq_true, Function.comp, decide_eq_true_eq, not_exists, not_and]
    intro e he z
    injection z with z
    exact h (List.mem_map.mpr ⟨e, he, by omega⟩)
theorem notIn_ints (r : Nat) (tk : List Nat) : pNotIn (.int (r : Nat)) (.lst (tk.map fun (x : Nat) => P.int (x : Nat))) = some (.p (.bl (!decide (r ∈ tk)))) := by
  have f1 : P.fit 60 (.lst (tk.map fun (x : Nat) => P.int (x : Nat))) = true := by
    show (tk.map fun (x : Nat) => P.int (x : Nat)).all (P.fit 59) = true
    rw [List.all_map]; exact List.all_eq_true.mpr fun _ _ => rfl
  have : pNotIn (.int (r : Nat)) (.lst (tk.map fun (x : Nat) => P.int (x : Nat))) = if P.fit 60 (.int (r : Nat)) && P.fit 60 (.lst (tk.map fun (x : Nat) => P.int (x : Nat))) then some (.p (.bl (!inData (.int (r : Nat)) (tk.map fun (x : Nat) => P.int (x : Nat))))) else none := rfl
  rw [this, f1]
  have e : inData (.int (r : Nat)) (tk.map fun (x : Nat) => P.int (x : Nat)) = decide (r ∈ tk) := by
    rw [Bool.eq_iff_iff]
    simp only [inData, List.any_map, List.any_eq_true, Function.comp, decide_eq_true_eq]
    constructor
    · rintro ⟨x, hx, z⟩
      have z : decide (((x : Nat) : Int) = ((r : Nat) : Int)) = true := z
      have := of_decide_eq_true z
      have : x = r := by omega
      subst this; exact hx
    · intro h; exact ⟨r, h, decide_eq_true rfl⟩
  rw [e]; rfl
def roomsL (sc : List Span) : List Nat := (List.range sc.length).map (roomAt (dealR sc (ordR sc)))
def roomsP (sc : List Span) : P := .tup ((roomsL sc).map fun (r : Nat) => P.int (r : Nat))
theorem ordR_len (sc : List Span) : (ordR sc).length = sc.length := by rw [ordR, sortB_len, List.length_range]
theorem numbered_sc (sc : List Span) : numbered 0 (sc.map pr) = (List.range sc.length).map fun i => P.tup [.int (i : Nat), pr (spAt sc i)] := by
  rw [numbered_eq, List.length_map]
  refine List.map_congr_left fun i hi => ?_
  have hi := List.mem_range.mp hi
  simp only [Nat.zero_add]
  congr 2
  rw [List.getD_eq_getElem?_getD, List.getElem?_map, at_getD hi]; rfl
theorem runs_rooms {sc : List Span} (hv : Valid sc) : RunsF f_rooms [.p (scP sc)] (.p (roomsP sc)) [] := by
  have h1 := hv.one
  have h5 := hv.five
  have hlt : ∀ x ∈ sc, x.1 < x.2 := fun x hx => (hv.ok x hx).mid
  refine runs_mk rfl rfl ?_
  show WPS b_rooms [some (.p (scP sc)), none, none, none, none, none, none, none] _
  unfold b_rooms
  have rc := runs_check_scene hv
  have cl := len_sc sc
  bv_omega
  refine wps_for ?_
  bv_omega
  refine wpe_lc_all (fun i => P.tup [.int (i : Nat), pr (spAt sc i)]) (List.range sc.length) (begP sc) rfl ?_
  unfold scP
  bv_omega
  rw [numbered_sc]
  refine ⟨rfl, rfl, by rw [List.length_range]; omega, fun i hi => ?_, ?_⟩
  · have ix : pIx (pr (spAt sc i)) (.int 0) = some (.p (.int (spAt sc i).1)) := rfl
    bv_omega
    exact ⟨rfl, rfl⟩
  have srt : cSorted [.lst ((List.range sc.length).map (begP sc))] = some (.frl ((ordR sc).map (begP sc))) := by
    rw [sorted_of (begP_cmp sc _) (fun a ha => by obtain ⟨c, _, rfl⟩ := List.mem_map.mp ha; rfl) (fun a ha => by obtain ⟨c, _, rfl⟩ := List.mem_map.mp ha; rfl) (by rw [List.length_map, List.length_range]; omega), sortP_map]
    rfl
  bv_omega
  refine for_typ (begP sc) (ordR sc) (fun i => [some (.p (scP sc)), some (.d .own false false (kvR (dealR sc ((ordR sc).take i)))), none, none, none, none, none, none]) (by show Forget [_, _, _, _, _, _, _, _] _; simp_arith!) (fun _ => trivial) (fun i k hk => ?_) ?_
  · have hkm := ordR_mem.mp (List.mem_of_getElem? hk)
    have inv := take_inv hlt i
    obtain ⟨F, eF⟩ : ∃ F, F = dealR sc ((ordR sc).take i) := ⟨_, rfl⟩
    have hkn : k ∉ F.map (·.1) := by
      rw [eF, dealR_keys]
      intro z
      obtain ⟨j, hj⟩ := List.getElem?_of_mem z
      rw [List.getElem?_take] at hj
      split at hj
      · rename_i hlt
        have := (List.getElem?_inj (List.getElem?_eq_some_iff.mp hj).1 (ordR_nodup sc)).mp (hj.trans hk.symm)
        omega
      · cases hj
    have hFl : F.length < sc.length := by
      have : F.length = ((ordR sc).take i).length := by rw [← dealR_keys sc ((ordR sc).take i), List.length_map, eF]
      rw [this, List.length_take]
      have := (List.getElem?_eq_some_iff.mp hk).1
      rw [ordR_len] at this ⊢
      omega
    have etk : dealR sc ((ordR sc).take (i + 1)) = F ++ [(k, freeR sc.length (takenR sc F k))] := by
      rw [List.take_add_one, hk]
      show dealR sc ((ordR sc).take i ++ [k]) = _
      rw [dealR_snoc, ← eF]
    rw [etk, ← eF]
    rw [← eF] at inv
    have htk : (takenR sc F k).length < sc.length := by
      unfold takenR
      rw [List.length_map]
      exact Nat.lt_of_le_of_lt (List.length_filter_le _ _) hFl
    obtain ⟨fr1, fr2, fr3⟩ := freeR_spec htk
    have hb : (kvR F).length < 1000000 := by rw [kvR, List.length_map]; omega
    have hp := put_kvR (r := freeR sc.length (takenR sc F k)) hkn
    have yk : pIx (scP sc) (.int (k : Nat)) = some (.p (pr (spAt sc k))) := ix_sc hkm
    unfold begP
    bv_omega
    refine wpe_lock rfl ?_
    show WPE _ [some (.p (scP sc)), some (.d .lck true false (kvR F)), some (.p (.int (spAt sc k).1)), some (.p (.int (k : Nat))), none, none, none, none] _
    refine wpe_lc_t (fun e : Nat × Nat => P.int (e.1 : Nat)) F (fun e => shareB (spAt sc e.1) (spAt sc k)) (fun e => P.int (e.2 : Nat)) rfl ?_
    have ek : (kvR F).map (·.1) = F.map fun e => P.int (e.1 : Nat) := by rw [kvR, List.map_map]; rfl
    bv_omega
    refine ⟨ek, rfl, by omega, fun e he => ?_, ?_⟩
    · have ye : pIx (scP sc) (.int (e.1 : Nat)) = some (.p (pr (spAt sc e.1))) := ix_sc (inv.lt e he).1
      have rs := runs_share (spAt sc e.1) (spAt sc k)
      have lk : lookD (kvR F) (.int (e.1 : Nat)) = some (.int (e.2 : Nat)) := by
        rw [look_kvR (List.mem_map.mpr ⟨e, he, rfl⟩), roomAt_mem inv.nd he]
      bv_omega
      refine ⟨rfl, rfl, fun _ => ?_⟩
      bv_omega
      exact ⟨rfl, rfl⟩
    have et : ((F.filter fun e => shareB (spAt sc e.1) (spAt sc k)).map fun e => P.int (e.2 : Nat)) = (takenR sc F k).map fun (r : Nat) => P.int (r : Nat) := by rw [takenR, List.map_map]; rfl
    rw [et]
    bv_omega
    refine ⟨rfl, ?_⟩
    show Nat.blt 4 (List.length [some (.p (scP sc)), some (.d .own false false (kvR F)), some (.p (.int (spAt sc k).1)), some (.p (.int (k : Nat))), none, none, none, none]) = true ∧ SetU 4 [some (.p (scP sc)), some (.d .own false false (kvR F)), some (.p (.int (spAt sc k).1)), some (.p (.int (k : Nat))), none, none, none, none] _ _
    bv_omega
    refine wpe_lc_t (fun (r : Nat) => P.int (r : Nat)) (List.range sc.length) (fun r => !decide (r ∈ takenR sc F k)) (fun (r : Nat) => P.int (r : Nat)) rfl ?_
    bv_omega
    refine rng1_end (n := sc.length) rfl (by omega) ?_
    refine ⟨rfl, rfl, by rw [List.length_range]; omega, fun r hr => ?_, ?_⟩
    · have ni := notIn_ints r (takenR sc F k)
      bv_omega
      refine ⟨rfl, rfl, fun _ => ?_⟩
      bv_omega
      exact ⟨rfl, rfl⟩
    have ix : pIx (.lst (((List.range sc.length).filter fun r => !decide (r ∈ takenR sc F k)).map fun (r : Nat) => P.int (r : Nat))) (.int 0) = some (.p (.int (freeR sc.length (takenR sc F k) : Nat))) := by
      have hm : freeR sc.length (takenR sc F k) ∈ (List.range sc.length).filter fun r => !decide (r ∈ takenR sc F k) := List.mem_filter.mpr ⟨List.mem_range.mpr fr1, by simpa using fr2⟩
      unfold freeR
      cases e : (List.range sc.length).filter fun r => !decide (r ∈ takenR sc F k) with
      | nil => rw [e] at hm; cases hm
      | cons a b => rfl
    bv_omega
    rw [hp]
    exact turn_eq (by simp_arith!) trivial
  · rw [List.take_of_length_le (Nat.le_refl _)]
    bv_omega
    refine wpe_lc_all (fun (r : Nat) => P.int (r : Nat)) (List.range sc.length) (fun k => P.int (roomAt (dealR sc (ordR sc)) k : Nat)) rfl ?_
    bv_omega
    refine rng1_end (n := sc.length) rfl (by omega) ?_
    refine ⟨rfl, rfl, by rw [List.length_range]; omega, fun k hk => ?_, ?_⟩
    · have lk : lookD (kvR (dealR sc (ordR sc))) (.int (k : Nat)) = some (.int (roomAt (dealR sc (ordR sc)) k : Nat)) := look_kvR (by rw [dealR_keys]; exact ordR_mem.mpr (List.mem_range.mp hk))
      bv_omega
      exact ⟨rfl, rfl⟩
    bv_omega
    refine ⟨?_, trivial⟩
    simp [resR, roomsP, roomsL, Function.comp]
end XL
end
section
set_option Elab.async false
set_option linter.all false
set_option autoImplicit false
set_option maxRecDepth 100000
set_option maxHeartbeats 4000000
namespace XL
/-! ### the numbers at once of forms -/
theorem runs_form_of {sc : List Span} (hv : Valid sc) : RunsF f_form_of [.p (scP sc)] (.p (scP (form sc))) [] := runs_pure (ps := [scP sc]) (form_of_ok hv)
theorem once_form (sc : List Span) : once (form sc) = once sc := by
  have key : ∀ x ∈ sc, cntM (form sc) ((rk x.1 (endsL sc) : Nat) : Int) = cntM sc x.1 := fun x hx => by
    unfold cntM form
    rw [List.filter_map, List.length_map]
    congr 1
    refine List.filter_congr fun y hy => ?_
    obtain ⟨x1, x2⟩ := mem_ends hx
    obtain ⟨y1, y2⟩ := mem_ends hy
    have a := rk_lt_iff (y := y.1) x1
    have b := rk_lt_iff (y := y.2) x1
    simp only [hasM, Function.comp, decide_eq_decide]
    omega
  unfold once
  have e : (form sc).map (fun x => (cntM (form sc) x.1 : Int)) = sc.map fun x => (cntM sc x.1 : Int) := by
    have : (form sc).map (fun x => (cntM (form sc) x.1 : Int)) = sc.map fun x => (cntM (form sc) ((rk x.1 (endsL sc) : Nat) : Int) : Int) := by
      generalize hF : form sc = F
      rw [← hF]
      show (sc.map _).map _ = _
      rw [List.map_map]
      rfl
    rw [this]
    exact List.map_congr_left fun x hx => by rw [key x hx]
  rw [e]
theorem once_more {sc : List Span} (hne : sc ≠ []) (hv : ∀ x ∈ sc, x.1 < x.2) {l : Int} (hl : ∀ x ∈ sc, x.2 ≤ l) : once (sc ++ [(l, l + 2)]) = once sc := by
  have hc : ∀ m, cntM (sc ++ [(l, l + 2)]) m = cntM sc m + (if l ≤ m ∧ m < l + 2 then 1 else 0) := fun m => by
    unfold cntM
    rw [List.filter_append, List.length_append]
    congr 1
    by_cases c : l ≤ m ∧ m < l + 2
    · simp [hasM, c]
    · rw [if_neg c]; simp only [List.filter_cons, hasM, decide_eq_false c]; rfl
  have h0 : ∀ m, l ≤ m → cntM sc m = 0 := fun m hm => by
    unfold cntM
    rw [List.length_eq_zero_iff, List.filter_eq_nil_iff]
    intro x hx z
    have := of_decide_eq_true z
    have := hl x hx
    omega
  obtain ⟨⟨x, hx, e1⟩, h1⟩ := once_spec (sc := sc ++ [(l, l + 2)]) (by simp)
  obtain ⟨⟨y, hy, e2⟩, h2⟩ := once_spec hne
  have hp := once_pos hne hv
  have a := h1 y.1
  rw [hc] at a e1
  have b := h2 x.1
  refine Int.le_antisymm ?_ ?_
  · by_cases c : l ≤ x.1 ∧ x.1 < l + 2
    · rw [if_pos c, h0 x.1 c.1] at e1; omega
    · rw [if_neg c] at e1; omega
  · omega
def bestM (sc : List Span) (b : Int) (ms : List Int) : Int := ms.foldl (fun b m => if (cntM sc m : Int) > b then (cntM sc m : Int) else b) b
theorem bestM_spec (sc : List Span) : ∀ (ms : List Int) (b : Int), b ≤ bestM sc b ms ∧ (∀ m ∈ ms, (cntM sc m : Int) ≤ bestM sc b ms) ∧ (bestM sc b ms = b ∨ ∃ m ∈ ms, bestM sc b ms = (cntM sc m : Int))
  | [], b => ⟨Int.le_refl _, fun _ h => (by cases h), .inl rfl⟩
  | m :: ms, b => by
    by_cases c : (cntM sc m : Int) > b
    · have e : bestM sc b (m :: ms) = bestM sc (cntM sc m : Int) ms := by
        show bestM sc (if (cntM sc m : Int) > b then (cntM sc m : Int) else b) ms = _
        rw [if_pos c]
      obtain ⟨h1, h2, h3⟩ := bestM_spec sc ms (cntM sc m : Int)
      rw [e]
      refine ⟨by omega, fun k hk => (List.mem_cons.mp hk).elim (fun z => by subst z; exact h1) (h2 k), ?_⟩
      rcases h3 with h3 | ⟨k, hk, h3⟩
      · exact .inr ⟨m, by simp, h3⟩
      · exact .inr ⟨k, List.mem_cons_of_mem _ hk, h3⟩
    · have e : bestM sc b (m :: ms) = bestM sc b ms := by
        show bestM sc (if (cntM sc m : Int) > b then (cntM sc m : Int) else b) ms = _
        rw [if_neg c]
      obtain ⟨h1, h2, h3⟩ := bestM_spec sc ms b
      rw [e]
      refine ⟨h1, fun k hk => (List.mem_cons.mp hk).elim (fun z => by subst z; omega) (h2 k), ?_⟩
      rcases h3 with h3 | ⟨k, hk, h3⟩
      · exact .inl h3
      · exact .inr ⟨k, List.mem_cons_of_mem _ hk, h3⟩
theorem best_once {sc : List Span} (hne : sc ≠ []) {ms : List Int} (hb : ∀ x ∈ sc, x.1 ∈ ms) : bestM sc 0 ms = once sc := by
  obtain ⟨h1, h2, h3⟩ := bestM_spec sc ms 0
  obtain ⟨⟨x, hx, e⟩, h4⟩ := once_spec hne
  refine Int.le_antisymm ?_ ?_
  · rcases h3 with h3 | ⟨m, _, h3⟩
    · rw [h3, e]; omega
    · rw [h3]; exact h4 m
  · rw [e]; exact h2 x.1 (hb x hx)
theorem share_hasM {y : Span} (hy : y.1 < y.2) (m : Int) : shareB y (m, m + 1) = hasM m y := by
  rw [Bool.eq_iff_iff, shareB_iff hy (show m < m + 1 by omega)]
  simp only [hasM, decide_eq_true_eq]
  omega
theorem runs_naive_at_once {sc : List Span} (hv : Valid sc) : RunsF f_naive_at_once [.p (scP sc)] (.p (.int (once sc))) [] := by
  have h1 := hv.one
  have h5 := hv.five
  have hlt : ∀ x ∈ sc, x.1 < x.2 := fun x hx => (hv.ok x hx).mid
  have hne : sc ≠ [] := fun z => by rw [z] at h1; simp at h1
  refine runs_mk rfl rfl ?_
  show WPS b_naive_at_once [some (.p (scP sc)), none, none, none, none, none] _
  unfold b_naive_at_once
  have rc := runs_check_scene hv
  obtain ⟨ms, ems⟩ : ∃ ms, ms = endsOf (sc.map (·.1)) := ⟨_, rfl⟩
  have hms : ∀ x ∈ sc, x.1 ∈ ms := fun x hx => by rw [ems]; exact ends_mem.mpr (List.mem_map.mpr ⟨x, hx, rfl⟩)
  have ss := sortedSet_int (l := sc.map (·.1)) (by rw [List.length_map]; omega)
  rw [← ems] at ss
  bv_omega
  refine wps_for ?_
  bv_omega
  refine wpe_lc_all pr sc (fun x => P.int x.1) rfl ?_
  unfold scP
  bv_omega
  refine ⟨rfl, rfl, by omega, fun x hx => ?_, ?_⟩
  · unfold pr
    bv_omega
    exact ⟨rfl, rfl⟩
  have em : sc.map (fun x => P.int x.1) = (sc.map (·.1)).map P.int := by rw [List.map_map]; rfl
  rw [em]
  bv_omega
  refine for_typ P.int ms (fun i => [some (.p (scP sc)), some (.p (.int (bestM sc 0 (ms.take i)))), none, none, none, none]) (by show Forget [_, _, _, _, _, _] _; simp_arith!) (fun _ => trivial) (fun i m hm => ?_) ?_
  · have ea : pAdd (.int m) (.int 1) = some (.p (.int (m + 1))) := rfl
    have eb : bestM sc 0 (ms.take (i + 1)) = if (cntM sc m : Int) > bestM sc 0 (ms.take i) then (cntM sc m : Int) else bestM sc 0 (ms.take i) := by
      rw [List.take_add_one, hm]
      simp [bestM, List.foldl_append]
    rw [eb]
    have cm : cMax [.int (bestM sc 0 (ms.take i)), .int (cntM sc m : Nat)] = some (.p (.int (if (cntM sc m : Int) > bestM sc 0 (ms.take i) then (cntM sc m : Int) else bestM sc 0 (ms.take i)))) := rfl
    unfold scP
    bv_omega
    refine wpe_lc_t pr sc (fun y => hasM m y) (fun _ => P.int 1) rfl ?_
    bv_omega
    refine ⟨rfl, rfl, by omega, fun y hy => ?_, ?_⟩
    · have rs : RunsF f_share_moment [.p (pr y), .p (.tup [.int m, .int (m + 1)])] (.p (.bl (hasM m y))) [] := by
        have := runs_share y (m, m + 1)
        rw [share_hasM (hlt y hy)] at this; exact this
      bv_omega
      refine ⟨rfl, rfl, fun _ => ?_⟩
      bv_omega
      exact ⟨rfl, rfl⟩
    have cl : cLen [.lst ((sc.filter fun y => hasM m y).map fun _ => P.int 1)] = some (.p (.int (cntM sc m : Nat))) := by
      have : cLen [.lst ((sc.filter fun y => hasM m y).map fun _ => P.int 1)] = some (.p (.int ((((sc.filter fun y => hasM m y).map fun _ => P.int 1).length : Nat)))) := rfl
      rw [this, filt_len_map]; rfl
    bv_omega
    exact turn_eq (by simp_arith!) trivial
  · rw [List.take_of_length_le (Nat.le_refl _), best_once hne hms]
    bv_omega
    exact ⟨rfl, trivial⟩
/-! ### pictures -/
def shareP (sc : List Span) (x : Nat × Nat) : Bool := shareB (spAt sc x.1) (spAt sc x.2)
theorem runs_picture_of {sc : List Span} (hv : Valid sc) : RunsF f_picture_of [.p (scP sc)] (.p (.tup [.int (sc.length : Nat), .tup (((pairsN sc.length).filter (shareP sc)).map pairP)])) [] := by
  have h1 := hv.one
  have h5 := hv.five
  refine runs_mk rfl rfl ?_
  show WPS b_picture_of [some (.p (scP sc)), none, none, none] _
  unfold b_picture_of
  have rc := runs_check_scene hv
  have cl := len_sc sc
  have rp := runs_pairs_of sc.length (by omega)
  have hpl : (pairsN sc.length).length ≤ 1000000 := by
    have : ∀ n, n ≤ 5 → (pairsN n).length ≤ 1000000 := by decide
    exact this _ h5
  bv_omega
  refine wpe_lc_t pairP (pairsN sc.length) (shareP sc) pairP rfl ?_
  bv_omega
  refine ⟨rfl, rfl, hpl, fun x hx => ?_, ?_⟩
  · obtain ⟨a, b⟩ := mem_pairsN.mp hx
    have y1 : pIx (scP sc) (.int (x.1 : Nat)) = some (.p (pr (spAt sc x.1))) := ix_sc (by omega)
    have y2 : pIx (scP sc) (.int (x.2 : Nat)) = some (.p (pr (spAt sc x.2))) := ix_sc b
    have rs := runs_share (spAt sc x.1) (spAt sc x.2)
    unfold pairP
    bv_omega
    refine ⟨rfl, rfl, fun _ => ?_⟩
    bv_omega
    exact ⟨rfl, rfl⟩
  bv_omega
  exact ⟨rfl, trivial⟩
theorem in_pairs (x : Nat × Nat) (L : List (Nat × Nat)) : pIn (.tup [.int (x.1 : Nat), .int (x.2 : Nat)]) (.tup (L.map pairP)) = some (.p (.bl (decide (x ∈ L)))) := by
  have f1 : P.fit 60 (.tup (L.map pairP)) = true := by
    show (L.map pairP).all (P.fit 59) = true
    rw [List.all_map]; exact List.all_eq_true.mpr fun _ _ => rfl
  have : pIn (pairP x) (.tup (L.map pairP)) = if P.fit 60 (pairP x) && P.fit 60 (.tup (L.map pairP)) then some (.p (.bl (inData (pairP x) (L.map pairP)))) else none := rfl
  show pIn (pairP x) (.tup (L.map pairP)) = _
  rw [this, f1]
  have e : inData (pairP x) (L.map pairP) = decide (x ∈ L) := by
    rw [Bool.eq_iff_iff]
    simp only [inData, List.any_map, List.any_eq_true, Function.comp, decide_eq_true_eq]
    constructor
    · rintro ⟨y, hy, z⟩
      rw [pyeq_iff (by simp [pairP, P.pl, P.pls]) (by simp [pairP, P.pl, P.pls]), decide_eq_true_eq] at z
      rw [← pairP_inj.mp z]; exact hy
    · intro h; exact ⟨x, h, pyeq_refl _⟩
  rw [e]; rfl
/-! ### as many rooms as spans at once -/
theorem range_sp (sc : List Span) : (List.range sc.length).map (spAt sc) = sc := by
  apply List.ext_getElem?
  intro k
  rw [List.getElem?_map]
  by_cases c : k < sc.length
  · rw [List.getElem?_range c, at_getD c]; rfl
  · rw [List.getElem?_eq_none (by simpa using c), List.getElem?_eq_none (by omega)]; rfl
theorem deal_all {sc : List Span} (hlt : ∀ x ∈ sc, x.1 < x.2) : RInv sc (dealR sc (ordR sc)) := by
  have := take_inv hlt (ordR sc).length
  rwa [List.take_length] at this
theorem room_of {sc : List Span} (hlt : ∀ x ∈ sc, x.1 < x.2) {k : Nat} (hk : k < sc.length) : (k, roomAt (dealR sc (ordR sc)) k) ∈ dealR sc (ordR sc) := by
  have inv := deal_all hlt
  have hkm : k ∈ (dealR sc (ordR sc)).map (·.1) := by rw [dealR_keys]; exact ordR_mem.mpr hk
  obtain ⟨e, he, rfl⟩ := List.mem_map.mp hkm
  rw [roomAt_mem inv.nd he]
  exact he
theorem room_ne {sc : List Span} (hlt : ∀ x ∈ sc, x.1 < x.2) {i j : Nat} (hi : i < sc.length) (hj : j < sc.length) (hn : i ≠ j) (hs : shareB (spAt sc i) (spAt sc j) = true) : roomAt (dealR sc (ordR sc)) i ≠ roomAt (dealR sc (ordR sc)) j :=
  (deal_all hlt).dif _ (room_of hlt hi) _ (room_of hlt hj) hn hs
theorem rooms_lt {sc : List Span} (hlt : ∀ x ∈ sc, x.1 < x.2) {r : Nat} (hr : r ∈ roomsL sc) : (r : Int) < once sc := by
  obtain ⟨k, hk, rfl⟩ := List.mem_map.mp hr
  have := (deal_all hlt).low_once hlt (room_of hlt (List.mem_range.mp hk))
  simp only at this
  omega
theorem rooms_all {sc : List Span} (hne : sc ≠ []) (hlt : ∀ x ∈ sc, x.1 < x.2) {q : Nat} (hq : (q : Int) < once sc) : q ∈ roomsL sc := by
  obtain ⟨⟨x, hx, e⟩, _⟩ := once_spec hne
  obtain ⟨K, eK⟩ : ∃ K, K = (List.range sc.length).filter fun k => hasM x.1 (spAt sc k) := ⟨_, rfl⟩
  have hKl : (K.length : Int) = once sc := by
    rw [e, eK]
    have e3 : cntM sc x.1 = (((List.range sc.length).map (spAt sc)).filter (hasM x.1)).length := by rw [range_sp]; rfl
    rw [e3, List.filter_map, List.length_map]; rfl
  have hK : ∀ k ∈ K, k < sc.length ∧ hasM x.1 (spAt sc k) = true := fun k hk => by
    rw [eK] at hk
    obtain ⟨a, b⟩ := List.mem_filter.mp hk
    exact ⟨List.mem_range.mp a, b⟩
  have hKn : K.Nodup := by rw [eK]; exact List.nodup_range.filter _
  have nd : (K.map (roomAt (dealR sc (ordR sc)))).Nodup := by
    rw [List.nodup_iff_pairwise_ne, List.pairwise_map]
    refine List.Pairwise.imp_of_mem (fun {a b} ha hb hab => ?_) (List.nodup_iff_pairwise_ne.mp hKn)
    obtain ⟨a1, a2⟩ := hK a ha
    obtain ⟨b1, b2⟩ := hK b hb
    refine room_ne hlt a1 b1 hab ((shareB_iff (spAt_ok hlt _) (spAt_ok hlt _)).mpr ?_)
    have a2 := of_decide_eq_true a2
    have b2 := of_decide_eq_true b2
    omega
  by_cases c : q ∈ roomsL sc
  · exact c
  · exfalso
    have sub : ∀ r ∈ K.map (roomAt (dealR sc (ordR sc))), r ∈ (List.range (once sc).toNat).erase q := fun r hr => by
      obtain ⟨k, hk, rfl⟩ := List.mem_map.mp hr
      have hm : roomAt (dealR sc (ordR sc)) k ∈ roomsL sc := List.mem_map.mpr ⟨k, List.mem_range.mpr (hK k hk).1, rfl⟩
      have := rooms_lt hlt hm
      exact (List.mem_erase_of_ne (fun z : roomAt (dealR sc (ordR sc)) k = q => c (z ▸ hm))).mpr (List.mem_range.mpr (by omega))
    have := nodup_len_le nd sub
    rw [List.length_map, List.length_erase_of_mem (List.mem_range.mpr (by omega)), List.length_range] at this
    omega
theorem least_free {n : Nat} {tk : List Nat} (h : tk.length < n) (h5 : n ≤ 5) : cMin [.lst (((List.range 5).filter fun r => !decide (r ∈ tk)).map fun (r : Nat) => P.int (r : Nat))] = some (.p (.int (freeR n tk : Nat))) := by
  obtain ⟨f1, f2, f3⟩ := freeR_spec h
  have hm : freeR n tk ∈ (List.range 5).filter fun r => !decide (r ∈ tk) := List.mem_filter.mpr ⟨List.mem_range.mpr (by omega), by simpa using f2⟩
  have em : ((List.range 5).filter fun r => !decide (r ∈ tk)).map (fun (r : Nat) => P.int (r : Nat)) = (((List.range 5).filter fun r => !decide (r ∈ tk)).map fun (r : Nat) => (r : Int)).map P.int := by rw [List.map_map]; rfl
  have hne : (((List.range 5).filter fun r => !decide (r ∈ tk)).map fun (r : Nat) => (r : Int)) ≠ [] := fun z => by
    rw [List.map_eq_nil_iff] at z; rw [z] at hm; cases hm
  rw [em, cMin_ints hne]
  obtain ⟨a, b⟩ := minI_sp hne
  have c := b _ (List.mem_map.mpr ⟨_, hm, rfl⟩)
  obtain ⟨r, hr, er⟩ := List.mem_map.mp a
  rw [← er] at c ⊢
  have hr2 : r ∉ tk := by simpa using (List.mem_filter.mp hr).2
  have : ¬ r < freeR n tk := fun z => hr2 (f3 r z)
  have : r = freeR n tk := by omega
  rw [this]
end XL
end
section
set_option Elab.async false
set_option linter.all false
set_option autoImplicit false
set_option maxRecDepth 100000
set_option maxHeartbeats 4000000
namespace XL
theorem dedupP_in {x : P} : ∀ {l : List P}, x ∈ dedupP l → x ∈ l
  | [], h => by simp [dedupP] at h
  | y :: l, h => by
    unfold dedupP at h
    split at h
    · exact List.mem_cons_of_mem _ (dedupP_in h)
    · rcases List.mem_cons.mp h with rfl | h
      · simp
      · exact List.mem_cons_of_mem _ (dedupP_in h)
theorem dedupP_all {x : P} : ∀ {l : List P}, x ∈ l → x ∈ dedupP l
  | [], h => by cases h
  | y :: l, h => by
    unfold dedupP
    split
    · rename_i hy
      rcases List.mem_cons.mp h with rfl | h
      · exact dedupP_all hy
      · exact dedupP_all h
    · rcases List.mem_cons.mp h with rfl | h
      · simp
      · exact List.mem_cons_of_mem _ (dedupP_all h)
theorem dedupP_nd : ∀ {l : List P}, (dedupP l).Nodup
  | [] => List.nodup_nil
  | y :: l => by
    unfold dedupP
    split
    · exact dedupP_nd
    · rename_i hy
      exact List.nodup_cons.mpr ⟨fun z => hy (dedupP_in z), dedupP_nd⟩
theorem rooms_many {sc : List Span} (hv : Valid sc) : uLenSetPt (roomsP sc) = some (.p (.int (once sc))) ∧ cMaxT [roomsP sc] = some (.p (.int (once sc - 1))) := by
  have hlt : ∀ x ∈ sc, x.1 < x.2 := fun x hx => (hv.ok x hx).mid
  have hne : sc ≠ [] := fun z => by have := hv.one; rw [z] at this; simp at this
  have hp := once_pos hne hlt
  have hn0 : (roomsL sc).map (fun (r : Nat) => (r : Int)) ≠ [] := fun z => by
    have := rooms_all hne hlt (q := 0) (by omega)
    rw [List.map_eq_nil_iff] at z; rw [z] at this; cases this
  constructor
  · have e1 : uLenSetPt (roomsP sc) = some (.p (.int ((dedupP ((roomsL sc).map fun (r : Nat) => P.int (r : Nat))).length : Nat))) := by
      refine if_pos ?_
      unfold setOk
      rw [Bool.and_eq_true, Bool.or_eq_true]
      refine ⟨.inl ?_, ?_⟩
      · rw [List.all_map]; exact List.all_eq_true.mpr fun _ _ => rfl
      · simp only [roomsL, List.length_map, List.length_range, decide_eq_true_eq]
        have := hv.five
        omega
    rw [e1]
    have sub : ∀ p ∈ dedupP ((roomsL sc).map fun (r : Nat) => P.int (r : Nat)), p ∈ (List.range (once sc).toNat).map fun (r : Nat) => P.int (r : Nat) := fun p hp2 => by
      obtain ⟨r, hr, rfl⟩ := List.mem_map.mp (dedupP_in hp2)
      have := rooms_lt hlt hr
      exact List.mem_map.mpr ⟨r, List.mem_range.mpr (by omega), rfl⟩
    have sup : ∀ p ∈ (List.range (once sc).toNat).map (fun (r : Nat) => P.int (r : Nat)), p ∈ dedupP ((roomsL sc).map fun (r : Nat) => P.int (r : Nat)) := fun p hp2 => by
      obtain ⟨r, hr, rfl⟩ := List.mem_map.mp hp2
      have hr := List.mem_range.mp hr
      exact dedupP_all (List.mem_map.mpr ⟨r, rooms_all hne hlt (by omega), rfl⟩)
    have nd : ((List.range (once sc).toNat).map fun (r : Nat) => P.int (r : Nat)).Nodup := nodup_map (fun a b e => by injection e with e; omega) List.nodup_range
    have h1 := nodup_len_le dedupP_nd sub
    have h2 := nodup_len_le nd sup
    rw [List.length_map, List.length_range] at h1 h2
    congr 3
    omega
  · have em : (roomsL sc).map (fun (r : Nat) => P.int (r : Nat)) = ((roomsL sc).map fun (r : Nat) => (r : Int)).map P.int := by rw [List.map_map]; rfl
    have : cMaxT [roomsP sc] = (intsOf ((roomsL sc).map fun (r : Nat) => P.int (r : Nat))).bind fun bs => if bs = [] then none else some (.p (.int (maxI bs))) := rfl
    rw [this, em, intsOf_map, Option.bind_some, if_neg hn0]
    obtain ⟨a, b⟩ := maxI_sp hn0
    obtain ⟨r, hr, er⟩ := List.mem_map.mp a
    have c := rooms_lt hlt hr
    have d := b _ (List.mem_map.mpr ⟨(once sc - 1).toNat, rooms_all hne hlt (by omega), rfl⟩)
    rw [← er] at d ⊢
    congr 3
    omega
theorem takenR_take {sc : List Span} {F : List (Nat × Nat)} {j k : Nat} {e : Nat × Nat} (he : F[j]? = some e) : takenR sc (F.take (j + 1)) k = takenR sc (F.take j) k ++ if shareB (spAt sc e.1) (spAt sc k) = true then [e.2] else [] := by
  unfold takenR
  rw [List.take_add_one, he, List.filter_append, List.map_append]
  congr 1
  show List.map _ (List.filter (fun e => shareB (spAt sc e.1) (spAt sc k)) [e]) = _
  rw [List.filter_cons]
  split <;> rfl
theorem law_is_k50 (ns : List Int) (hl : ns.length ≤ 63) : ∃ S, f_law_k50 [.p (.lst (ns.map P.int))] [] = some (.p (.bl true), S) := by
  refine law_of_runs (runs_mk rfl rfl ?_)
  show WPS b_law_k50 [some (.p (scrP ns)), none, none, none, none, none, none, none, none, none, none, none, none, none, none, none, none, none, none] _
  unfold b_law_k50
  have r0 := runs_town hl
  obtain ⟨v1, T1, d1, hv1, hT1⟩ := runs_draw (twL_new ns) (by omega) 5 (by omega) (by omega)
  obtain ⟨n, hn, h1, h5⟩ : ∃ n : Nat, (1 : Int) + (v1 : Nat) = (n : Nat) ∧ 1 ≤ n ∧ n ≤ 5 := ⟨1 + v1, by simp, by omega, by omega⟩
  have ea : pAdd (.int 1) (.int (v1 : Nat)) = some (.p (.int (n : Nat))) := by simp [hn]
  obtain ⟨d, T2, d2, hd, hT2⟩ := runs_pick hT1 (by omega) [.int 2, .int 4, .int 9] (by simp) (by decide)
  obtain ⟨far, rfl, hfar⟩ : ∃ far : Int, d = .int far ∧ 2 ≤ far ∧ far ≤ 9 := by
    simp only [List.mem_cons, List.not_mem_nil, or_false] at hd
    rcases hd with rfl | rfl | rfl
    · exact ⟨2, rfl, by omega⟩
    · exact ⟨4, rfl, by omega⟩
    · exact ⟨9, rfl, by omega⟩
  obtain ⟨sc, T3, d3, hsl, hs, hT3⟩ := runs_scene n (n : Nat) far rfl hT2 (by omega) (by omega) (by omega) (by omega)
  have hv : Valid sc := ⟨by omega, by omega, fun x hx => by have := hs x hx; exact ⟨by omega, by omega, by omega⟩⟩
  have hlt : ∀ x ∈ sc, x.1 < x.2 := fun x hx => (hs x hx).2.2.1
  have hne : sc ≠ [] := fun z => by rw [z] at hsl; simp at hsl; omega
  have hz2 : sc.map (·.2) ≠ [] := by simpa using hne
  have cm1 := cMax_ints hz2
  obtain ⟨mx1, mx2⟩ := maxI_sp hz2
  obtain ⟨la, ela, hla⟩ : ∃ la : Nat, maxI (sc.map (·.2)) = (la : Nat) ∧ la ≤ 18 := by
    obtain ⟨x, hx, e⟩ := List.mem_map.mp mx1
    have := hs x hx
    exact ⟨(maxI (sc.map (·.2))).toNat, by omega, by omega⟩
  rw [ela] at cm1 mx2
  have hlast : ∀ x ∈ sc, x.2 ≤ (la : Nat) := fun x hx => mx2 _ (List.mem_map.mpr ⟨x, hx, rfl⟩)
  have eo : maxI (((List.range la).map fun (k : Nat) => (k : Int)).map fun m => (cntM sc m : Int)) = once sc := once_by hne fun x hx => by
    have := hs x hx
    have := hlast x hx
    exact List.mem_map.mpr ⟨x.1.toNat, List.mem_range.mpr (by omega), by omega⟩
  have cm2 := cMax_ints (l := ((List.range la).map fun (k : Nat) => (k : Int)).map fun m => (cntM sc m : Int)) (fun z => by
    obtain ⟨x, hx⟩ := List.exists_mem_of_ne_nil _ hne
    have := hs x hx
    have := hlast x hx
    have := congrArg List.length z
    simp at this
    omega)
  rw [eo] at cm2
  have ra := runs_at_once hv
  have rn := runs_naive_at_once hv
  have rfo := runs_form_of hv
  have raf := runs_at_once (form_valid hv)
  rw [once_form] at raf
  have ne1 : pNe (.int (once sc)) (.int (once sc)) = some (.p (.bl false)) := by simp
  have rr := runs_rooms hv
  obtain ⟨rm1, rm2⟩ := rooms_many hv
  have rpi := runs_picture_of hv
  have cl := len_sc sc
  bv_omega
  refine wpe_lc_all pr sc (fun x => P.int x.2) rfl ?_
  unfold scP
  bv_omega
  refine ⟨rfl, rfl, by omega, fun x hx => ?_, ?_⟩
  · have ix : pIx (pr x) (.int 1) = some (.p (.int x.2)) := rfl
    bv_omega
    exact ⟨rfl, rfl⟩
  have em : sc.map (fun x => P.int x.2) = (sc.map (·.2)).map P.int := by rw [List.map_map]; rfl
  rw [em]
  rw [show P.tup (List.map pr sc) = scP sc from rfl]
  bv_omega
  refine wpe_lc_all (fun (k : Nat) => P.int (k : Nat)) (List.range la) (fun (k : Nat) => P.int (cntM sc (k : Nat) : Nat)) rfl ?_
  bv_omega
  refine rng1_end (n := la) rfl (by omega) ?_
  refine ⟨rfl, rfl, by rw [List.length_range]; omega, fun k hk => ?_, ?_⟩
  · unfold scP
    bv_omega
    refine wpe_lc_t pr sc (fun y => hasM (k : Nat) y) (fun _ => P.int 1) rfl ?_
    unfold pr
    bv_omega
    refine ⟨rfl, rfl, by omega, fun y hy => ?_, ?_⟩
    · have q1 : pLe (.int y.1) (.int (k : Nat)) = some (.p (.bl (decide (y.1 ≤ (k : Nat))))) := rfl
      have q2 : pLt (.int (k : Nat)) (.int y.2) = some (.p (.bl (decide (((k : Nat) : Int) < y.2)))) := rfl
      bv_omega
      refine ⟨fun h1 => ?_, fun h1 => ?_⟩
      · bv_omega
        refine ⟨rfl, ?_, fun _ => ?_⟩
        · have := of_decide_eq_true h1
          simp [hasM, this]
        · bv_omega
          exact ⟨rfl, rfl⟩
      · refine ⟨false, rfl, rfl, ?_, fun z => nomatch z⟩
        have := of_decide_eq_false h1
        simp only [hasM]
        exact (decide_eq_false (fun z => this z.1)).symm
    have cl : cLen [.lst ((sc.filter fun y => hasM (k : Nat) y).map fun _ => P.int 1)] = some (.p (.int (cntM sc (k : Nat) : Nat))) := by
      have : cLen [.lst ((sc.filter fun y => hasM (k : Nat) y).map fun _ => P.int 1)] = some (.p (.int ((((sc.filter fun y => hasM (k : Nat) y).map fun _ => P.int 1).length : Nat)))) := rfl
      rw [this, filt_len_map]; rfl
    bv_omega
    exact ⟨rfl, rfl⟩
  have em2 : (List.range la).map (fun (k : Nat) => P.int ((cntM sc (k : Nat) : Nat) : Int)) = (((List.range la).map fun (k : Nat) => (k : Int)).map fun m => (cntM sc m : Int)).map P.int := by rw [List.map_map, List.map_map]; rfl
  rw [em2]
  decreasing_with (rfl)
  generalize (((List.range la).map fun (k : Nat) => (k : Int)).map fun m => (cntM sc m : Int)).map P.int = CN
  refine wps_for ?_
  bv_omega
  refine wpe_lc_all (fun (k : Nat) => P.int (k : Nat)) (List.range sc.length) (begP sc) rfl ?_
  bv_omega
  refine rng1_end (n := sc.length) rfl (by omega) ?_
  refine ⟨rfl, rfl, by rw [List.length_range]; omega, fun i hi => ?_, ?_⟩
  · have ix1 : pIx (scP sc) (.int (i : Nat)) = some (.p (pr (spAt sc i))) := ix_sc (List.mem_range.mp hi)
    have ix : pIx (pr (spAt sc i)) (.int 0) = some (.p (.int (spAt sc i).1)) := rfl
    bv_omega
    exact ⟨rfl, rfl⟩
  have srt : cSorted [.lst ((List.range sc.length).map (begP sc))] = some (.frl ((ordR sc).map (begP sc))) := by
    rw [sorted_of (begP_cmp sc _) (fun a ha => by obtain ⟨c, _, rfl⟩ := List.mem_map.mp ha; rfl) (fun a ha => by obtain ⟨c, _, rfl⟩ := List.mem_map.mp ha; rfl) (by rw [List.length_map, List.length_range]; omega), sortP_map]
    rfl
  bv_omega
  refine for_typ (begP sc) (ordR sc) (fun i => [some (.p (scrP ns)), some (.l .own T3), some (.p (scP sc)), some (.p (.int (la : Nat))), some (.l .own CN), none, some (.p (roomsP sc)), some (.d .own false false (kvR (dealR sc ((ordR sc).take i)))), none, none, none, none, none, none, none, none, none, none, none]) (by show Forget [_, _, _, _, _, _, _, _, _, _, _, _, _, _, _, _, _, _, _] _; simp_arith!) (fun _ => trivial) (fun i k hk => ?_) ?_
  · have hkm := ordR_mem.mp (List.mem_of_getElem? hk)
    have inv := take_inv hlt i
    obtain ⟨F, eF⟩ : ∃ F, F = dealR sc ((ordR sc).take i) := ⟨_, rfl⟩
    have hkn : k ∉ F.map (·.1) := by
      rw [eF, dealR_keys]
      intro z
      obtain ⟨j, hj⟩ := List.getElem?_of_mem z
      rw [List.getElem?_take] at hj
      split at hj
      · rename_i hlt
        have := (List.getElem?_inj (List.getElem?_eq_some_iff.mp hj).1 (ordR_nodup sc)).mp (hj.trans hk.symm)
        omega
      · cases hj
    have hFl : F.length < sc.length := by
      have : F.length = ((ordR sc).take i).length := by rw [← dealR_keys sc ((ordR sc).take i), List.length_map, eF]
      rw [this, List.length_take]
      have := (List.getElem?_eq_some_iff.mp hk).1
      rw [ordR_len] at this ⊢
      omega
    have etk : dealR sc ((ordR sc).take (i + 1)) = F ++ [(k, freeR sc.length (takenR sc F k))] := by
      rw [List.take_add_one, hk]
      show dealR sc ((ordR sc).take i ++ [k]) = _
      rw [dealR_snoc, ← eF]
    rw [etk, ← eF]
    rw [← eF] at inv
    have htk : (takenR sc F k).length < sc.length := by
      unfold takenR
      rw [List.length_map]
      exact Nat.lt_of_le_of_lt (List.length_filter_le _ _) hFl
    have hb : (kvR F).length < 1000000 := by rw [kvR, List.length_map]; omega
    have hp := put_kvR (r := freeR sc.length (takenR sc F k)) hkn
    have yk : pIx (scP sc) (.int (k : Nat)) = some (.p (pr (spAt sc k))) := ix_sc hkm
    have yk0 : pIx (pr (spAt sc k)) (.int 0) = some (.p (.int (spAt sc k).1)) := rfl
    have yk1 : pIx (pr (spAt sc k)) (.int 1) = some (.p (.int (spAt sc k).2)) := rfl
    have lf := least_free htk (by omega)
    have ek : (kvR F).map (·.1) = F.map fun e => P.int (e.1 : Nat) := by rw [kvR, List.map_map]; rfl
    unfold begP
    bv_omega
    refine wps_lock rfl ?_
    refine wps_for ?_
    bv_omega
    rw [ek]
    refine for_typ (fun e : Nat × Nat => P.int (e.1 : Nat)) F (fun j => [some (.p (scrP ns)), some (.l .own T3), some (.p (scP sc)), some (.p (.int (la : Nat))), some (.l .own CN), none, some (.p (roomsP sc)), some (.d .lck true false (kvR F)), some (.p (.int (spAt sc k).1)), some (.p (.int (k : Nat))), some (.l .own ((takenR sc (F.take j) k).map fun (r : Nat) => P.int (r : Nat))), none, none, none, none, none, none, none, none]) (by show Forget [_, _, _, _, _, _, _, _, _, _, _, _, _, _, _, _, _, _, _] _; simp_arith!) (fun _ => rfl) (fun j e he => ?_) ?_
    · have hem := List.mem_of_getElem? he
      have ye : pIx (scP sc) (.int (e.1 : Nat)) = some (.p (pr (spAt sc e.1))) := ix_sc (inv.lt e hem).1
      have ye0 : pIx (pr (spAt sc e.1)) (.int 0) = some (.p (.int (spAt sc e.1).1)) := rfl
      have ye1 : pIx (pr (spAt sc e.1)) (.int 1) = some (.p (.int (spAt sc e.1).2)) := rfl
      have lk : lookD (kvR F) (.int (e.1 : Nat)) = some (.int (e.2 : Nat)) := by
        rw [look_kvR (List.mem_map.mpr ⟨e, hem, rfl⟩), roomAt_mem inv.nd hem]
      have q1 : pLt (.int (spAt sc e.1).1) (.int (spAt sc k).2) = some (.p (.bl (decide ((spAt sc e.1).1 < (spAt sc k).2)))) := rfl
      have q2 : pLt (.int (spAt sc k).1) (.int (spAt sc e.1).2) = some (.p (.bl (decide ((spAt sc k).1 < (spAt sc e.1).2)))) := rfl
      have hlen : ((takenR sc (F.take j) k).map fun (r : Nat) => P.int (r : Nat)).length < 1000000 := by
        rw [List.length_map, takenR, List.length_map]
        have h1 := List.length_filter_le (fun e => shareB (spAt sc e.1) (spAt sc k)) (F.take j)
        rw [List.length_take] at h1
        omega
      have et : (takenR sc (F.take (j + 1)) k) = takenR sc (F.take j) k ++ if shareB (spAt sc e.1) (spAt sc k) = true then [e.2] else [] := takenR_take he
      have si := shareB_iff (spAt_ok hlt e.1) (spAt_ok hlt k)
      by_cases c1 : (spAt sc e.1).1 < (spAt sc k).2
      · by_cases c2 : (spAt sc k).1 < (spAt sc e.1).2
        · rw [et, if_pos (si.mpr ⟨c1, c2⟩), List.map_append]
          rw [decide_eq_true c1] at q1
          rw [decide_eq_true c2] at q2
          decreasing_with (rfl)
          exact turn_eq (by simp_arith!) rfl
        · rw [et, if_neg (fun z => c2 (si.mp z).2), List.append_nil]
          rw [decide_eq_true c1] at q1
          rw [decide_eq_false c2] at q2
          decreasing_with (rfl)
          exact turn_eq (by simp_arith!) rfl
      · rw [et, if_neg (fun z => c1 (si.mp z).1), List.append_nil]
        rw [decide_eq_false c1] at q1
        decreasing_with (rfl)
        exact turn_eq (by simp_arith!) rfl
    rw [List.take_of_length_le (Nat.le_refl _)]
    show LockK 7 .own false (kvR F) _ (.nx [some (.p (scrP ns)), some (.l .own T3), some (.p (scP sc)), some (.p (.int (la : Nat))), some (.l .own CN), none, some (.p (roomsP sc)), some (.d .lck true false (kvR F)), some (.p (.int (spAt sc k).1)), some (.p (.int (k : Nat))), some (.l .own ((takenR sc F k).map fun (r : Nat) => P.int (r : Nat))), none, none, none, none, none, none, none, none])
    refine ⟨rfl, ?_⟩
    show seqK _ _ (.nx [some (.p (scrP ns)), some (.l .own T3), some (.p (scP sc)), some (.p (.int (la : Nat))), some (.l .own CN), none, some (.p (roomsP sc)), some (.d .own false false (kvR F)), some (.p (.int (spAt sc k).1)), some (.p (.int (k : Nat))), some (.l .own ((takenR sc F k).map fun (r : Nat) => P.int (r : Nat))), none, none, none, none, none, none, none, none])
    bv_omega
    refine wpe_lc_t (fun (r : Nat) => P.int (r : Nat)) (List.range 5) (fun r => !decide (r ∈ takenR sc F k)) (fun (r : Nat) => P.int (r : Nat)) rfl ?_
    bv_omega
    refine rng1_end (n := 5) rfl (by omega) ?_
    refine ⟨rfl, rfl, by decide, fun r hr => ?_, ?_⟩
    · have ni := notIn_ints r (takenR sc F k)
      bv_omega
      refine ⟨rfl, rfl, fun _ => ?_⟩
      bv_omega
      exact ⟨rfl, rfl⟩
    bv_omega
    rw [hp]
    exact turn_eq (by simp_arith!) trivial
  rw [List.take_of_length_le (Nat.le_refl _)]
  bv_omega
  refine wpe_lc_all (fun (r : Nat) => P.int (r : Nat)) (List.range sc.length) (fun k => P.int (roomAt (dealR sc (ordR sc)) k : Nat)) rfl ?_
  bv_omega
  refine rng1_end (n := sc.length) rfl (by omega) ?_
  refine ⟨rfl, rfl, by rw [List.length_range]; omega, fun k hk => ?_, ?_⟩
  · have lk : lookD (kvR (dealR sc (ordR sc))) (.int (k : Nat)) = some (.int (roomAt (dealR sc (ordR sc)) k : Nat)) := look_kvR (by rw [dealR_keys]; exact ordR_mem.mpr (List.mem_range.mp hk))
    bv_omega
    exact ⟨rfl, rfl⟩
  have ct : cTuple [.lst ((List.range sc.length).map fun k => P.int (roomAt (dealR sc (ordR sc)) k : Nat))] = some (.p (roomsP sc)) := by
    simp [roomsP, roomsL, Function.comp]
  have fr : P.fit 60 (roomsP sc) = true := by
    show ((roomsL sc).map fun (r : Nat) => P.int (r : Nat)).all (P.fit 59) = true
    rw [List.all_map]; exact List.all_eq_true.mpr fun _ _ => rfl
  have nr := ne_self fr
  have sb : pSub (.int (once sc)) (.int 1) = some (.p (.int (once sc - 1))) := rfl
  have ne2 : pNe (.int (once sc - 1)) (.int (once sc - 1)) = some (.p (.bl false)) := by simp
  have ixp : pIx (.tup [.int (sc.length : Nat), .tup (((pairsN sc.length).filter (shareP sc)).map pairP)]) (.int 1) = some (.p (.tup (((pairsN sc.length).filter (shareP sc)).map pairP))) := rfl
  decreasing_with (rfl)
  have rpp := runs_law_pairs (n := sc.length) (by omega)
  generalize hPP : P.tup (((pairsN sc.length).filter (shareP sc)).map pairP) = PP
  refine wps_for ?_
  bv_omega
  refine for_typ pairP (pairsN sc.length) (fun _ => [some (.p (scrP ns)), some (.l .own T3), some (.p (scP sc)), some (.p (.int (la : Nat))), some (.l .own CN), some (.p PP), some (.p (roomsP sc)), some (.d .own false false (kvR (dealR sc (ordR sc)))), none, none, none, none, none, none, none, none, none, none, none]) (by show Forget [_, _, _, _, _, _, _, _, _, _, _, _, _, _, _, _, _, _, _] _; simp_arith!) (fun _ => trivial) (fun t x hx => ?_) ?_
  · have hxm := List.mem_of_getElem? hx
    obtain ⟨a, b⟩ := mem_pairsN.mp hxm
    have y1 : pIx (scP sc) (.int (x.1 : Nat)) = some (.p (pr (spAt sc x.1))) := ix_sc (by omega)
    have y2 : pIx (scP sc) (.int (x.2 : Nat)) = some (.p (pr (spAt sc x.2))) := ix_sc b
    have y10 : pIx (pr (spAt sc x.1)) (.int 0) = some (.p (.int (spAt sc x.1).1)) := rfl
    have y11 : pIx (pr (spAt sc x.1)) (.int 1) = some (.p (.int (spAt sc x.1).2)) := rfl
    have y20 : pIx (pr (spAt sc x.2)) (.int 0) = some (.p (.int (spAt sc x.2).1)) := rfl
    have y21 : pIx (pr (spAt sc x.2)) (.int 1) = some (.p (.int (spAt sc x.2).2)) := rfl
    have q1 : pLt (.int (spAt sc x.1).1) (.int (spAt sc x.2).2) = some (.p (.bl (decide ((spAt sc x.1).1 < (spAt sc x.2).2)))) := rfl
    have q2 : pLt (.int (spAt sc x.2).1) (.int (spAt sc x.1).2) = some (.p (.bl (decide ((spAt sc x.2).1 < (spAt sc x.1).2)))) := rfl
    have si := shareB_iff (spAt_ok hlt x.1) (spAt_ok hlt x.2)
    have rl : RunsF f_law_letter [.p (pr (spAt sc x.1)), .p (pr (spAt sc x.2))] (.p (.str [lc1 (spAt sc x.1) (spAt sc x.2)])) [] := by
      have := runs_pure (ps := [pr (spAt sc x.1), pr (spAt sc x.2)]) (law_letter_ok _ _ (spAt_ok hlt x.1) (spAt_ok hlt x.2))
      rw [letter_lc1] at this; exact this
    have ni : pNotIn (.str [lc1 (spAt sc x.1) (spAt sc x.2)]) (.str [98, 109, 66, 77]) = some (.p (.bl (shareB (spAt sc x.1) (spAt sc x.2)))) := by
      have e0 : pNotIn (.str [lc1 (spAt sc x.1) (spAt sc x.2)]) (.str [98, 109, 66, 77]) = some (.p (.bl (!decide (lc1 (spAt sc x.1) (spAt sc x.2) ∈ [98, 109, 66, 77])))) := rfl
      rw [e0]
      unfold shareB
      congr 4
      rw [decide_eq_decide]
      simp only [List.mem_cons, List.not_mem_nil, or_false]
      omega
    have ip := in_pairs x ((pairsN sc.length).filter (shareP sc))
    have ep : decide (x ∈ (pairsN sc.length).filter (shareP sc)) = shareB (spAt sc x.1) (spAt sc x.2) := by
      rw [Bool.eq_iff_iff, decide_eq_true_eq, List.mem_filter]
      exact ⟨fun h => h.2, fun h => ⟨hxm, h⟩⟩
    rw [ep, hPP] at ip
    have rix : ∀ k, k < sc.length → pIx (roomsP sc) (.int (k : Nat)) = some (.p (.int (roomAt (dealR sc (ordR sc)) k : Nat))) := fun k hk => ix_tupN (by
      rw [roomsL, List.map_map, List.getElem?_map, List.getElem?_range hk]; rfl)
    have rx1 := rix x.1 (by omega)
    have rx2 := rix x.2 b
    have nt : pNe (.bl true) (.bl true) = some (.p (.bl false)) := rfl
    have nf : pNe (.bl false) (.bl false) = some (.p (.bl false)) := rfl
    by_cases c1 : (spAt sc x.1).1 < (spAt sc x.2).2
    · rw [decide_eq_true c1] at q1
      by_cases c2 : (spAt sc x.2).1 < (spAt sc x.1).2
      · rw [decide_eq_true c2] at q2
        have hsB := si.mpr ⟨c1, c2⟩
        have hrn := room_ne hlt (by omega) b (by omega) hsB
        rw [hsB] at ip ni
        have qe : pEq (.int (roomAt (dealR sc (ordR sc)) x.1 : Nat)) (.int (roomAt (dealR sc (ordR sc)) x.2 : Nat)) = some (.p (.bl false)) := by
          have : decide (((roomAt (dealR sc (ordR sc)) x.1 : Nat) : Int) = ((roomAt (dealR sc (ordR sc)) x.2 : Nat) : Int)) = false := decide_eq_false (fun z => hrn (by omega))
          simp [this]
        unfold pairP
        decreasing_with (rfl)
        exact turn_eq (by simp_arith!) trivial
      · rw [decide_eq_false c2] at q2
        have hsB : shareB (spAt sc x.1) (spAt sc x.2) = false := by rw [← Bool.not_eq_true]; exact fun z => c2 (si.mp z).2
        rw [hsB] at ip ni
        unfold pairP
        decreasing_with (rfl)
        exact turn_eq (by simp_arith!) trivial
    · rw [decide_eq_false c1] at q1
      have hsB : shareB (spAt sc x.1) (spAt sc x.2) = false := by rw [← Bool.not_eq_true]; exact fun z => c1 (si.mp z).1
      rw [hsB] at ip ni
      unfold pairP
      decreasing_with (rfl)
      exact turn_eq (by simp_arith!) trivial
  have q5 : pLt (.int (sc.length : Nat)) (.int 5) = some (.p (.bl (decide (((sc.length : Nat) : Int) < 5)))) := rfl
  by_cases c : ((sc.length : Nat) : Int) < 5
  · rw [decide_eq_true c] at q5
    have a2 : pAdd (.int (la : Nat)) (.int 2) = some (.p (.int ((la : Nat) + 2))) := rfl
    have as : pAdd (scP sc) (.tup [.tup [.int (la : Nat), .int ((la : Nat) + 2)]]) = some (.p (scP (sc ++ [(((la : Nat) : Int), ((la : Nat) : Int) + 2)]))) := by
      have : pAdd (scP sc) (.tup [.tup [.int (la : Nat), .int ((la : Nat) + 2)]]) = some (.p (.tup (sc.map pr ++ [.tup [.int (la : Nat), .int ((la : Nat) + 2)]]))) := if_pos (show _ ≤ 1000000 by simp only [List.length_map, List.length_cons, List.length_nil]; omega)
      rw [this]
      simp [scP, pr]
    have hv2 : Valid (sc ++ [(((la : Nat) : Int), ((la : Nat) : Int) + 2)]) := ⟨by simp, by simp only [List.length_append, List.length_cons, List.length_nil]; omega, fun x hx => by
      rcases List.mem_append.mp hx with h | h
      · exact hv.ok x h
      · simp at h; subst h; exact ⟨by simp only; omega, by simp only; omega, by simp only; omega⟩⟩
    have ra2 := runs_at_once hv2
    rw [once_more hne hlt hlast] at ra2
    have qe : pEq (.int (once sc)) (.int (once sc)) = some (.p (.bl true)) := by simp
    decreasing_with (rfl)
    exact ⟨rfl, trivial⟩
  · rw [decide_eq_false c] at q5
    decreasing_with (rfl)
    exact ⟨rfl, trivial⟩
end XL
end
open PySem PySem.W PyProof.Rows in
set_option maxRecDepth 100000 in
set_option maxHeartbeats 0 in
theorem PySem.Challenge.cw_spansure_k50_whole_rooms_holds : PySem.Challenge.rw_spansure_k50_whole_rooms.Holds := by
  w_on; o_law; k_head; (case hw => w_witness2)
  k_fill
  refine XL.law_walk (l := PySem.Challenge.rw_spansure_k50_whole_rooms) (k := 5) (n := 63) (f := XL.f_law_k50) rfl (by decide) rfl ⟨rfl, by decide, by decide⟩ (fun w h Y => PySem.W.kIn_of Y) (fun P => ?L) ?F (fun ns hl => XL.law_is_k50 ns hl)
  case L => (first | rfl | kernel_rfl | decide +kernel)
  case F =>
    intro w mg fa h KX G hmg
    refine' K50.fin KX hmg rfl ?T ?F0 ?F1 ?F2 ?F3 ?F4 ?F5 ?F6 ?F7 ?F8 ?F9 ?F10 ?F11 ?F12 ?F13 ?F14 ?F15 ?F16 ?F17 ?F18 ?F19
    case T =>
      constructor
      · refine' PySem.W.mg_none_of KX G ?_
        k_is
      · refine' PySem.W.mg_none_of KX G ?_
        k_is
      · refine' PySem.W.mg_none_of KX G ?_
        k_is
      · refine' PySem.W.mg_none_of KX G ?_
        k_is
      · refine' PySem.W.mg_none_of KX G ?_
        k_is
      · refine' PySem.W.mg_none_of KX G ?_
        k_is
      · refine' PySem.W.mg_none_of KX G ?_
        k_is
      · refine' PySem.W.mg_none_of KX G ?_
        k_is
      · refine' PySem.W.mg_none_of KX G ?_
        k_is
      · refine' PySem.W.mg_none_of KX G ?_
        k_is
      · refine' PySem.W.mg_none_of KX G ?_
        k_is
      · refine' PySem.W.mg_none_of KX G ?_
        k_is
    case F0 =>
      refine' XL.fun_at KX G ?a ?l ?c ?k (fun us hl => match us, hl with | [_], _ => rfl)
      (case a => k_is)
      (case l => k_is)
      (case c => k_is)
      (case k => k_is)
    case F1 =>
      refine' XL.fun_at KX G ?a ?l ?c ?k (fun us hl => match us, hl with | [_, _, _], _ => rfl)
      (case a => k_is)
      (case l => k_is)
      (case c => k_is)
      (case k => k_is)
    case F2 =>
      refine' XL.fun_at KX G ?a ?l ?c ?k (fun us hl => match us, hl with | [_, _, _, _], _ => rfl)
      (case a => k_is)
      (case l => k_is)
      (case c => k_is)
      (case k => k_is)
    case F3 =>
      refine' XL.fun_at KX G ?a ?l ?c ?k (fun us hl => match us, hl with | [_], _ => rfl)
      (case a => k_is)
      (case l => k_is)
      (case c => k_is)
      (case k => k_is)
    case F4 =>
      refine' XL.fun_at KX G ?a ?l ?c ?k (fun us hl => match us, hl with | [_, _, _], _ => rfl)
      (case a => k_is)
      (case l => k_is)
      (case c => k_is)
      (case k => k_is)
    case F5 =>
      refine' XL.fun_at KX G ?a ?l ?c ?k (fun us hl => match us, hl with | [_, _, _], _ => rfl)
      (case a => k_is)
      (case l => k_is)
      (case c => k_is)
      (case k => k_is)
    case F6 =>
      refine' XL.fun_at KX G ?a ?l ?c ?k (fun us hl => match us, hl with | [_], _ => rfl)
      (case a => k_is)
      (case l => k_is)
      (case c => k_is)
      (case k => k_is)
    case F7 =>
      refine' XL.fun_at KX G ?a ?l ?c ?k (fun us hl => match us, hl with | [_], _ => rfl)
      (case a => k_is)
      (case l => k_is)
      (case c => k_is)
      (case k => k_is)
    case F8 =>
      refine' XL.fun_at KX G ?a ?l ?c ?k (fun us hl => match us, hl with | [_, _], _ => rfl)
      (case a => k_is)
      (case l => k_is)
      (case c => k_is)
      (case k => k_is)
    case F9 =>
      refine' XL.fun_at KX G ?a ?l ?c ?k (fun us hl => match us, hl with | [_, _], _ => rfl)
      (case a => k_is)
      (case l => k_is)
      (case c => k_is)
      (case k => k_is)
    case F10 =>
      refine' XL.fun_at KX G ?a ?l ?c ?k (fun us hl => match us, hl with | [_], _ => rfl)
      (case a => k_is)
      (case l => k_is)
      (case c => k_is)
      (case k => k_is)
    case F11 =>
      refine' XL.fun_at KX G ?a ?l ?c ?k (fun us hl => match us, hl with | [_], _ => rfl)
      (case a => k_is)
      (case l => k_is)
      (case c => k_is)
      (case k => k_is)
    case F12 =>
      refine' XL.fun_at KX G ?a ?l ?c ?k (fun us hl => match us, hl with | [_], _ => rfl)
      (case a => k_is)
      (case l => k_is)
      (case c => k_is)
      (case k => k_is)
    case F13 =>
      refine' XL.fun_at KX G ?a ?l ?c ?k (fun us hl => match us, hl with | [_], _ => rfl)
      (case a => k_is)
      (case l => k_is)
      (case c => k_is)
      (case k => k_is)
    case F14 =>
      refine' XL.fun_at KX G ?a ?l ?c ?k (fun us hl => match us, hl with | [_], _ => rfl)
      (case a => k_is)
      (case l => k_is)
      (case c => k_is)
      (case k => k_is)
    case F15 =>
      refine' XL.fun_at KX G ?a ?l ?c ?k (fun us hl => match us, hl with | [_], _ => rfl)
      (case a => k_is)
      (case l => k_is)
      (case c => k_is)
      (case k => k_is)
    case F16 =>
      refine' XL.fun_at KX G ?a ?l ?c ?k (fun us hl => match us, hl with | [_], _ => rfl)
      (case a => k_is)
      (case l => k_is)
      (case c => k_is)
      (case k => k_is)
    case F17 =>
      refine' XL.fun_at KX G ?a ?l ?c ?k (fun us hl => match us, hl with | [_], _ => rfl)
      (case a => k_is)
      (case l => k_is)
      (case c => k_is)
      (case k => k_is)
    case F18 =>
      refine' XL.fun_at KX G ?a ?l ?c ?k (fun us hl => match us, hl with | [_, _], _ => rfl)
      (case a => k_is)
      (case l => k_is)
      (case c => k_is)
      (case k => k_is)
    case F19 =>
      refine' XL.fun_at KX G ?a ?l ?c ?k (fun us hl => match us, hl with | [_], _ => rfl)
      (case a => k_is)
      (case l => k_is)
      (case c => k_is)
      (case k => k_is)
