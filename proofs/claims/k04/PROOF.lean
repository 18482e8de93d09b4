import PyProof.Rows.All
import Wide.All
import OpenK.AllK
import Wide.FinOn
import HandS.ForMost
import HandS.ForExc
import HandS.Lambda
import HandS.TupAny
import HandS.Style
import HandS.Zip
import HandS.SetKeys
import HandS.ListItems
import HandS.Deep
import HandS.Flow
import HandS.Defaults
import KE.GoesMore
import HandS.More
import HandS.StrMore
import HandS.EndTab
import HandS.HeadHook1
import HandS.HeadHook2
import HandS.HeadWalk
import KE.KNestM
import HandS.Head0
import HandS.Head1
import HandS.Head2
import HandS.HeadEnd
import HandS.GenList
import HandS.DictComp
import HandS.TupLen
import HandS.WordsDict
import KE.DataFind
import KE.KIndexOf
import HandS.RaiseMore
import PyProof.AutoSeq1
import PyProof.TupleOps
import PyProof.TableCode
import PySem.Challenge.RW_archivestack_k04_how_long_records_are_ke
set_option Elab.async false
set_option linter.all false
set_option autoImplicit false
set_option maxRecDepth 100000
set_option maxHeartbeats 0
/-! E1: data, store, the mirror's combinators. Plain Lean. -/
namespace Mir
abbrev Tx := List Nat
inductive D where
  | non | bl (b : Bool) | int (i : Int) | str (x : Tx) | ref (n : Nat)
  | tup (xs : List D) | lst (xs : List D) | dct (t : Nat) (ps : List (D × D)) | obj (c : Nat) (fs : List D) | lam (k : Nat) | scr (xs : List D) | ktp (xs : List D)
  deriving Inhabited

mutual
def D.beq : D → D → Bool
  | .non, .non => true
  | .bl a, .bl b => a == b
  | .int a, .int b => a == b
  | .str a, .str b => a == b
  | .ref a, .ref b => a == b
  | .tup a, .tup b => D.beqL a b
  | .lst a, .lst b => D.beqL a b
  | .dct t a, .dct u b => t == u && D.beqP a b
  | .obj c a, .obj d b => c == d && D.beqL a b
  | .lam a, .lam b => a == b
  | .scr a, .scr b => D.beqL a b
  | .ktp a, .ktp b => D.beqL a b
  | _, _ => false
def D.beqL : List D → List D → Bool
  | [], [] => true
  | a :: as, b :: bs => D.beq a b && D.beqL as bs
  | _, _ => false
def D.beqP : List (D × D) → List (D × D) → Bool
  | [], [] => true
  | (a, x) :: as, (b, y) :: bs => D.beq a b && D.beq x y && D.beqP as bs
  | _, _ => false
end
mutual
theorem D.beq_iff : ∀ a b : D, D.beq a b = true ↔ a = b
  | .non, b => by cases b <;> simp [D.beq]
  | .bl _, b => by cases b <;> simp [D.beq]
  | .int _, b => by cases b <;> simp [D.beq]
  | .str _, b => by cases b <;> simp [D.beq]
  | .ref _, b => by cases b <;> simp [D.beq]
  | .lam _, b => by cases b <;> simp [D.beq]
  | .tup as, b => by cases b <;> simp [D.beq, D.beqL_iff as]
  | .lst as, b => by cases b <;> simp [D.beq, D.beqL_iff as]
  | .dct _ as, b => by cases b <;> simp [D.beq, D.beqP_iff as]
  | .obj _ as, b => by cases b <;> simp [D.beq, D.beqL_iff as]
  | .scr as, b => by cases b <;> simp [D.beq, D.beqL_iff as]
  | .ktp as, b => by cases b <;> simp [D.beq, D.beqL_iff as]
theorem D.beqL_iff : ∀ a b : List D, D.beqL a b = true ↔ a = b
  | [], b => by cases b <;> simp [D.beqL]
  | a :: as, b => by cases b <;> simp [D.beqL, D.beq_iff a, D.beqL_iff as]
theorem D.beqP_iff : ∀ a b : List (D × D), D.beqP a b = true ↔ a = b
  | [], b => by cases b <;> simp [D.beqP]
  | (a, x) :: as, b => by
    cases b with
    | nil => simp [D.beqP]
    | cons p q => obtain ⟨c, y⟩ := p; simp [D.beqP, D.beq_iff a, D.beq_iff x, D.beqP_iff as, and_assoc]
end
instance : DecidableEq D := fun a b => decidable_of_iff _ (D.beq_iff a b)

inductive Cell where
  | lst (xs : List D) | dct (t : Nat) (ps : List (D × D)) | ins (c : Nat) (fs : List D) | lck (t : Nat) (ps : List (D × D))
  deriving DecidableEq
abbrev St := List Cell
def Cell.isLck : Cell → Bool
  | .lck _ _ => true
  | _ => false
inductive Slot where
  | no | val (d : D) | own (c : Cell)
  deriving DecidableEq
abbrev Env := List Slot
inductive Opd where
  | val (d : D) | bor (c : Cell)
inductive Out (α : Type) where
  | ok (a : α) (s : St) | exc (e : Nat) (s : St) | bad
def Out.bind {α β : Type} (o : Out α) (k : α → St → Out β) : Out β := match o with
  | .ok a s => k a s
  | .exc e s => .exc e s
  | .bad => .bad
theorem Out.bind_ok {α β : Type} (a : α) (s : St) (k : α → St → Out β) : (Out.ok a s).bind k = k a s := rfl
def orBad {α : Type} (s : St) : Option α → Out α
  | some a => .ok a s
  | none => .bad

abbrev EM := Env → St → Out Opd
abbrev TM := Env → St → Out Bool
abbrev NM := Env → St → Out Cell
abbrev FM := List D → St → Out D
abbrev AM := Env → St → Out (List Opd)
inductive SOut where
  | nx (r : Env) (s : St) | rt (d : D) (s : St) | bk (r : Env) (s : St) | ct (r : Env) (s : St) | exc (e : Nat) (r : Env) (s : St) | bad
abbrev SM := Env → St → SOut

/-- what lists and the like may hold at most -/
def lim : Nat := 1000000

/-! ### views -/
def listOf (s : St) : Opd → Option (List D)
  | .val (.lst xs) => some xs
  | .val (.ref n) => match s[n]? with
    | some (.lst xs) => some xs
    | _ => none
  | .bor (.lst xs) => some xs
  | _ => none
def seqOf (s : St) : Opd → Option (List D)
  | .val (.tup xs) => some xs
  | .val (.ktp xs) => some xs
  | o => listOf s o
def dctOf (s : St) : Opd → Option (Nat × List (D × D))
  | .val (.dct t ps) => some (t, ps)
  | .val (.ref n) => match s[n]? with
    | some (.dct t ps) => some (t, ps)
    | some (.lck t ps) => some (t, ps)
    | _ => none
  | .bor (.dct t ps) => some (t, ps)
  | _ => none
def valOf : Opd → Option D
  | .val d => some d
  | .bor _ => none
/-! ### expressions -/
def eC (d : D) : EM := fun _ s => .ok (.val d) s
def eV (i : Nat) : EM := fun r s => match r[i]? with
  | some (.val d) => .ok (.val d) s
  | some (.own c) => .ok (.bor c) s
  | _ => .bad
abbrev Op1 := St → Opd → Option D
abbrev Op2 := St → Opd → Opd → Option D
abbrev OpN := St → List Opd → Option D
def eOp1 (f : Op1) (a : EM) : EM := fun r s => (a r s).bind fun x s1 => orBad s1 ((f s1 x).map Opd.val)
def eOp2 (f : Op2) (a b : EM) : EM := fun r s => (a r s).bind fun x s1 => (b r s1).bind fun y s2 => orBad s2 ((f s2 x y).map Opd.val)
/-- a OP b OP' c -/
def eChain (f g : Op2) (a b c : EM) : EM := fun r s => (a r s).bind fun x s1 => (b r s1).bind fun y s2 => match f s2 x y with
  | some (.bl true) => (c r s2).bind fun z s3 => orBad s3 ((g s3 y z).map Opd.val)
  | some (.bl false) => .ok (.val (.bl false)) s2
  | _ => .bad
def aNil : AM := fun _ s => .ok [] s
def aCons (a : EM) (as : AM) : AM := fun r s => (a r s).bind fun x s1 => (as r s1).bind fun xs s2 => .ok (x :: xs) s2
def eOpN (f : OpN) (as : AM) : EM := fun r s => (as r s).bind fun xs s1 => orBad s1 ((f s1 xs).map Opd.val)
/-- and, or, not as values: all but the last are bools -/
def eAnd (a b : EM) : EM := fun r s => (a r s).bind fun x s1 => match x with
  | .val (.bl true) => b r s1
  | .val (.bl false) => .ok (.val (.bl false)) s1
  | _ => .bad
def eOr (a b : EM) : EM := fun r s => (a r s).bind fun x s1 => match x with
  | .val (.bl true) => .ok (.val (.bl true)) s1
  | .val (.bl false) => b r s1
  | _ => .bad
def eNot (a : EM) : EM := fun r s => (a r s).bind fun x s1 => match x with
  | .val (.bl b) => .ok (.val (.bl (!b))) s1
  | _ => .bad
def eIf (t : TM) (a b : EM) : EM := fun r s => (t r s).bind fun c s1 => if c = true then a r s1 else b r s1
def valsOf : List Opd → Option (List D)
  | [] => some []
  | .val d :: r => (valsOf r).map (d :: ·)
  | .bor _ :: _ => none
def eTup (as : AM) : EM := fun r s => (as r s).bind fun xs s1 => match valsOf xs with
  | some ds => if ds.length ≤ lim then .ok (.val (.tup ds)) s1 else .bad
  | none => .bad
/-- a def called with values -/
def eCall (f : FM) (as : AM) : EM := fun r s => (as r s).bind fun xs s1 => match valsOf xs with
  | some ds => (f ds s1).bind fun d s2 => .ok (.val d) s2
  | none => .bad
/-- the class of an instance, its attributes -/
def insOf (s : St) : Opd → Option (Nat × List D)
  | .val (.obj c fs) => some (c, fs)
  | .val (.ref n) => match s[n]? with
    | some (.ins c fs) => some (c, fs)
    | _ => none
  | .bor (.ins c fs) => some (c, fs)
  | _ => none
/-- o.m(..): a method of the class c -/
def eMeth (c : Nat) (f : FM) (o : EM) (as : AM) : EM := fun r s => (o r s).bind fun x s1 => match x, insOf s1 x with
  | .val d, some (c', _) => if c' = c then (as r s1).bind fun xs s2 => match valsOf xs with
      | some ds => (f (d :: ds) s2).bind fun e s3 => .ok (.val e) s3
      | none => .bad
    else .bad
  | _, _ => .bad
/-- the j-th attribute of an instance of the class c -/
def eFld (c j : Nat) (o : EM) : EM := fun r s => (o r s).bind fun x s1 => match insOf s1 x with
  | some (c', fs) => if c' = c then orBad s1 ((fs[j]?).map Opd.val) else .bad
  | none => .bad

/-! ### new lists and dicts -/
def nLst (as : AM) : NM := fun r s => (as r s).bind fun xs s1 => match valsOf xs with
  | some ds => if ds.length ≤ lim then .ok (.lst ds) s1 else .bad
  | none => .bad
def nDct0 (t : Nat) : NM := fun _ s => .ok (.dct t []) s
/-- by an operation on values -/
def nOp1 (f : St → Opd → Option Cell) (a : EM) : NM := fun r s => (a r s).bind fun x s1 => orBad s1 (f s1 x)
def nOp2 (f : St → Opd → Opd → Option Cell) (a b : EM) : NM := fun r s => (a r s).bind fun x s1 => (b r s1).bind fun y s2 => orBad s2 (f s2 x y)
def Cell.frz : Cell → Option D
  | .lst xs => some (.lst xs)
  | .dct t ps => some (.dct t ps)
  | .ins c fs => some (.obj c fs)
  | .lck _ _ => none
/-- the new thing as data that never changes again -/
def eFrz (n : NM) : EM := fun r s => (n r s).bind fun c s1 => orBad s1 (c.frz.map Opd.val)
/-- the new thing as a cell of the store -/
def eNew (n : NM) : EM := fun r s => (n r s).bind fun c s1 => .ok (.val (.ref s1.length)) (s1 ++ [c])

/-! ### tests -/
def truth (_ : St) : Opd → Option Bool
  | .val .non => some false
  | .val (.bl b) => some b
  | .val (.int i) => some (i != 0)
  | .val (.str x) => if x.length ≤ lim then some (!x.isEmpty) else none
  | .val (.tup xs) => some (!xs.isEmpty)
  | .val (.lst xs) => some (!xs.isEmpty)
  | .bor (.lst xs) => some (!xs.isEmpty)
  | _ => none
def tE (a : EM) : TM := fun r s => (a r s).bind fun x s1 => match x with
  | .val (.bl b) => .ok b s1
  | _ => .bad
def tTru (a : EM) : TM := fun r s => (a r s).bind fun x s1 => orBad s1 (truth s1 x)
def tAnd (a b : TM) : TM := fun r s => (a r s).bind fun x s1 => if x = true then b r s1 else .ok false s1
def tOr (a b : TM) : TM := fun r s => (a r s).bind fun x s1 => if x = true then .ok true s1 else b r s1
def tNot (a : TM) : TM := fun r s => (a r s).bind fun x s1 => .ok (!x) s1

/-! ### targets -/
inductive Tg where
  | nm (i : Nat) | tp (ts : List Tg)
mutual
def bindT : Tg → D → Env → Option Env
  | .nm i, d, r => if i < r.length then some (r.set i (.val d)) else none
  | .tp ts, d, r => match d with
    | .tup ds => bindTs ts ds r
    | .ktp ds => bindTs ts ds r
    | _ => none
def bindTs : List Tg → List D → Env → Option Env
  | [], [], r => some r
  | t :: ts, d :: ds, r => match bindT t d r with
    | some r' => bindTs ts ds r'
    | none => none
  | _, _, _ => none
end

/-! ### what is walked -/
inductive Watch where
  | free | cel (n : Nat) (c : Cell)
def Watch.ok : Watch → St → Bool
  | .free, _ => true
  | .cel n c, s => decide (s[n]? = some c)
mutual
def Tg.slots : Tg → List Nat
  | .nm i => [i]
  | .tp ts => Tg.slotsL ts
def Tg.slotsL : List Tg → List Nat
  | [] => []
  | t :: ts => t.slots ++ Tg.slotsL ts
end
abbrev IM := Env → St → Out (List D × Watch)
def itemsOf (s : St) : Opd → Option (List D × Watch)
  | .val (.lst xs) => some (xs, .free)
  | .val (.tup xs) => some (xs, .free)
  | .val (.ktp xs) => some (xs, .free)
  | .val (.str x) => some (x.map fun c => .str [c], .free)
  | .val (.ref n) => match s[n]? with
    | some (.lst xs) => some (xs, .cel n (.lst xs))
    | _ => none
  | _ => none
def iE (a : EM) : IM := fun r s => (a r s).bind fun x s1 => orBad s1 (itemsOf s1 x)
def rangeD (lo hi : Int) : List D := (List.range (hi - lo).toNat).map fun (k : Nat) => .int (lo + (k : Int))
def iRng1 (a : EM) : IM := fun r s => (a r s).bind fun x s1 => match x with
  | .val (.int j) => if -(2 ^ 62) ≤ j ∧ j < 2 ^ 62 then .ok (rangeD 0 j, .free) s1 else .bad
  | _ => .bad
def iRng2 (a b : EM) : IM := fun r s => (a r s).bind fun x s1 => (b r s1).bind fun y s2 => match x, y with
  | .val (.int i), .val (.int j) => if -(2 ^ 62) ≤ i ∧ i < 2 ^ 62 ∧ -(2 ^ 62) ≤ j ∧ j < 2 ^ 62 then .ok (rangeD i j, .free) s2 else .bad
  | _, _ => .bad
def enumD : Nat → List D → List D
  | _, [] => []
  | k, x :: xs => .tup [.int (k : Int), x] :: enumD (k + 1) xs
def zipD : List D → List D → List D
  | x :: xs, y :: ys => .tup [x, y] :: zipD xs ys
  | _, _ => []
def enumOf (s : St) (x : Opd) : Option (List D × Watch) := match x with
  | .val (.str _) => none
  | x => (itemsOf s x).map fun p => (enumD 0 p.1, p.2)
def iEnum (a : EM) : IM := fun r s => (a r s).bind fun x s1 => orBad s1 (enumOf s1 x)
def iZip (a b : EM) : IM := fun r s => (a r s).bind fun x s1 => (b r s1).bind fun y s2 => match x, y with
  | .val (.tup xs), .val (.tup ys) => .ok (zipD xs ys, .free) s2
  | .val (.lst xs), .val (.lst ys) => .ok (zipD xs ys, .free) s2
  | _, _ => .bad

/-! ### comprehensions: own names vs, wiped before and behind -/
def wipeE : List Nat → Env → Env
  | [], r => r
  | v :: vs, r => (wipeE vs r).set v .no
def lcLoop (tg : Tg) (t : TM) (e : EM) (vs : List Nat) (w : Watch) (r : Env) : List D → List D → St → Out (List D)
  | [], acc, s => .ok acc s
  | d :: ds, acc, s => match bindT tg d (wipeE vs r) with
    | none => .bad
    | some r1 => match t r1 s with
        | .ok true s1 => match e r1 s1 with
          | .ok (.val y) s2 => if w.ok s2 = true ∧ acc.length < lim then lcLoop tg t e vs w r ds (acc ++ [y]) s2 else .bad
          | _ => .bad
        | .ok false s1 => if w.ok s1 = true then lcLoop tg t e vs w r ds acc s1 else .bad
        | _ => .bad
def lcRes : Out (List D) → Out Cell
  | .ok xs s2 => .ok (.lst xs) s2
  | _ => .bad
def nLc (it : IM) (tg : Tg) (t : TM) (e : EM) (vs : List Nat) : NM := fun r s => (it r s).bind fun p s1 => if p.2.ok s1 = true then
    lcRes (lcLoop tg t e vs p.2 r p.1 [] s1)
  else .bad
def tYes : TM := fun _ s => .ok true s

/-! ### statements -/
def sNext : SM := fun r s => .nx r s
def sSeq (a b : SM) : SM := fun r s => match a r s with
  | .nx r1 s1 => b r1 s1
  | o => o
def sBind {α : Type} (r : Env) (o : Out α) (k : α → St → SOut) : SOut := match o with
  | .ok a s => k a s
  | .exc e s => .exc e r s
  | .bad => .bad
def sSet (i : Nat) (e : EM) : SM := fun r s => sBind r (e r s) fun x s1 => match x with
  | .val d => if i < r.length then .nx (r.set i (.val d)) s1 else .bad
  | .bor _ => .bad
def Cell.noIns : Cell → Bool
  | .ins _ _ => false
  | _ => true
def sOwn (i : Nat) (n : NM) : SM := fun r s => sBind r (n r s) fun c s1 => if i < r.length ∧ c.noIns = true then .nx (r.set i (.own c)) s1 else .bad
/-- e's parts to several names -/
def sUnp (tg : Tg) (e : EM) : SM := fun r s => sBind r (e r s) fun x s1 => match x with
  | .val d => match bindT tg d r with
    | some r1 => .nx r1 s1
    | none => .bad
  | .bor _ => .bad
/-- two names at once: each a value or a thing of its own -/
inductive Src where
  | v (e : EM) | o (n : NM)
def Src.run (a : Src) : Env → St → Out Slot := match a with
  | .v e => fun r s => (e r s).bind fun x s1 => match x with
    | .val d => .ok (.val d) s1
    | .bor _ => .bad
  | .o n => fun r s => (n r s).bind fun c s1 => if c.noIns = true then .ok (.own c) s1 else .bad
def sPar (i j : Nat) (a b : Src) : SM := fun r s => sBind r (a.run r s) fun x s1 => sBind r (b.run r s1) fun y s2 =>
  if i < r.length ∧ j < r.length ∧ i ≠ j then .nx ((r.set i x).set j y) s2 else .bad
def sIf (t : TM) (a b : SM) : SM := fun r s => sBind r (t r s) fun c s1 => if c = true then a r s1 else b r s1
def sRet (e : EM) : SM := fun r s => sBind r (e r s) fun x s1 => match x with
  | .val d => .rt d s1
  | .bor _ => .bad
/-- the name in the slot i -/
def sRetV (i : Nat) : SM := fun r s => match r[i]? with
  | some (.val d) => .rt d s
  | some (.own c) => match c.frz with
    | some d => .rt d s
    | none => .bad
  | _ => .bad
def sRetN : SM := fun _ s => .rt .non s
def sExpr (e : EM) : SM := fun r s => sBind r (e r s) fun _ s1 => .nx r s1
def sRaise (e : Nat) : SM := fun r s => .exc e r s
def sBreak : SM := fun r s => .bk r s
def sCont : SM := fun r s => .ct r s
def forLoop (tg : Tg) (body : SM) (w : Watch) : List D → Env → St → SOut
  | [], r, s => .nx r s
  | d :: ds, r, s => match bindT tg d r with
    | none => .bad
    | some r1 => match body r1 s with
      | .nx r2 s2 => if w.ok s2 = true then forLoop tg body w ds r2 s2 else .bad
      | .ct r2 s2 => if w.ok s2 = true then forLoop tg body w ds r2 s2 else .bad
      | .bk r2 s2 => .nx r2 s2
      | o => o
def sFor (it : IM) (tg : Tg) (body : SM) : SM := fun r s => sBind r (it r s) fun p s1 => if p.2.ok s1 = true then forLoop tg body p.2 p.1 r s1 else .bad
def whileLoop (t : TM) (body : SM) : Nat → Env → St → SOut
  | 0, _, _ => .bad
  | n + 1, r, s => match t r s with
    | .ok false s1 => .nx r s1
    | .ok true s1 => match body r s1 with
      | .nx r2 s2 => whileLoop t body n r2 s2
      | .ct r2 s2 => whileLoop t body n r2 s2
      | .bk r2 s2 => .nx r2 s2
      | o => o
    | .exc e s1 => .exc e r s1
    | .bad => .bad
def fuel : Nat := 100000
def sWhile (t : TM) (body : SM) : SM := fun r s => whileLoop t body fuel r s
/-- i op= e, a value -/
def sAug (i : Nat) (f : Op2) (e : EM) : SM := fun r s => match r[i]? with
  | some (.val d) => sBind r (e r s) fun x s1 => match f s1 (.val d) x with
    | some v => .nx (r.set i (.val v)) s1
    | none => .bad
  | _ => .bad
/-- the list in the slot i grows: append -/
def sAppV (i : Nat) (e : EM) : SM := fun r s => match r[i]? with
  | some (.own (.lst _)) => sBind r (e r s) fun x s1 => match x, r[i]? with
    | .val d, some (.own (.lst xs)) => if xs.length < lim then .nx (r.set i (.own (.lst (xs ++ [d])))) s1 else .bad
    | _, _ => .bad
  | _ => .bad
/-- a cell's list grows: append -/
def sAppC (o e : EM) : SM := fun r s => sBind r (o r s) fun x s1 => match x with
  | .val (.ref n) => match s1[n]? with
    | some (.lst _) => sBind r (e r s1) fun y s2 => match y, s2[n]? with
      | .val d, some (.lst xs) => if xs.length < lim then .nx r (s2.set n (.lst (xs ++ [d]))) else .bad
      | _, _ => .bad
    | _ => .bad
  | _ => .bad
/-- self.f = e of an instance of the class c: its j-th attribute, set or new -/
def putAt (fs : List D) (j : Nat) (d : D) : Option (List D) := if j < fs.length then some (fs.set j d) else if j = fs.length then some (fs ++ [d]) else none
def sFldV (c i j : Nat) (e : EM) : SM := fun r s => sBind r (e r s) fun x s1 => match x, r[i]? with
  | .val d, some (.own (.ins c' fs)) => match putAt fs j d with
    | some fs' => if c' = c then .nx (r.set i (.own (.ins c fs'))) s1 else .bad
    | none => .bad
  | _, _ => .bad
def sFldC (c j : Nat) (o e : EM) : SM := fun r s => sBind r (e r s) fun x s1 => sBind r (o r s1) fun y s2 => match x, y with
  | .val d, .val (.ref n) => match s2[n]? with
    | some (.ins c' fs) => match putAt fs j d with
      | some fs' => if c' = c then .nx r (s2.set n (.ins c fs')) else .bad
      | none => .bad
    | _ => .bad
  | _, _ => .bad
/-- Python's place of an index -/
def ixD (n : Nat) (i : Int) : Option Nat := if 0 ≤ i then (if i < (n : Int) then some i.toNat else none) else if 0 ≤ (n : Int) + i then some ((n : Int) + i).toNat else none
/-- o[i] = e of a cell's list -/
def sPutL (o i e : EM) : SM := fun r s => sBind r (e r s) fun x s1 => sBind r (o r s1) fun y s2 => sBind r (i r s2) fun z s3 => match x, y, z with
  | .val d, .val (.ref n), .val (.int k) => match s3[n]? with
    | some (.lst xs) => match ixD xs.length k with
      | some j => .nx r (s3.set n (.lst (xs.set j d)))
      | none => .bad
    | _ => .bad
  | _, _, _ => .bad
/-- a def: n slots, np parameters -/
def fn (n np : Nat) (body : SM) : FM := fun ds s => if ds.length = np then
    match body (ds.map Slot.val ++ List.replicate (n - np) Slot.no) s with
    | .nx _ s1 => .ok .non s1
    | .rt d s1 => .ok d s1
    | .exc e _ s1 => .exc e s1
    | _ => .bad
  else .bad
/-- an __init__: slot 0 is the instance of the class c; what it has behind it -/
abbrev XM := List D → St → Out (List D)
def fnInit (c n np : Nat) (body : SM) : XM := fun ds s => if ds.length + 1 = np then
    match body (Slot.own (.ins c []) :: (ds.map Slot.val ++ List.replicate (n - np) Slot.no)) s with
    | .nx r s1 => match List.head? r with
      | some (Slot.own (.ins c' fs)) => if c' = c then .ok fs s1 else .bad
      | _ => .bad
    | .exc e _ s1 => .exc e s1
    | _ => .bad
  else .bad
/-- C(..) -/
def nMake (c : Nat) (f : XM) (as : AM) : NM := fun r s => (as r s).bind fun xs s1 => match valsOf xs with
  | some ds => (f ds s1).bind fun fs s2 => .ok (.ins c fs) s2
  | none => .bad
/-- told(lambda: e): what the def that catches the errors es hands back -/
def eTold (es : List Nat) (ret : Tx) (e : EM) : EM := fun r s => match e r s with
  | .ok (.val d) s1 => .ok (.val d) s1
  | .ok (.bor _) _ => .bad
  | .exc x s1 => if es.contains x = true then .ok (.val (.str ret)) s1 else .bad
  | .bad => .bad
/-! ### operations on data -/
def oAdd : Op2 := fun _ x y => match x, y with
  | .val (.int i), .val (.int j) => some (.int (i + j))
  | .val (.str a), .val (.str b) => if a.length + b.length ≤ lim then some (.str (a ++ b)) else none
  | _, _ => none
def oSub : Op2 := fun _ x y => match x, y with
  | .val (.int i), .val (.int j) => some (.int (i - j))
  | _, _ => none
def small64 (i : Int) : Bool := decide (-(2 ^ 64) < i) && decide (i < 2 ^ 64)
def repT (k : Nat) (x : Tx) : Tx := (List.replicate k x).flatten
def oMul : Op2 := fun _ x y => match x, y with
  | .val (.int i), .val (.int j) => if small64 i = true ∨ small64 j = true then some (.int (i * j)) else none
  | _, _ => none
def oFdiv : Op2 := fun _ x y => match x, y with
  | .val (.int i), .val (.int j) => if 0 < j ∧ j < 1073741824 then some (.int (i / j)) else none
  | _, _ => none
def oMod : Op2 := fun _ x y => match x, y with
  | .val (.int i), .val (.int j) => if 0 < j then some (.int (i % j)) else none
  | _, _ => none
def oPow : Op2 := fun _ x y => match x, y with
  | .val (.int i), .val (.int j) => if 0 ≤ j ∧ j ≤ 1000 ∧ i.natAbs < 2 ^ 64 then some (.int (i ^ j.toNat)) else none
  | _, _ => none
def oShl : Op2 := fun _ x y => match x, y with
  | .val (.int i), .val (.int j) => if 0 ≤ j ∧ j ≤ 1000 ∧ i.natAbs < 2 ^ 64 then some (.int (i * 2 ^ j.toNat)) else none
  | _, _ => none
def oNeg : Op1 := fun _ x => match x with
  | .val (.int i) => some (.int (-i))
  | _ => none
def oCmp (p : Int → Int → Bool) : Op2 := fun _ x y => match x, y with
  | .val (.int i), .val (.int j) => some (.bl (p i j))
  | _, _ => none
def oLt : Op2 := oCmp fun i j => decide (i < j)
def oLe : Op2 := oCmp fun i j => decide (i ≤ j)
def oGt : Op2 := oCmp fun i j => decide (j < i)
def oGe : Op2 := oCmp fun i j => decide (j ≤ i)
/-! data that == tells apart -/
mutual
def eqv : D → D → Bool
  | .non, .non => true
  | .bl a, .bl b => a == b
  | .bl a, .int j => (if a then 1 else 0) == j
  | .int i, .bl b => i == (if b then 1 else 0)
  | .int i, .int j => i == j
  | .str x, .str y => x == y
  | .lst xs, .lst ys => eqvL xs ys
  | .tup xs, .tup ys => eqvL xs ys
  | .tup xs, .ktp ys => eqvL xs ys
  | .ktp xs, .tup ys => eqvL xs ys
  | .ktp xs, .ktp ys => eqvL xs ys
  | _, _ => false
def eqvL : List D → List D → Bool
  | [], [] => true
  | x :: xs, y :: ys => eqv x y && eqvL xs ys
  | _, _ => false
end
mutual
/-- none, bools, ints, texts, lists, tuples, not deeper than k -/
def shap : Nat → D → Bool
  | _, .non => true
  | _, .bl _ => true
  | _, .int _ => true
  | _, .str x => x.all fun c => decide (c < 1114112)
  | 0, _ => false
  | k + 1, .lst xs => decide (xs.length ≤ lim) && shapL k xs
  | k + 1, .tup xs => decide (xs.length ≤ lim) && shapL k xs
  | k + 1, .ktp xs => decide (xs.length ≤ lim) && shapL k xs
  | _ + 1, _ => false
def shapL : Nat → List D → Bool
  | _, [] => true
  | k, x :: xs => shap k x && shapL k xs
end
/-- the data that == sees -/
def look (s : St) : Opd → Option D
  | .val (.ref n) => match s[n]? with
    | some (.lst xs) => some (.lst xs)
    | _ => none
  | .val d => some d
  | .bor (.lst xs) => some (.lst xs)
  | .bor _ => none
/-- two scalars -/
def scalD : D → D → Bool
  | .non, .non => true | .non, .int _ => true | .int _, .non => true | .non, .bl _ => true | .bl _, .non => true | .non, .str _ => true | .str _, .non => true
  | .int _, .int _ => true | .bl _, .bl _ => true | .str _, .str _ => true
  | .int _, .str _ => true | .str _, .int _ => true | .bl _, .str _ => true | .str _, .bl _ => true
  | _, _ => false
def eqD (s : St) (x y : Opd) : Option Bool := match look s x, look s y with
  | some a, some b => if scalD a b = true then some (decide (a = b)) else if shap 20 a = true ∧ shap 20 b = true then some (eqv a b) else none
  | _, _ => none
def oEq : Op2 := fun s x y => (eqD s x y).map D.bl
def oNe : Op2 := fun s x y => (eqD s x y).map fun b => D.bl (!b)
def oIsN : Op2 := fun _ x y => match x, y with
  | .val d, .val .non => some (.bl (match d with | .non => true | _ => false))
  | .bor _, .val .non => some (.bl false)
  | _, _ => none
def oNotN : Op2 := fun _ x y => match x, y with
  | .val d, .val .non => some (.bl (match d with | .non => false | _ => true))
  | .bor _, .val .non => some (.bl true)
  | _, _ => none
def atD {α : Type} (xs : List α) (i : Int) : Option α := (ixD xs.length i).bind fun j => xs[j]?
def oIx : Op2 := fun s x y => match y with
  | .val (.int i) => match x with
    | .val (.str z) => if z.length ≤ lim then (atD z i).map fun c => .str [c] else none
    | _ => (seqOf s x).bind fun xs => atD xs i
  | _ => none
def oLen : OpN := fun s xs => match xs with
  | [.val (.str z)] => if z.length ≤ lim then some (.int z.length) else none
  | [x] => match seqOf s x with
    | some ys => some (.int ys.length)
    | none => none
  | _ => none
def oAbs : OpN := fun _ xs => match xs with
  | [.val (.int i)] => some (.int (if i < 0 then -i else i))
  | _ => none
def oMax2 : OpN := fun _ xs => match xs with
  | [.val (.int i), .val (.int j)] => some (.int (if j > i then j else i))
  | _ => none
def oMin2 : OpN := fun _ xs => match xs with
  | [.val (.int i), .val (.int j)] => some (.int (if j < i then j else i))
  | _ => none
def oInt : OpN := fun _ xs => match xs with
  | [.val (.int i)] => some (.int i)
  | [.val (.bl k)] => some (.int (if k then 1 else 0))
  | _ => none
def intsOf : List D → Option (List Int)
  | [] => some []
  | .int i :: r => (intsOf r).map (i :: ·)
  | _ :: _ => none
def oSum : OpN := fun s xs => match xs with
  | [x] => match listOf s x with
    | some ds => (intsOf ds).map fun ns => .int ns.sum
    | none => none
  | _ => none
def maxI : List Int → Int
  | [] => 0
  | [x] => x
  | x :: xs => if maxI xs > x then maxI xs else x
def minI : List Int → Int
  | [] => 0
  | [x] => x
  | x :: xs => if minI xs < x then minI xs else x
def oMaxL : OpN := fun s xs => match xs with
  | [x] => match listOf s x with
    | some ds => (intsOf ds).bind fun ns => if ns = [] then none else some (.int (maxI ns))
    | none => none
  | _ => none
def oMinL : OpN := fun s xs => match xs with
  | [x] => match listOf s x with
    | some ds => (intsOf ds).bind fun ns => if ns = [] then none else some (.int (minI ns))
    | none => none
  | _ => none

theorem maxI_mem : ∀ {l : List Int}, l ≠ [] → maxI l ∈ l
  | [], h => absurd rfl h
  | [x], _ => by simp [maxI]
  | x :: y :: r, _ => by
    have ih := maxI_mem (l := y :: r) (by simp)
    unfold maxI
    split
    · exact List.mem_cons_of_mem _ ih
    · exact List.mem_cons_self
theorem maxI_le : ∀ {l : List Int} {z : Int}, z ∈ l → z ≤ maxI l
  | [x], z, h => by simp at h; simp [maxI, h]
  | x :: y :: r, z, h => by
    have ih := fun w (hw : w ∈ y :: r) => maxI_le (l := y :: r) hw
    unfold maxI
    rcases List.mem_cons.mp h with rfl | h
    · split <;> omega
    · have := ih z h
      split <;> omega
theorem minI_mem : ∀ {l : List Int}, l ≠ [] → minI l ∈ l
  | [], h => absurd rfl h
  | [x], _ => by simp [minI]
  | x :: y :: r, _ => by
    have ih := minI_mem (l := y :: r) (by simp)
    unfold minI
    split
    · exact List.mem_cons_of_mem _ ih
    · exact List.mem_cons_self
theorem minI_le : ∀ {l : List Int} {z : Int}, z ∈ l → minI l ≤ z
  | [x], z, h => by simp at h; simp [minI, h]
  | x :: y :: r, z, h => by
    have ih := fun w (hw : w ∈ y :: r) => minI_le (l := y :: r) hw
    unfold minI
    rcases List.mem_cons.mp h with rfl | h
    · split <;> omega
    · have := ih z h
      split <;> omega


abbrev NpN := St → List Opd → Option Cell
def nOpN (f : NpN) (as : AM) : NM := fun r s => (as r s).bind fun xs s1 => orBad s1 (f s1 xs)
abbrev Np2 := St → Opd → Opd → Option Cell
def defl (f : FM) (dds : List D) : FM := fun ds st => f (ds ++ dds) st

/-! ### dicts -/
def lookD (ps : List (D × D)) (k : D) : Option D := (ps.find? fun p => decide (p.1 = k)).map (·.2)
def hasD (ps : List (D × D)) (k : D) : Bool := ps.any fun p => decide (p.1 = k)
def putD (ps : List (D × D)) (k d : D) : List (D × D) := if hasD ps k = true then ps.map (fun p => if p.1 = k then (p.1, d) else p) else ps ++ [(k, d)]
def dropD (ps : List (D × D)) (k : D) : List (D × D) := ps.filter fun p => decide (p.1 ≠ k)
def mergeD (ps more : List (D × D)) : List (D × D) := more.foldl (fun acc p => putD acc p.1 p.2) ps
def flatK : D → Bool
  | .int _ => true
  | .str _ => true
  | _ => false
def isTupK : D → Bool
  | .tup ks => ks.all flatK
  | _ => false
/-- what may be a key of a dict of the kind t: an int, a text (0); a tuple of such (1) -/
def kOk : Nat → D → Bool
  | 0, k => flatK k
  | 1, k => isTupK k
  | _, _ => false
def oGet : Op2 := fun s x y => match dctOf s x with
  | some (t, ps) => match y with
    | .val k => if kOk t k = true then lookD ps k else none
    | .bor _ => none
  | none => oIx s x y
/-- one sign in a text; a flat thing in a tuple; data in a list; a key in a dict -/
def inTx (x z : Tx) : Option Bool := match x with
  | [c] => some (z.contains c)
  | _ => none
def inFlat (d : D) (xs : List D) : Option Bool := if scalD d d = true ∧ xs.all (fun z => scalD z z) = true then some (xs.any fun z => eqv z d) else none
def inLst (s : St) (d : D) (y : Opd) : Option Bool := match listOf s y with
  | some xs => if shap 20 d = true ∧ shap 20 (.lst xs) = true then some (xs.any fun z => eqv z d) else none
  | none => none
def inSeq (s : St) (d : D) (y : Opd) : Option Bool := match y with
  | .val (.str z) => match d with
    | .str a => inTx a z
    | _ => none
  | .val (.tup xs) => inFlat d xs
  | .val (.ktp xs) => inFlat d xs
  | y => inLst s d y
def inD (s : St) (x y : Opd) : Option Bool := match x with
  | .bor _ => none
  | .val k => match dctOf s y with
    | some (t, ps) => if kOk t k = true then some (hasD ps k) else none
    | none => inSeq s k y
def oIn : Op2 := fun s x y => (inD s x y).map D.bl
def oNotIn : Op2 := fun s x y => (inD s x y).map fun b => D.bl (!b)
/-- d.get(k), d.get(k, x) -/
def getK (s : St) (x y : Opd) (w : D) : Option D := match dctOf s x, y with
  | some (t, ps), .val kk => if kOk t kk = true then some ((lookD ps kk).getD w) else none
  | _, _ => none
def eGet1 (d k : EM) : EM := fun r s => (d r s).bind fun x s1 => if (dctOf s1 x).isSome = true then (k r s1).bind fun y s2 => orBad s2 ((getK s2 x y .non).map Opd.val) else .bad
def eGet2 (d k e : EM) : EM := fun r s => (d r s).bind fun x s1 => if (dctOf s1 x).isSome = true then (k r s1).bind fun y s2 => (e r s2).bind fun z s3 => match z with
  | .val w => orBad s3 ((getK s3 x y w).map Opd.val)
  | .bor _ => .bad
  else .bad
/-- d[k] = e of a cell; of one's own -/
def sPutDC (d k e : EM) : SM := fun r s => sBind r (e r s) fun x s1 => sBind r (d r s1) fun y s2 => sBind r (k r s2) fun z s3 => match x, y, z with
  | .val w, .val (.ref n), .val kk => match s3[n]? with
    | some (.dct t ps) => if kOk t kk = true ∧ ps.length < lim then .nx r (s3.set n (.dct t (putD ps kk w))) else .bad
    | _ => .bad
  | _, _, _ => .bad
def sPutDV (i : Nat) (k e : EM) : SM := fun r s => match r[i]? with
  | some (.own (.dct t ps)) => sBind r (e r s) fun x s1 => sBind r (k r s1) fun z s2 => match x, z with
    | .val w, .val kk => if kOk t kk = true ∧ ps.length < lim then .nx (r.set i (.own (.dct t (putD ps kk w)))) s2 else .bad
    | _, _ => .bad
  | _ => .bad
/-- d.setdefault(k, n), d a cell: a new thing where k is not yet -/
def setDN (s3 : St) (m : Nat) (kk : D) (c : Cell) : Out Opd := match s3[m]? with
  | some (.dct 0 ps) => if flatK kk = true ∧ ps.length < lim then
      match lookD ps kk with
      | some d => .ok (.val d) s3
      | none => .ok (.val (.ref s3.length)) ((s3 ++ [c]).set m (.dct 0 (putD ps kk (.ref s3.length))))
    else .bad
  | _ => .bad
def eSetDN (d k : EM) (n : NM) : EM := fun r s => (d r s).bind fun x s1 => if (dctOf s1 x).isSome = true then (k r s1).bind fun y s2 => (n r s2).bind fun c s3 => match x, y with
  | .val (.ref m), .val kk => setDN s3 m kk c
  | _, _ => .bad
  else .bad
/-- dict(pairs) -/
def pairsOf : List D → Option (List (D × D))
  | [] => some []
  | .tup [k, v] :: r => if flatK k = true then (pairsOf r).map ((k, v) :: ·) else none
  | _ :: _ => none
def nDict : NpN := fun s xs => match xs with
  | [x] => match listOf s x with
    | some ds => (pairsOf ds).map fun ps => .dct 0 (mergeD [] ps)
    | none => none
  | _ => none
/-- list(d.items()) -/
def itemsL (s : St) (x : Opd) : Option (List (D × D)) := match x with
  | .val (.dct 0 ps) => some ps
  | .val (.ref n) => match s[n]? with
    | some (.dct 0 ps) => some ps
    | _ => none
  | _ => none
def nItems (d : EM) : NM := fun r s => (d r s).bind fun x s1 => orBad s1 ((itemsL s1 x).map fun ps => Cell.lst (ps.map fun p => .tup [p.1, p.2]))

/-! ### slices -/
def sIxD (n d : Nat) : Option Int → Nat
  | none => d
  | some v => if v < 0 then (v + (n : Int)).toNat else min v.toNat n
def cutD {α : Type} (xs : List α) (lo hi : Option Int) : List α := (xs.drop (sIxD xs.length 0 lo)).take (sIxD xs.length xs.length hi - sIxD xs.length 0 lo)
abbrev OM := Env → St → Out (Option Int)
def oNo : OM := fun _ s => .ok none s
def oSome (a : EM) : OM := fun r s => (a r s).bind fun x s1 => match x with
  | .val (.int i) => .ok (some i) s1
  | _ => .bad
/-- a text, a tuple -/
def cutE : D → Option Int → Option Int → Option D
  | .str z, lo, hi => if z.length ≤ lim then some (.str (cutD z lo hi)) else none
  | .tup xs, lo, hi => some (.tup (cutD xs lo hi))
  | _, _, _ => none
def eSl (a : EM) (lo hi : OM) : EM := fun r s => (a r s).bind fun x s1 => (lo r s1).bind fun l s2 => (hi r s2).bind fun h s3 => match x with
  | .val d => orBad s3 ((cutE d l h).map Opd.val)
  | .bor _ => .bad
/-- a list: a new one -/
def seqL (s : St) : Opd → Option (List D)
  | .val (.scr xs) => some xs
  | x => listOf s x
def nSl (a : EM) (lo hi : OM) : NM := fun r s => (a r s).bind fun x s1 => (lo r s1).bind fun l s2 => (hi r s2).bind fun h s3 => orBad s3 ((seqL s3 x).map fun xs => Cell.lst (cutD xs l h))
def nRev (a : EM) : NM := fun r s => (a r s).bind fun x s1 => orBad s1 ((listOf s1 x).map fun xs => Cell.lst xs.reverse)

/-! ### lists made of lists -/
def nCat : Np2 := fun s x y => match listOf s x, listOf s y with
  | some xs, some ys => if xs.length + ys.length ≤ lim then some (.lst (xs ++ ys)) else none
  | _, _ => none
def nRep : Np2 := fun s x y => match listOf s x, y with
  | some xs, .val (.int k) => if -(2 ^ 63) ≤ k ∧ k < 2 ^ 63 ∧ xs.length * k.toNat ≤ lim then some (.lst (List.replicate k.toNat xs).flatten) else none
  | _, _ => none
def nList : NpN := fun s xs => match xs with
  | [x] => (seqOf s x).map Cell.lst
  | _ => none
def tupOf (s : St) (x : Opd) : Option D := match x with
  | .val (.tup ds) => some (.tup ds)
  | .val (.ktp ds) => some (.ktp ds)
  | x => (listOf s x).map D.tup
def oTuple : OpN := fun s xs => match xs with
  | [x] => tupOf s x
  | _ => none
/-- lexicographic < of texts -/
def ltT : Tx → Tx → Bool
  | [], [] => false
  | [], _ :: _ => true
  | _ :: _, [] => false
  | a :: r, b :: t => decide (a < b) || (decide (a = b) && ltT r t)
def insT (x : Tx) : List Tx → List Tx
  | [] => [x]
  | y :: r => if ltT y x = true then y :: insT x r else x :: y :: r
def sortT : List Tx → List Tx
  | [] => []
  | x :: r => insT x (sortT r)
def insI (x : Int) : List Int → List Int
  | [] => [x]
  | y :: r => if y < x then y :: insI x r else x :: y :: r
def sortI : List Int → List Int
  | [] => []
  | x :: r => insI x (sortI r)
def txsOf : List D → Option (List Tx)
  | [] => some []
  | .str x :: r => (txsOf r).map (x :: ·)
  | _ :: _ => none
/-- sorted of a list of ints or of texts, of a dict with texts for keys; below 64 -/
def nSorted : NpN := fun s xs => match xs with
  | [x] => match dctOf s x with
    | some (0, ps) => match txsOf (ps.map (·.1)) with
      | some ts => if ts.length < 64 then some (.lst ((sortT ts).map D.str)) else none
      | none => none
    | some _ => none
    | none => match listOf s x with
      | some ds => if ds.length < 64 then
          match intsOf ds with
          | some ns => some (.lst ((sortI ns).map D.int))
          | none => match txsOf ds with
            | some ts => some (.lst ((sortT ts).map D.str))
            | none => none
        else none
      | none => none
  | _ => none
/-! ### dead code, lists of lambdas -/
def sDead : SM := fun _ _ => .bad
/-- each lambda is told, in order; all must answer ret -/
def badRun (er : List Nat) (ret : Tx) : List EM → Env → St → Option St
  | [], _, st => some st
  | m :: ms, r, st => match eTold er ret m r st with
    | .ok (.val (.str x)) st1 => if x = ret then badRun er ret ms r st1 else none
    | _ => none
def sBad (ib : Nat) (rest : SM) : SM := fun r s => if ib < r.length then rest (r.set ib .no) s else .bad
def sBadThen (iF : Nat) (er : List Nat) (ret : Tx) (ms : List EM) (m : SM) : SM := fun r s => match badRun er ret ms r s with
  | some s1 => if iF < r.length then m r s1 else .bad
  | none => .bad
end Mir
/-! E2: the relation between the layer's values and heaps and the mirror's data and store. -/
namespace Mir
open PySem PySem.Spec PyProof.Rows L2

def toS (x : Tx) : Str := ⟨x.toArray⟩
theorem toS_list (x : Tx) : (toS x).cps.toList = x := by simp [toS]
theorem toS_len (x : Tx) : (toS x).length = x.length := by simp [toS, Str.length]
theorem toS_inj {x y : Tx} (h : toS x = toS y) : x = y := by
  have := congrArg (fun z : Str => z.cps.toList) h
  simpa [toS] using this
theorem toS_of (z : Str) : toS z.cps.toList = z := by cases z; simp [toS]

/-- what is known of the program's top -/
structure G where
  K : PySem.W.Frag
  ci : Nat → Option (Addr × List Str)
  ex : Nat → Option Addr
  tb : List (Addr × Str)

/-- a tuple, a list of the written part -/
def KT (K : PySem.W.Frag) (a : Addr) (xs : List V) : Prop :=
  ∃ (o : Obj) (its : Array Value) (n : Nat), K.lookup a = some o ∧ o.cls = .type "tuple" ∧ o.dict = none ∧ o.data = .seq its n ∧ its.size ≤ sizeLine ∧ Vals xs its.toList
def KL (K : PySem.W.Frag) (a : Addr) (xs : List V) : Prop :=
  ∃ (o : Obj) (its : Array Value) (n : Nat), K.lookup a = some o ∧ o.cls = .type "list" ∧ o.dict = none ∧ o.data = .seq its n ∧ its.size ≤ sizeLine ∧ Vals xs its.toList
theorem KT.seq {K : PySem.W.Frag} {H : Hp} {a : Addr} {xs : List V} (h : KT K a xs) : SqT K H a xs := .inr (let ⟨o, its, n, h1, h2, _, h4⟩ := h; ⟨o, its, n, h1, h2, h4⟩)
theorem KL.seq {K : PySem.W.Frag} {H : Hp} {a : Addr} {xs : List V} (h : KL K a xs) : SqL K H a xs := .inr h

def RepK : D → Key → Prop
  | .int i, k => k = .inl i
  | .str x, k => k = .inr (toS x)
  | _, _ => False
def RepKs : List D → List Key → Prop
  | [], ks => ks = []
  | d :: ds, ks => ∃ k r, ks = k :: r ∧ RepK d k ∧ RepKs ds r
mutual
/-- v is the data d, all of whose parts are frozen in F (cells: at the places mu) -/
def RepV (g : G) (F : Hp) (mu : List Addr) : D → V → Prop
  | .non, v => v = .non
  | .bl b, v => v = .bl b
  | .int i, v => v = .int i
  | .str x, v => v = .str (toS x)
  | .ref n, v => ∃ a, mu[n]? = some a ∧ v = .ref a
  | .tup ds, v => ∃ p vs, v = .ref p ∧ F p = some (.tup vs) ∧ RepL g F mu ds vs
  | .ktp ds, v => ∃ p vs, v = .ref p ∧ KT g.K p vs ∧ RepL g F mu ds vs
  | .lst ds, v => ∃ p vs, v = .ref p ∧ F p = some (.lst vs) ∧ RepL g F mu ds vs
  | .scr ds, v => ∃ p vs, v = .ref p ∧ ((∃ od, F p = some (.frz od (.lst vs))) ∨ F p = some (.lst vs) ∨ KL g.K p vs) ∧ RepL g F mu ds vs
  | .dct t ps, v => ∃ p, v = .ref p ∧ ((t = 0 ∧ ∃ kvs, F p = some (.dK kvs) ∧ RepP g F mu ps kvs) ∨ (t = 1 ∧ ∃ kvs, F p = some (.dT kvs) ∧ RepT g F mu ps kvs))
  | .obj c fs, v => ∃ p C ns dx vs, v = .ref p ∧ g.ci c = some (C, ns) ∧ fs.length ≤ ns.length ∧ F p = some (.ins C dx (ns.zip vs)) ∧ RepL g F mu fs vs
  | .lam _, _ => False
def RepL (g : G) (F : Hp) (mu : List Addr) : List D → List V → Prop
  | [], vs => vs = []
  | d :: ds, vs => ∃ v r, vs = v :: r ∧ RepV g F mu d v ∧ RepL g F mu ds r
def RepP (g : G) (F : Hp) (mu : List Addr) : List (D × D) → List (Key × V) → Prop
  | [], kvs => kvs = []
  | (k, d) :: ps, kvs => ∃ k' v r, kvs = (k', v) :: r ∧ RepK k k' ∧ RepV g F mu d v ∧ RepP g F mu ps r
def RepT (g : G) (F : Hp) (mu : List Addr) : List (D × D) → List (List Key × V) → Prop
  | [], kvs => kvs = []
  | (.tup ks, d) :: ps, kvs => ∃ k' v r, kvs = (k', v) :: r ∧ RepKs ks k' ∧ RepV g F mu d v ∧ RepT g F mu ps r
  | _ :: _, _ => False
end

/-- F's things stay, mu's places stay -/
structure Mono (F : Hp) (mu : List Addr) (F' : Hp) (mu' : List Addr) : Prop where
  fro : ∀ a o, F a = some o → F' a = some o
  mu : ∀ (n : Nat) (a : Addr), mu[n]? = some a → mu'[n]? = some a
theorem Mono.refl (F : Hp) (mu : List Addr) : Mono F mu F mu := ⟨fun _ _ h => h, fun _ _ h => h⟩
theorem Mono.trans {F F1 F2 : Hp} {m m1 m2 : List Addr} (a : Mono F m F1 m1) (b : Mono F1 m1 F2 m2) : Mono F m F2 m2 :=
  ⟨fun c o h => b.fro c o (a.fro c o h), fun n c h => b.mu n c (a.mu n c h)⟩
section
variable {g : G} {F F' : Hp} {mu mu' : List Addr}
mutual
theorem RepV.mono (m : Mono F mu F' mu') : ∀ (d : D) (v : V), RepV g F mu d v → RepV g F' mu' d v
  | .non, _, h => h
  | .bl _, _, h => h
  | .int _, _, h => h
  | .str _, _, h => h
  | .ref n, v, h => by
    simp only [RepV] at h ⊢
    obtain ⟨a, h1, h2⟩ := h
    exact ⟨a, m.mu _ _ h1, h2⟩
  | .tup ds, v, h => by
    simp only [RepV] at h ⊢
    obtain ⟨p, vs, h1, h2, h3⟩ := h
    exact ⟨p, vs, h1, m.fro _ _ h2, RepL.mono m ds vs h3⟩
  | .ktp ds, v, h => by
    simp only [RepV] at h ⊢
    obtain ⟨p, vs, h1, h2, h3⟩ := h
    exact ⟨p, vs, h1, h2, RepL.mono m ds vs h3⟩
  | .lst ds, v, h => by
    simp only [RepV] at h ⊢
    obtain ⟨p, vs, h1, h2, h3⟩ := h
    exact ⟨p, vs, h1, m.fro _ _ h2, RepL.mono m ds vs h3⟩
  | .scr ds, v, h => by
    simp only [RepV] at h ⊢
    obtain ⟨p, vs, h1, h2, h3⟩ := h
    exact ⟨p, vs, h1, h2.imp (fun ⟨od, z⟩ => ⟨od, m.fro _ _ z⟩) (fun z => z.imp (m.fro _ _) fun z => z), RepL.mono m ds vs h3⟩
  | .dct t ps, v, h => by
    simp only [RepV] at h ⊢
    obtain ⟨p, h1, h2⟩ := h
    refine ⟨p, h1, h2.imp (fun ⟨e, kvs, a, b⟩ => ⟨e, kvs, m.fro _ _ a, RepP.mono m ps kvs b⟩) fun ⟨e, kvs, a, b⟩ => ⟨e, kvs, m.fro _ _ a, RepT.mono m ps kvs b⟩⟩
  | .obj c fs, v, h => by
    simp only [RepV] at h ⊢
    obtain ⟨p, C, ns, dx, vs, h1, h2, h3, h4, h5⟩ := h
    exact ⟨p, C, ns, dx, vs, h1, h2, h3, m.fro _ _ h4, RepL.mono m fs vs h5⟩
  | .lam _, _, h => by simp only [RepV] at h
theorem RepL.mono (m : Mono F mu F' mu') : ∀ (ds : List D) (vs : List V), RepL g F mu ds vs → RepL g F' mu' ds vs
  | [], _, h => by simp only [RepL] at h ⊢; exact h
  | d :: ds, vs, h => by
    simp only [RepL] at h ⊢
    obtain ⟨v, r, h1, h2, h3⟩ := h
    exact ⟨v, r, h1, RepV.mono m d v h2, RepL.mono m ds r h3⟩
theorem RepP.mono (m : Mono F mu F' mu') : ∀ (ps : List (D × D)) (kvs : List (Key × V)), RepP g F mu ps kvs → RepP g F' mu' ps kvs
  | [], _, h => by simp only [RepP] at h ⊢; exact h
  | (k, d) :: ps, kvs, h => by
    simp only [RepP] at h ⊢
    obtain ⟨k', v, r, h1, h2, h3, h4⟩ := h
    exact ⟨k', v, r, h1, h2, RepV.mono m d v h3, RepP.mono m ps r h4⟩
theorem RepT.mono (m : Mono F mu F' mu') : ∀ (ps : List (D × D)) (kvs : List (List Key × V)), RepT g F mu ps kvs → RepT g F' mu' ps kvs
  | [], _, h => by simp only [RepT] at h ⊢; exact h
  | (.tup ks, d) :: ps, kvs, h => by
    simp only [RepT] at h ⊢
    obtain ⟨k', v, r, h1, h2, h3, h4⟩ := h
    exact ⟨k', v, r, h1, h2, RepV.mono m d v h3, RepT.mono m ps r h4⟩
  | (.non, _) :: _, _, h => by simp only [RepT] at h
  | (.bl _, _) :: _, _, h => by simp only [RepT] at h
  | (.int _, _) :: _, _, h => by simp only [RepT] at h
  | (.str _, _) :: _, _, h => by simp only [RepT] at h
  | (.ref _, _) :: _, _, h => by simp only [RepT] at h
  | (.lst _, _) :: _, _, h => by simp only [RepT] at h
  | (.dct _ _, _) :: _, _, h => by simp only [RepT] at h
  | (.obj _ _, _) :: _, _, h => by simp only [RepT] at h
  | (.lam _, _) :: _, _, h => by simp only [RepT] at h
  | (.scr _, _) :: _, _, h => by simp only [RepT] at h
  | (.ktp _, _) :: _, _, h => by simp only [RepT] at h
end
end

section
variable {g : G} {F : Hp} {mu : List Addr}
theorem RepL.length : ∀ {ds : List D} {vs : List V}, RepL g F mu ds vs → ds.length = vs.length
  | [], vs, h => by simp only [RepL] at h; rw [h]; rfl
  | d :: ds, vs, h => by
    simp only [RepL] at h
    obtain ⟨v, r, rfl, _, h3⟩ := h
    simp [RepL.length h3]
theorem RepL.get : ∀ {ds : List D} {vs : List V} {i : Nat} {d : D}, RepL g F mu ds vs → ds[i]? = some d → ∃ v, vs[i]? = some v ∧ RepV g F mu d v
  | [], _, i, d, _, e => by simp at e
  | d :: ds, vs, 0, d', h, e => by
    simp only [RepL] at h
    obtain ⟨v, r, rfl, h2, _⟩ := h
    simp at e
    subst e
    exact ⟨v, rfl, h2⟩
  | d :: ds, vs, i + 1, d', h, e => by
    simp only [RepL] at h
    obtain ⟨v, r, rfl, _, h3⟩ := h
    simp at e
    obtain ⟨w, h4, h5⟩ := RepL.get (i := i) h3 e
    exact ⟨w, by simpa using h4, h5⟩
theorem RepL.append : ∀ {ds es : List D} {vs us : List V}, RepL g F mu ds vs → RepL g F mu es us → RepL g F mu (ds ++ es) (vs ++ us)
  | [], _, _, _, h, k => by simp only [RepL] at h; subst h; exact k
  | d :: ds, _, _, _, h, k => by
    simp only [RepL] at h
    obtain ⟨v, r, rfl, h2, h3⟩ := h
    simp only [List.cons_append, RepL]
    exact ⟨v, _, rfl, h2, RepL.append h3 k⟩
theorem RepL.nil : RepL g F mu [] [] := by simp only [RepL]
theorem RepL.cons {d : D} {v : V} {ds : List D} {vs : List V} (h : RepV g F mu d v) (k : RepL g F mu ds vs) : RepL g F mu (d :: ds) (v :: vs) := by
  simp only [RepL]
  exact ⟨v, vs, rfl, h, k⟩
theorem RepL.one {d : D} {v : V} (h : RepV g F mu d v) : RepL g F mu [d] [v] := .cons h .nil
theorem RepL.set : ∀ {ds : List D} {vs : List V} {d : D} {v : V} (j : Nat), RepL g F mu ds vs → RepV g F mu d v → RepL g F mu (ds.set j d) (vs.set j v)
  | [], _, _, _, _, h, _ => by simp only [RepL] at h; subst h; simp [RepL]
  | e :: ds, _, d, v, 0, h, k => by
    simp only [RepL] at h
    obtain ⟨w, r, rfl, _, h3⟩ := h
    simp only [List.set_cons_zero]
    exact .cons k h3
  | e :: ds, _, d, v, j + 1, h, k => by
    simp only [RepL] at h
    obtain ⟨w, r, rfl, h2, h3⟩ := h
    simp only [List.set_cons_succ]
    exact .cons h2 (RepL.set j h3 k)
theorem RepL.take : ∀ {ds : List D} {vs : List V} (n : Nat), RepL g F mu ds vs → RepL g F mu (ds.take n) (vs.take n)
  | _, _, 0, _ => by simp [RepL]
  | [], _, n + 1, h => by simp only [RepL] at h; subst h; simp [RepL]
  | e :: ds, _, n + 1, h => by
    simp only [RepL] at h
    obtain ⟨w, r, rfl, h2, h3⟩ := h
    simp only [List.take_succ_cons]
    exact .cons h2 (RepL.take n h3)
theorem RepL.drop : ∀ {ds : List D} {vs : List V} (n : Nat), RepL g F mu ds vs → RepL g F mu (ds.drop n) (vs.drop n)
  | _, _, 0, h => h
  | [], _, n + 1, h => by simp only [RepL] at h; subst h; simp [RepL]
  | e :: ds, _, n + 1, h => by
    simp only [RepL] at h
    obtain ⟨w, r, rfl, h2, h3⟩ := h
    simp only [List.drop_succ_cons]
    exact RepL.drop n h3
theorem RepL.reverse : ∀ {ds : List D} {vs : List V}, RepL g F mu ds vs → RepL g F mu ds.reverse vs.reverse
  | [], _, h => by simp only [RepL] at h; subst h; simp [RepL]
  | e :: ds, _, h => by
    simp only [RepL] at h
    obtain ⟨w, r, rfl, h2, h3⟩ := h
    simp only [List.reverse_cons]
    exact RepL.append (RepL.reverse h3) (.one h2)
end

/-! ### cells, slots, the whole -/
def CellAt (g : G) (F : Hp) (mu : List Addr) (H : Hp) (a : Addr) : Cell → Prop
  | .lst xs => ∃ vs, H a = some (.lst vs) ∧ RepL g F mu xs vs
  | .dct t ps => (t = 0 ∧ ∃ kvs, H a = some (.dK kvs) ∧ RepP g F mu ps kvs) ∨ (t = 1 ∧ ∃ kvs, H a = some (.dT kvs) ∧ RepT g F mu ps kvs)
  | .ins c fs => ∃ C ns dx vs, g.ci c = some (C, ns) ∧ fs.length ≤ ns.length ∧ H a = some (.ins C dx (ns.zip vs)) ∧ RepL g F mu fs vs
  | .lck t ps => ∃ od, (t = 0 ∧ ∃ kvs, H a = some (.frz od (.dK kvs)) ∧ RepP g F mu ps kvs ∧ F a = some (.frz od (.dK kvs))) ∨ (t = 1 ∧ ∃ kvs, H a = some (.frz od (.dT kvs)) ∧ RepT g F mu ps kvs ∧ F a = some (.frz od (.dT kvs)))
theorem CellAt.mono {g : G} {F F' : Hp} {mu mu' : List Addr} {H : Hp} {a : Addr} (m : Mono F mu F' mu') : ∀ {c : Cell}, CellAt g F mu H a c → CellAt g F' mu' H a c
  | .lst xs, ⟨vs, h1, h2⟩ => ⟨vs, h1, RepL.mono m _ _ h2⟩
  | .dct t ps, h => Or.imp (fun ⟨e, kvs, a, b⟩ => ⟨e, kvs, a, RepP.mono m _ _ b⟩) (fun ⟨e, kvs, a, b⟩ => ⟨e, kvs, a, RepT.mono m _ _ b⟩) h
  | .ins c fs, ⟨C, ns, dx, vs, h1, h2, h3, h4⟩ => ⟨C, ns, dx, vs, h1, h2, h3, RepL.mono m _ _ h4⟩
  | .lck t ps, ⟨od, h⟩ => ⟨od, Or.imp (fun ⟨e, kvs, a, b, c⟩ => ⟨e, kvs, a, RepP.mono m _ _ b, m.fro _ _ c⟩) (fun ⟨e, kvs, a, b, c⟩ => ⟨e, kvs, a, RepT.mono m _ _ b, m.fro _ _ c⟩) h⟩
/-- it stands where H has it -/
theorem CellAt.there {g : G} {F : Hp} {mu : List Addr} {H : Hp} {a : Addr} : ∀ {c : Cell}, CellAt g F mu H a c → ∃ o, H a = some o ∧ (∀ ps, o ≠ .tbl ps) ∧ ∀ f, o ≠ .ext f
  | .lst xs, ⟨vs, h1, h2⟩ => ⟨_, h1, fun _ z => (by cases z), fun _ z => (by cases z)⟩
  | .dct t ps, h => by
    rcases h with ⟨_, kvs, h, _⟩ | ⟨_, kvs, h, _⟩
    · exact ⟨_, h, fun _ z => (by cases z), fun _ z => (by cases z)⟩
    · exact ⟨_, h, fun _ z => (by cases z), fun _ z => (by cases z)⟩
  | .ins c fs, ⟨C, ns, dx, vs, h1, h2, h3, h4⟩ => ⟨_, h3, fun _ z => (by cases z), fun _ z => (by cases z)⟩
  | .lck t ps, ⟨od, h⟩ => by
    rcases h with ⟨_, kvs, h, _⟩ | ⟨_, kvs, h, _⟩
    · exact ⟨_, h, fun _ z => (by cases z), fun _ z => (by cases z)⟩
    · exact ⟨_, h, fun _ z => (by cases z), fun _ z => (by cases z)⟩
theorem CellAt.at {g : G} {F : Hp} {mu : List Addr} {H H' : Hp} {a : Addr} (e : H' a = H a) : ∀ {c : Cell}, CellAt g F mu H a c → CellAt g F mu H' a c
  | .lst xs, ⟨vs, h1, h2⟩ => ⟨vs, e.trans h1, h2⟩
  | .dct t ps, h => Or.imp (fun ⟨z, kvs, a, b⟩ => ⟨z, kvs, e.trans a, b⟩) (fun ⟨z, kvs, a, b⟩ => ⟨z, kvs, e.trans a, b⟩) h
  | .ins c fs, ⟨C, ns, dx, vs, h1, h2, h3, h4⟩ => ⟨C, ns, dx, vs, h1, h2, e.trans h3, h4⟩
  | .lck t ps, ⟨od, h⟩ => ⟨od, Or.imp (fun ⟨z, kvs, a, b⟩ => ⟨z, kvs, e.trans a, b⟩) (fun ⟨z, kvs, a, b⟩ => ⟨z, kvs, e.trans a, b⟩) h⟩

/-- H has what F has -/
def Held (H : Hp) (a : Addr) (o : HO) : Prop := H a = some o ∨ (False ∧ ∃ od, H a = some (.frz od o))
structure RH (g : G) (H F : Hp) (mu : List Addr) (st : Mir.St) : Prop where
  fro : ∀ a o, F a = some o → Held H a o
  len : mu.length = st.length
  nd : mu.Nodup
  cel : ∀ (n : Nat) (c : Cell), st[n]? = some c → ∃ a, mu[n]? = some a ∧ (c.isLck = false → F a = none) ∧ CellAt g F mu H a c
  tab : LamX.Tabs g.tb H
  ntb : ∀ a ps, F a ≠ some (.tbl ps)

def SlotAt (g : G) (F : Hp) (mu : List Addr) (H : Hp) : Slot → Option V → Prop
  | .no, _ => True
  | .val d, o => ∃ v, o = some v ∧ RepV g F mu d v
  | .own c, o => ∃ a, o = some (.ref a) ∧ F a = none ∧ a ∉ mu ∧ CellAt g F mu H a c
structure RE (g : G) (s : L2.St) (H F : Hp) (mu : List Addr) (r : Env) (st : Mir.St) : Prop where
  h : RH g H F mu st
  len : s.length = r.length
  slot : ∀ (i : Nat) (x : Slot), r[i]? = some x → ∃ o, s[i]? = some o ∧ SlotAt g F mu H x o
  own : ∀ (i j : Nat) (c c' : Cell) (a b : Addr), r[i]? = some (.own c) → r[j]? = some (.own c') → s[i]? = some (some (.ref a)) → s[j]? = some (some (.ref b)) → i ≠ j → a ≠ b

/-- nothing stands there, or a table of code objects -/
def Nw (H : Hp) (a : Addr) : Prop := ∀ o, H a = some o → ∃ ps, o = .tbl ps
theorem Nw.of {H : Hp} {a : Addr} (h : H a = none) : Nw H a := fun o e => by rw [h] at e; cases e
theorem Nw.no {H : Hp} {a : Addr} {o : HO} (n : Nw H a) (h : H a = some o) (k : ∀ ps, o ≠ .tbl ps) : False := by
  obtain ⟨ps, e⟩ := n o h
  exact k ps e
theorem Nw.up {H : Hp} {a p : Addr} {o : HO} (hp : Nw H p) (h : Nw (upd H p o) a) : Nw H a := by
  by_cases q : a = p
  · exact q ▸ hp
  · exact fun u e => h u (by rw [upd_ne q]; exact e)
theorem Nw.put {H : Hp} {a p : Addr} {o : HO} (k : ∀ ps, o ≠ .tbl ps) (h : Nw (upd H p o) a) : Nw H a := by
  by_cases q : a = p
  · subst q
    exact (h.no upd_same k).elim
  · exact fun u e => h u (by rw [upd_ne q]; exact e)
/-- what an expression may do: new things, changed cells -/
structure Ext (H F : Hp) (mu : List Addr) (H' F' : Hp) (mu' : List Addr) : Prop where
  mo : Mono F mu F' mu'
  keep : ∀ a o, H a = some o → a ∉ mu → (∀ ps, o ≠ .tbl ps) → H' a = some o
  dom : ∀ a, Nw H' a → Nw H a
  frF : ∀ a o, F' a = some o → F a = some o ∨ Nw H a ∨ a ∈ mu
  frM : ∀ a, a ∈ mu' → a ∈ mu ∨ Nw H a
theorem Ext.refl (H F : Hp) (mu : List Addr) : Ext H F mu H F mu := ⟨.refl _ _, fun _ _ h _ _ => h, fun _ h => h, fun _ _ h => .inl h, fun _ h => .inl h⟩
theorem Ext.trans {H F H1 F1 H2 F2 : Hp} {m m1 m2 : List Addr} (a : Ext H F m H1 F1 m1) (b : Ext H1 F1 m1 H2 F2 m2) : Ext H F m H2 F2 m2 where
  mo := a.mo.trans b.mo
  keep := fun c o h hm hn => b.keep c o (a.keep c o h hm hn) (fun z => by
    rcases a.frM c z with q | q
    · exact hm q
    · exact q.no h hn) hn
  dom := fun c h => a.dom c (b.dom c h)
  frF := fun c o h => by
    rcases b.frF c o h with q | q | q
    · exact a.frF c o q
    · exact .inr (.inl (a.dom c q))
    · rcases a.frM c q with z | z
      · exact .inr (.inr z)
      · exact .inr (.inl z)
  frM := fun c h => by
    rcases b.frM c h with q | q
    · exact a.frM c q
    · exact .inr (a.dom c q)

section
variable {g : G} {H F H' F' : Hp} {mu mu' : List Addr} {st st' : Mir.St} {s : L2.St} {r : Env}
theorem RE.step (x : RE g s H F mu r st) (e : Ext H F mu H' F' mu') (h' : RH g H' F' mu' st') : RE g s H' F' mu' r st' := by
  refine ⟨h', x.len, fun i y hy => ?_, x.own⟩
  obtain ⟨o, h1, h2⟩ := x.slot i y hy
  refine ⟨o, h1, ?_⟩
  cases y with
  | no => trivial
  | val d =>
    obtain ⟨v, e1, e2⟩ := h2
    exact ⟨v, e1, RepV.mono e.mo _ _ e2⟩
  | own c =>
    obtain ⟨a, e1, e2, e3, e4⟩ := h2
    obtain ⟨o', q1, q2, _⟩ := e4.there
    refine ⟨a, e1, ?_, ?_, ?_⟩
    · cases q : F' a with
      | none => rfl
      | some z =>
        rcases e.frF a z q with y | y | y
        · rw [e2] at y; cases y
        · exact (y.no q1 q2).elim
        · exact absurd y e3
    · intro z
      rcases e.frM a z with y | y
      · exact e3 y
      · exact (y.no q1 q2).elim
    · refine (CellAt.at ?_ e4).mono e.mo
      rw [q1]
      exact e.keep a o' q1 e3 q2
end

/-- an operand's value: data, or a thing of its own that is just read -/
def RepX (g : G) (H F : Hp) (mu : List Addr) : Opd → V → Prop
  | .val d, v => RepV g F mu d v
  | .bor c, v => ∃ a, v = .ref a ∧ F a = none ∧ a ∉ mu ∧ CellAt g F mu H a c
theorem RepX.ext {g : G} {H F H' F' : Hp} {mu mu' : List Addr} {v : V} (e : Ext H F mu H' F' mu') : ∀ {o : Opd}, RepX g H F mu o v → RepX g H' F' mu' o v
  | .val d, h => RepV.mono e.mo d v h
  | .bor c, ⟨a, h1, h2, h3, h4⟩ => by
    obtain ⟨o', q1, q2, _⟩ := h4.there
    refine ⟨a, h1, ?_, ?_, (CellAt.at ?_ h4).mono e.mo⟩
    · cases q : F' a with
      | none => rfl
      | some z =>
        rcases e.frF a z q with y | y | y
        · rw [h2] at y; cases y
        · exact (y.no q1 q2).elim
        · exact absurd y h3
    · intro z
      rcases e.frM a z with y | y
      · exact h3 y
      · exact (y.no q1 q2).elim
    · rw [q1]
      exact e.keep a o' q1 h3 q2
def RepXs (g : G) (H F : Hp) (mu : List Addr) : List Opd → List V → Prop
  | [], vs => vs = []
  | o :: os, vs => ∃ v r, vs = v :: r ∧ RepX g H F mu o v ∧ RepXs g H F mu os r
theorem RepXs.ext {g : G} {H F H' F' : Hp} {mu mu' : List Addr} (e : Ext H F mu H' F' mu') : ∀ {os : List Opd} {vs : List V}, RepXs g H F mu os vs → RepXs g H' F' mu' os vs
  | [], _, h => h
  | o :: os, vs, ⟨v, r, h1, h2, h3⟩ => ⟨v, r, h1, h2.ext e, h3.ext e⟩
theorem RepXs.vals {g : G} {H F : Hp} {mu : List Addr} : ∀ {os : List Opd} {vs : List V} {ds : List D}, RepXs g H F mu os vs → valsOf os = some ds → RepL g F mu ds vs
  | [], _, _, h, e => by
    cases e
    have h : _ = ([] : List V) := h
    subst h
    exact .nil
  | .val d :: os, vs, ds, ⟨v, r, h1, h2, h3⟩, e => by
    simp only [valsOf, Option.map_eq_some_iff] at e
    obtain ⟨ds', e1, rfl⟩ := e
    subst h1
    exact .cons h2 (h3.vals e1)
  | .bor _ :: _, _, _, _, e => by simp [valsOf] at e

section
variable {g : G} {H F : Hp} {mu : List Addr} {st : Mir.St} {a : Addr}
theorem RH.lst (x : RH g H F mu st) {vs : List V} (h : F a = some (.lst vs)) : H a = some (.lst vs) := by
  rcases x.fro a _ h with q | ⟨⟨⟩, _⟩
  exact q
theorem RH.tup (x : RH g H F mu st) {vs : List V} (h : F a = some (.tup vs)) : H a = some (.tup vs) := by
  rcases x.fro a _ h with q | ⟨⟨⟩, _⟩
  exact q
theorem RH.ins (x : RH g H F mu st) {C dx : Addr} {fs : List (Str × V)} (h : F a = some (.ins C dx fs)) : H a = some (.ins C dx fs) := by
  rcases x.fro a _ h with q | ⟨⟨⟩, _⟩
  exact q
theorem RH.frz (x : RH g H F mu st) {od : Obj} {u : HO} (h : F a = some (.frz od u)) : H a = some (.frz od u) := by
  rcases x.fro a _ h with q | ⟨⟨⟩, _⟩
  exact q
theorem RH.seqT (x : RH g H F mu st) {vs : List V} (h : F a = some (.tup vs)) : SqT g.K H a vs := SqT.of (x.tup h)
theorem RH.dK (x : RH g H F mu st) {kvs : List (Key × V)} (h : F a = some (.dK kvs)) : Rd H a (.dK kvs) := by
  rcases x.fro a _ h with q | ⟨_, od, q⟩
  · exact .inl q
  · exact .inr ⟨od, q⟩
theorem RH.dT (x : RH g H F mu st) {kvs : List (List Key × V)} (h : F a = some (.dT kvs)) : Rd H a (.dT kvs) := by
  rcases x.fro a _ h with q | ⟨_, od, q⟩
  · exact .inl q
  · exact .inr ⟨od, q⟩
end

/-! ### the readings -/
/-- an error of the kind e leaves -/
def XQ (g : G) (E : XK) (e : Nat) (H : Hp) : Prop := ∃ C, g.ex e = some C ∧ E (.ref C) none H
def OutQ {α β : Type} (g : G) (s : L2.St) (H F : Hp) (mu : List Addr) (r : Env) (rep : Hp → Hp → List Addr → α → β → Prop) (E : XK) (Q : β → Hp → Prop) : Out α → Prop
  | .ok x st' => ∀ v H' F' mu', Ext H F mu H' F' mu' → RE g s H' F' mu' r st' → rep H' F' mu' x v → Q v H'
  | .exc e st' => ∀ H' F' mu', Ext H F mu H' F' mu' → RE g s H' F' mu' r st' → XQ g E e H'
  | .bad => False
def rdE (g : G) (E : XK) (m : EM) : TE := fun s H Q => ∃ r st F mu, RE g s H F mu r st ∧ OutQ g s H F mu r (fun H' F' mu' x v => RepX g H' F' mu' x v) E Q (m r st)
def rdA (g : G) (E : XK) (m : AM) : TA := fun s H Q => ∃ r st F mu, RE g s H F mu r st ∧ OutQ g s H F mu r (fun H' F' mu' x v => RepXs g H' F' mu' x v) E Q (m r st)
def rdT (g : G) (E : XK) (m : TM) : TT := fun s H Q => ∃ r st F mu, RE g s H F mu r st ∧ OutQ g s H F mu r (fun _ _ _ x v => x = v) E Q (m r st)
/-- a new thing -/
def rdN (g : G) (E : XK) (m : NM) : TE := fun s H Q => ∃ r st F mu, RE g s H F mu r st ∧ OutQ g s H F mu r (fun H' F' mu' c v => ∃ a, v = .ref a ∧ F' a = none ∧ a ∉ mu' ∧ Nw H a ∧ CellAt g F' mu' H' a c) E Q (m r st)

theorem OutQ.bind {α β γ δ : Type} {g : G} {s : L2.St} {H F : Hp} {mu : List Addr} {r : Env} {rep : Hp → Hp → List Addr → α → β → Prop} {rep' : Hp → Hp → List Addr → γ → δ → Prop} {E : XK} {Q : β → Hp → Prop} {Q' : δ → Hp → Prop} {o : Out α} {k : α → Mir.St → Out γ}
    (h : OutQ g s H F mu r rep' E Q' (o.bind k))
    (hk : ∀ x st' v H' F' mu', o = .ok x st' → Ext H F mu H' F' mu' → RE g s H' F' mu' r st' → rep H' F' mu' x v → OutQ g s H F mu r rep' E Q' (k x st') → Q v H') : OutQ g s H F mu r rep E Q o := by
  cases o with
  | ok x st' => exact fun v H' F' mu' e re rp => hk x st' v H' F' mu' rfl e re rp h
  | exc e st' => exact h
  | bad => exact h
/-- seen from further on -/
theorem OutQ.ext {α β : Type} {g : G} {s : L2.St} {H F H1 F1 : Hp} {mu mu1 : List Addr} {r : Env} {rep : Hp → Hp → List Addr → α → β → Prop} {E : XK} {Q : β → Hp → Prop} (e : Ext H F mu H1 F1 mu1) : ∀ {o : Out α}, OutQ g s H F mu r rep E Q o → OutQ g s H1 F1 mu1 r rep E Q o
  | .ok x st', h => fun v H' F' mu' e' re rp => h v H' F' mu' (e.trans e') re rp
  | .exc x st', h => fun H' F' mu' e' re => h H' F' mu' (e.trans e') re
  | .bad, h => h
theorem PE.imp {X : Cx} {e : Expr} {t t' : TE} (h : PE X e t) (k : ∀ s H Q, t' s H Q → t s H Q) : PE X e t' := ⟨fun pins s σ H Q I q => h.run pins s σ H Q I (k σ H Q q)⟩
theorem PT.imp {X : Cx} {e : Expr} {t t' : TT} (h : PT X e t) (k : ∀ s H Q, t' s H Q → t s H Q) : PT X e t' := ⟨fun pins s σ H Q I q => h.run pins s σ H Q I (k σ H Q q)⟩
theorem PA.imp {X : Cx} {e : List Expr} {t t' : TA} (h : PA X e t) (k : ∀ s H Q, t' s H Q → t s H Q) : PA X e t' := ⟨fun p pins s σ H Q I q => h.run p pins s σ H Q I (k σ H Q q)⟩
theorem PS.imp {X : Cx} {e : Stmt} {t t' : TS} (h : PS X e t) (k : ∀ D s H, t' D s H → t D s H) : PS X e t' := ⟨fun pins s σ H Q I q => h.run pins s σ H Q I (k Q σ H q)⟩
theorem PSs.imp {X : Cx} {e : List Stmt} {t t' : TS} (h : PSs X e t) (k : ∀ D s H, t' D s H → t D s H) : PSs X e t' := ⟨fun pins s σ H Q I q => h.run pins s σ H Q I (k Q σ H q)⟩
end Mir
/-! E3: the core rules: names, operators, tests, calls, statements, loops. -/
namespace Mir
open PySem PySem.Spec PyProof.Rows L2
section
variable {X : Cx} {g : G} {E : XK} {pos : Pos}

/-! ### names, constants -/
theorem dV (i : Nat) {x : Str} (hN : X.N[i]? = some x := by rfl) (hv : Vis X.env.scope x := by first | exact Or.inl rfl | exact Or.inr (Or.inl rfl) | exact Or.inr (Or.inr rfl)) (hd : (x == ("__debug__" : Str)) = false := by decide)
    (hcd : (x == ("__classdict__" : Str)) = false := by decide) : PE X (.Name x pos) (rdE g E (eV i)) := by
  refine PE.imp (pe_var hN hv hd hcd) fun s H Q h => ?_
  obtain ⟨r, st, F, mu, re, h⟩ := h
  unfold eV at h
  cases hr : r[i]? with
  | none => rw [hr] at h; exact h.elim
  | some y =>
    rw [hr] at h
    obtain ⟨o, h1, h2⟩ := re.slot i y hr
    cases y with
    | no => exact h.elim
    | val d =>
      obtain ⟨v, rfl, rv⟩ := h2
      exact ⟨v, h1, h v H F mu (.refl _ _ _) re rv⟩
    | own c =>
      obtain ⟨a, rfl, e1, e2, e3⟩ := h2
      exact ⟨.ref a, h1, h (.ref a) H F mu (.refl _ _ _) re ⟨a, rfl, e1, e2, e3⟩⟩
/-- whose value is the data d, wherever -/
theorem dConst {e : Expr} {v : V} {d : D} (h : PE X e (tC v)) (hd : ∀ F mu, RepV g F mu d v) : PE X e (rdE g E (eC d)) := by
  refine PE.imp h fun s H Q k => ?_
  obtain ⟨r, st, F, mu, re, k⟩ := k
  exact k v H F mu (.refl _ _ _) re (hd F mu)
theorem dInt {i j} : PE X (.Constant (.int i) j pos) (rdE g E (eC (.int i))) := dConst pe_int fun _ _ => by simp only [RepV]
theorem dBl {b j} : PE X (.Constant (.bool b) j pos) (rdE g E (eC (.bl b))) := dConst pe_bl fun _ _ => by simp only [RepV]
theorem dNon {j} : PE X (.Constant .none j pos) (rdE g E (eC .non)) := dConst pe_non fun _ _ => by simp only [RepV]
theorem dStr {x : Str} {j} (t : Tx) (h : x = toS t := by decide +kernel) : PE X (.Constant (.str x) j pos) (rdE g E (eC (.str t))) := dConst pe_str fun _ _ => by simp only [RepV]; rw [h]
/-- a constant of the module -/
theorem dGlob {x : Str} {v : V} {u : Value} {d : D} (hg : Gl X x) (hm : X.mg x = some u) (rr : RelV v u) (hd : ∀ F mu, RepV g F mu d v) (hdb : (x == ("__debug__" : Str)) = false := by decide) : PE X (.Name x pos) (rdE g E (eC d)) := dConst (pe_glob hg hm rr hdb) hd

/-! ### operations on values -/
/-- what a rule asks of values follows from the operation on data -/
def OpS (g : G) (rr : R2) (f : Op2) : Prop := ∀ (H F : Hp) (mu : List Addr) (st : Mir.St) (x y : Opd) (vx vy : V) (d : D) (Q : VK), RH g H F mu st → RepX g H F mu x vx → RepX g H F mu y vy → f st x y = some d →
  (∀ v H' F', RH g H' F' mu st → Ext H F mu H' F' mu → RepV g F' mu d v → Q v H') → rr vx vy H Q
def OpS1 (g : G) (rr : V → Hp → VK → Prop) (f : Op1) : Prop := ∀ (H F : Hp) (mu : List Addr) (st : Mir.St) (x : Opd) (vx : V) (d : D) (Q : VK), RH g H F mu st → RepX g H F mu x vx → f st x = some d →
  (∀ v H' F', RH g H' F' mu st → Ext H F mu H' F' mu → RepV g F' mu d v → Q v H') → rr vx H Q
def OpSN (g : G) (rr : List V → Hp → VK → Prop) (f : OpN) : Prop := ∀ (H F : Hp) (mu : List Addr) (st : Mir.St) (xs : List Opd) (vs : List V) (d : D) (Q : VK), RH g H F mu st → RepXs g H F mu xs vs → f st xs = some d →
  (∀ v H' F', RH g H' F' mu st → Ext H F mu H' F' mu → RepV g F' mu d v → Q v H') → rr vs H Q
/-- a result without parts -/
theorem OpS.flat {rr : R2} {f : Op2} (h : ∀ (H F : Hp) (mu : List Addr) (st : Mir.St) (x y : Opd) (vx vy : V) (d : D) (Q : VK), RH g H F mu st → RepX g H F mu x vx → RepX g H F mu y vy → f st x y = some d → (∀ v, RepV g F mu d v → Q v H) → rr vx vy H Q) : OpS g rr f :=
  fun H F mu st x y vx vy d Q rh rx ry e q => h H F mu st x y vx vy d Q rh rx ry e fun v rv => q v H F rh (.refl _ _ _) rv
theorem OpS1.flat {rr : V → Hp → VK → Prop} {f : Op1} (h : ∀ (H F : Hp) (mu : List Addr) (st : Mir.St) (x : Opd) (vx : V) (d : D) (Q : VK), RH g H F mu st → RepX g H F mu x vx → f st x = some d → (∀ v, RepV g F mu d v → Q v H) → rr vx H Q) : OpS1 g rr f :=
  fun H F mu st x vx d Q rh rx e q => h H F mu st x vx d Q rh rx e fun v rv => q v H F rh (.refl _ _ _) rv
theorem OpSN.flat {rr : List V → Hp → VK → Prop} {f : OpN} (h : ∀ (H F : Hp) (mu : List Addr) (st : Mir.St) (xs : List Opd) (vs : List V) (d : D) (Q : VK), RH g H F mu st → RepXs g H F mu xs vs → f st xs = some d → (∀ v, RepV g F mu d v → Q v H) → rr vs H Q) : OpSN g rr f :=
  fun H F mu st xs vs d Q rh rx e q => h H F mu st xs vs d Q rh rx e fun v rv => q v H F rh (.refl _ _ _) rv

section
variable {a b c e : Expr} {ma mb mc : EM} {es : List Expr} {mas : AM}
theorem rd2 {rr : R2} {f : Op2} {ta tb : TE} (hs : OpS g rr f) (ha : ∀ s H Q, rdE g E ma s H Q → ta s H Q) (hb : ∀ s H Q, rdE g E mb s H Q → tb s H Q) : ∀ s H Q, rdE g E (eOp2 f ma mb) s H Q → tOp rr ta tb s H Q := by
  intro s H Q h
  obtain ⟨r, st, F, mu, re, h⟩ := h
  refine ha _ _ _ ⟨r, st, F, mu, re, OutQ.bind h fun x st1 vx H1 F1 mu1 _ e1 re1 rx h1 => ?_⟩
  refine hb _ _ _ ⟨r, st1, F1, mu1, re1, OutQ.bind (h1.ext e1) fun y st2 vy H2 F2 mu2 _ e2 re2 ry h2 => ?_⟩
  cases hf : f st2 x y with
  | none => rw [hf] at h2; exact h2.elim
  | some d =>
    rw [hf] at h2
    exact hs H2 F2 mu2 st2 x y vx vy d Q re2.h (rx.ext e2) ry hf fun v H' F' rh' e' rv => h2 v H' F' mu2 (e2.trans e') (re2.step e' rh') rv
theorem dOp {op : Operator} {rr : R2} {f : Op2} (ho : OpR X (binaryOp op) rr) (hs : OpS g rr f) (ha : PE X a (rdE g E ma)) (hb : PE X b (rdE g E mb)) : PE X (.BinOp a op b pos) (rdE g E (eOp2 f ma mb)) :=
  PE.imp (pe_op ho ha hb) (rd2 hs (fun _ _ _ h => h) fun _ _ _ h => h)
theorem dCmp {op : CmpOp} {rr : R2} {f : Op2} (ho : OpR X (compareOp op) rr) (hs : OpS g rr f) (ha : PE X a (rdE g E ma)) (hb : PE X b (rdE g E mb)) (hm : behindInMarks op b = false := by first | exact nomark _ | rfl) : PE X (.Compare a [op] [b] pos) (rdE g E (eOp2 f ma mb)) :=
  PE.imp (pe_cmpR ho ha hb hm) (rd2 hs (fun _ _ _ h => h) fun _ _ _ h => h)
theorem dUn {op : UnaryOp} {rr : V → Hp → VK → Prop} {f : Op1} (ho : UnR X (unaryOp op) rr) (hs : OpS1 g rr f) (ha : PE X a (rdE g E ma)) : PE X (.UnaryOp op a pos) (rdE g E (eOp1 f ma)) := by
  refine PE.imp (pe_un ho ha) fun s H Q h => ?_
  obtain ⟨r, st, F, mu, re, h⟩ := h
  refine ⟨r, st, F, mu, re, OutQ.bind h fun x st1 vx H1 F1 mu1 _ e1 re1 rx h1 => ?_⟩
  cases hf : f st1 x with
  | none => rw [hf] at h1; exact h1.elim
  | some d =>
    rw [hf] at h1
    exact hs H1 F1 mu1 st1 x vx d Q re1.h rx hf fun v H' F' rh' e' rv => h1 v H' F' mu1 (e1.trans e') (re1.step e' rh') rv
/-- a OP b OP' c; the two answers are bools without parts -/
theorem rdChain {rr rr' : R2} {f f' : Op2} (hs : OpS g rr f) (hs' : OpS g rr' f') : ∀ s H Q, rdE g E (eChain f f' ma mb mc) s H Q → tChain rr rr' (rdE g E ma) (rdE g E mb) (rdE g E mc) s H Q := by
  intro s H Q h
  obtain ⟨r, st, F, mu, re, h⟩ := h
  refine ⟨r, st, F, mu, re, OutQ.bind h fun x st1 vx H1 F1 mu1 _ e1 re1 rx h1 => ?_⟩
  refine ⟨r, st1, F1, mu1, re1, OutQ.bind (h1.ext e1) fun y st2 vy H2 F2 mu2 _ e2 re2 ry h2 => ?_⟩
  cases hf : f st2 x y with
  | none => rw [hf] at h2; exact h2.elim
  | some d =>
    rw [hf] at h2
    refine hs H2 F2 mu2 st2 x y vx vy d _ re2.h (rx.ext e2) ry hf fun v H' F' rh' e' rv => ?_
    cases d with
    | bl k =>
      simp only [RepV] at rv
      subst rv
      refine ⟨k, rfl, ?_⟩
      cases k with
      | true =>
        rw [if_pos rfl]
        refine ⟨r, st2, F', mu2, re2.step e' rh', OutQ.bind (h2.ext (e2.trans e')) fun z st3 vz H3 F3 mu3 _ e3 re3 rz h3 => ?_⟩
        cases hf' : f' st3 y z with
        | none => rw [hf'] at h3; exact h3.elim
        | some d' =>
          rw [hf'] at h3
          exact hs' H3 F3 mu3 st3 y z vy vz d' Q re3.h ((ry.ext e').ext e3) rz hf' fun v H4 F4 rh4 e4 rv4 => h3 v H4 F4 mu3 (e3.trans e4) (re3.step e4 rh4) rv4
      | false =>
        rw [if_neg Bool.false_ne_true]
        exact h2 (.bl false) H' F' mu2 (e2.trans e') (re2.step e' rh') (by show RepV g F' mu2 (.bl false) _; simp only [RepV])
    | _ => exact h2.elim
theorem dChain {op op' : CmpOp} {rr rr' : R2} {f f' : Op2} (ho : OpR X (compareOp op) rr) (hs : OpS g rr f) (ho' : OpR X (compareOp op') rr') (hs' : OpS g rr' f') (ha : PE X a (rdE g E ma)) (hb : PE X b (rdE g E mb)) (hc : PE X c (rdE g E mc)) (he : PE X (.Compare a [op, op'] [b, c] pos) (tChain rr rr' (rdE g E ma) (rdE g E mb) (rdE g E mc)) := by first | exact pe_chain ho ho' ha hb hc | exact pe_chain (by assumption) (by assumption) (by assumption) (by assumption) (by assumption)) :
    PE X (.Compare a [op, op'] [b, c] pos) (rdE g E (eChain f f' ma mb mc)) := PE.imp he (rdChain hs hs')

/-! ### and, or, not, if as values -/
theorem dOne {op : BoolOp} (ha : PE X a (rdE g E ma)) : PE X (.BoolOp op [a] pos) (rdE g E ma) := pe_one ha
theorem dAnd {rest : List Expr} (ha : PE X a (rdE g E ma)) (hb : PE X (.BoolOp .And (b :: rest) pos) (rdE g E mb)) : PE X (.BoolOp .And (a :: b :: rest) pos) (rdE g E (eAnd ma mb)) := by
  refine PE.imp (pe_and ha hb) fun s H Q h => ?_
  obtain ⟨r, st, F, mu, re, h⟩ := h
  refine ⟨r, st, F, mu, re, OutQ.bind h fun x st1 vx H1 F1 mu1 _ e1 re1 rx h1 => ?_⟩
  cases x with
  | bor c => exact h1.elim
  | val d =>
    cases d with
    | bl k =>
      simp only [RepX, RepV] at rx
      subst rx
      refine ⟨k, rfl, ?_⟩
      cases k with
      | true => rw [if_pos rfl]; exact ⟨r, st1, F1, mu1, re1, h1.ext e1⟩
      | false => rw [if_neg Bool.false_ne_true]; exact h1 _ H1 F1 mu1 e1 re1 (by simp only [RepX, RepV])
    | _ => exact h1.elim
theorem dOr {rest : List Expr} (ha : PE X a (rdE g E ma)) (hb : PE X (.BoolOp .Or (b :: rest) pos) (rdE g E mb)) : PE X (.BoolOp .Or (a :: b :: rest) pos) (rdE g E (eOr ma mb)) := by
  refine PE.imp (pe_or ha hb) fun s H Q h => ?_
  obtain ⟨r, st, F, mu, re, h⟩ := h
  refine ⟨r, st, F, mu, re, OutQ.bind h fun x st1 vx H1 F1 mu1 _ e1 re1 rx h1 => ?_⟩
  cases x with
  | bor c => exact h1.elim
  | val d =>
    cases d with
    | bl k =>
      simp only [RepX, RepV] at rx
      subst rx
      refine ⟨k, rfl, ?_⟩
      cases k with
      | false => rw [if_neg Bool.false_ne_true]; exact ⟨r, st1, F1, mu1, re1, h1.ext e1⟩
      | true => rw [if_pos rfl]; exact h1 _ H1 F1 mu1 e1 re1 (by simp only [RepX, RepV])
    | _ => exact h1.elim
theorem dNot (ha : PE X a (rdE g E ma)) : PE X (.UnaryOp .Not a pos) (rdE g E (eNot ma)) := by
  refine PE.imp (pe_not ha) fun s H Q h => ?_
  obtain ⟨r, st, F, mu, re, h⟩ := h
  refine ⟨r, st, F, mu, re, OutQ.bind h fun x st1 vx H1 F1 mu1 _ e1 re1 rx h1 => ?_⟩
  cases x with
  | bor c => exact h1.elim
  | val d =>
    cases d with
    | bl k =>
      simp only [RepX, RepV] at rx
      subst rx
      exact ⟨k, rfl, h1 _ H1 F1 mu1 e1 re1 (by simp only [RepX, RepV])⟩
    | _ => exact h1.elim
theorem dIf {t : Expr} {mt : TM} (ht : PT X t (rdT g E mt)) (ha : PE X a (rdE g E ma)) (hb : PE X b (rdE g E mb)) : PE X (.IfExp t a b pos) (rdE g E (eIf mt ma mb)) := by
  refine PE.imp (pe_ifExp ht ha hb) fun s H Q h => ?_
  obtain ⟨r, st, F, mu, re, h⟩ := h
  refine ⟨r, st, F, mu, re, OutQ.bind h fun x st1 vx H1 F1 mu1 _ e1 re1 rx h1 => ?_⟩
  subst rx
  cases x with
  | true => rw [if_pos rfl] at h1 ⊢; exact ⟨r, st1, F1, mu1, re1, h1.ext e1⟩
  | false => rw [if_neg Bool.false_ne_true] at h1 ⊢; exact ⟨r, st1, F1, mu1, re1, h1.ext e1⟩

/-! ### tests -/
theorem dT (ha : PE X a (rdE g E ma)) (he : ∀ whole, isTrue a X.env whole = (do let v ← whole; standAt a.pos; holding [v] (truthy v)) := by intro _; rfl) : PT X a (rdT g E (tE ma)) := by
  refine PT.imp (pt_val ha he) fun s H Q h => ?_
  obtain ⟨r, st, F, mu, re, h⟩ := h
  refine ⟨r, st, F, mu, re, OutQ.bind h fun x st1 vx H1 F1 mu1 _ e1 re1 rx h1 => ?_⟩
  cases x with
  | bor c => exact h1.elim
  | val d =>
    cases d with
    | bl k =>
      simp only [RepX, RepV] at rx
      subst rx
      exact ⟨k, rfl, h1 k H1 F1 mu1 e1 re1 rfl⟩
    | _ => exact h1.elim
/-- a comparison as a test -/
theorem dTc {op : CmpOp} {rr : R2} {f : Op2} (ho : OpR X (compareOp op) rr) (hs : OpS g rr f) (ha : PE X a (rdE g E ma)) (hb : PE X b (rdE g E mb)) (hm : behindInMarks op b = false := by first | exact nomark _ | rfl) : PT X (.Compare a [op] [b] pos) (rdT g E (tE (eOp2 f ma mb))) := by
  refine PT.imp (pt_cmpR ho ha hb hm) fun s H Q h => ?_
  obtain ⟨r, st, F, mu, re, h⟩ := h
  refine rd2 hs (fun _ _ _ h => h) (fun _ _ _ h => h) s H _ ⟨r, st, F, mu, re, OutQ.bind h fun x st1 vx H1 F1 mu1 _ e1 re1 rx h1 => ?_⟩
  cases x with
  | bor c => exact h1.elim
  | val d =>
    cases d with
    | bl k =>
      simp only [RepX, RepV] at rx
      subst rx
      exact ⟨k, rfl, h1 k H1 F1 mu1 e1 re1 rfl⟩
    | _ => exact h1.elim
theorem dTchain {op op' : CmpOp} {rr rr' : R2} {f f' : Op2} (ho : OpR X (compareOp op) rr) (hs : OpS g rr f) (ho' : OpR X (compareOp op') rr') (hs' : OpS g rr' f') (ha : PE X a (rdE g E ma)) (hb : PE X b (rdE g E mb)) (hc : PE X c (rdE g E mc))
    (he : PT X (.Compare a [op, op'] [b, c] pos) (tTest (tChain rr rr' (rdE g E ma) (rdE g E mb) (rdE g E mc))) := by first | exact pt_chain ho ho' ha hb hc | exact pt_chain (by assumption) (by assumption) (by assumption) (by assumption) (by assumption)) :
    PT X (.Compare a [op, op'] [b, c] pos) (rdT g E (tE (eChain f f' ma mb mc))) := by
  refine PT.imp he fun s H Q h => ?_
  obtain ⟨r, st, F, mu, re, h⟩ := h
  refine rdChain hs hs' s H _ ⟨r, st, F, mu, re, OutQ.bind h fun x st1 vx H1 F1 mu1 _ e1 re1 rx h1 => ?_⟩
  cases x with
  | bor c => exact h1.elim
  | val d =>
    cases d with
    | bl k =>
      simp only [RepX, RepV] at rx
      subst rx
      exact ⟨k, rfl, h1 k H1 F1 mu1 e1 re1 rfl⟩
    | _ => exact h1.elim
theorem dTnot {ta : TM} (ha : PT X a (rdT g E ta)) : PT X (.UnaryOp .Not a pos) (rdT g E (tNot ta)) := by
  refine PT.imp (pt_not ha) fun s H Q h => ?_
  obtain ⟨r, st, F, mu, re, h⟩ := h
  refine ⟨r, st, F, mu, re, OutQ.bind h fun x st1 vx H1 F1 mu1 _ e1 re1 rx h1 => ?_⟩
  subst rx
  exact h1 _ H1 F1 mu1 e1 re1 rfl
theorem wAnd1 {ta : TM} (ha : PT X a (rdT g E ta)) : PW X (.BoolOp .And [a] pos) (rdT g E ta) := pw_and1 ha
theorem wOr1 {ta : TM} (ha : PT X a (rdT g E ta)) : PW X (.BoolOp .Or [a] pos) (rdT g E ta) := pw_or1 ha
theorem wAnd {ta tb : TM} {rest : List Expr} (ha : PT X a (rdT g E ta)) (hb : PW X (.BoolOp .And (b :: rest) pos) (rdT g E tb)) : PW X (.BoolOp .And (a :: b :: rest) pos) (rdT g E (Mir.tAnd ta tb)) := by
  refine ⟨fun wh pins s σ H Q I h => (pw_and ha hb).run wh pins s σ H Q I ?_⟩
  obtain ⟨r, st, F, mu, re, h⟩ := h
  refine ⟨r, st, F, mu, re, OutQ.bind h fun x st1 vx H1 F1 mu1 _ e1 re1 rx h1 => ?_⟩
  subst rx
  cases x with
  | true => rw [if_pos rfl] at h1 ⊢; exact ⟨r, st1, F1, mu1, re1, h1.ext e1⟩
  | false => rw [if_neg Bool.false_ne_true] at h1 ⊢; exact h1 _ H1 F1 mu1 e1 re1 rfl
theorem wOr {ta tb : TM} {rest : List Expr} (ha : PT X a (rdT g E ta)) (hb : PW X (.BoolOp .Or (b :: rest) pos) (rdT g E tb)) : PW X (.BoolOp .Or (a :: b :: rest) pos) (rdT g E (Mir.tOr ta tb)) := by
  refine ⟨fun wh pins s σ H Q I h => (pw_or ha hb).run wh pins s σ H Q I ?_⟩
  obtain ⟨r, st, F, mu, re, h⟩ := h
  refine ⟨r, st, F, mu, re, OutQ.bind h fun x st1 vx H1 F1 mu1 _ e1 re1 rx h1 => ?_⟩
  subst rx
  cases x with
  | false => rw [if_neg Bool.false_ne_true] at h1 ⊢; exact ⟨r, st1, F1, mu1, re1, h1.ext e1⟩
  | true => rw [if_pos rfl] at h1 ⊢; exact h1 _ H1 F1 mu1 e1 re1 rfl

/-! ### arguments -/
theorem aN : PA X [] (rdA g E aNil) := by
  refine PA.imp pa_nil fun s H Q h => ?_
  obtain ⟨r, st, F, mu, re, h⟩ := h
  exact h [] H F mu (.refl _ _ _) re rfl
theorem aC (ha : PE X a (rdE g E ma)) (hr : PA X es (rdA g E mas)) (he : PA X (a :: es) (tCons (rdE g E ma) (rdA g E mas)) := by first | exact pa_cons ha hr | exact pa_cons (by assumption) (by assumption)) : PA X (a :: es) (rdA g E (aCons ma mas)) := by
  refine PA.imp he fun s H Q h => ?_
  obtain ⟨r, st, F, mu, re, h⟩ := h
  refine ⟨r, st, F, mu, re, OutQ.bind h fun x st1 vx H1 F1 mu1 _ e1 re1 rx h1 => ?_⟩
  refine ⟨r, st1, F1, mu1, re1, OutQ.bind (h1.ext e1) fun xs st2 vs H2 F2 mu2 _ e2 re2 rxs h2 => ?_⟩
  exact h2 (vx :: vs) H2 F2 mu2 e2 re2 ⟨vx, vs, rfl, rx.ext e2, rxs⟩
end
end
end Mir
/-! E4: operations on data, and why the rules' wants follow. -/
namespace Mir
open PySem PySem.Spec PyProof.Rows L2
theorem lim_line : lim ≤ sizeLine := by decide
section
variable {X : Cx} {g : G}
theorem toS_app (a b : Tx) : toS (a ++ b) = toS a ++ toS b := by
  show (⟨(a ++ b).toArray⟩ : Str) = ⟨a.toArray ++ b.toArray⟩
  simp
theorem sAdd : OpS g (fun x y H Q => (∃ i j, x = V.int i ∧ y = V.int j ∧ Q (V.int (i + j)) H) ∨ (∃ i j, x = V.str i ∧ y = V.str j ∧ i.length + j.length ≤ sizeLine ∧ Q (V.str (i ++ j)) H)) oAdd := by
  refine .flat fun H F mu st x y vx vy d Q rh rx ry e q => ?_
  unfold oAdd at e
  split at e
  · simp only [RepX, RepV] at rx ry
    cases e
    exact .inl ⟨_, _, rx, ry, q _ (by simp only [RepV])⟩
  · simp only [RepX, RepV] at rx ry
    split at e
    · rename_i a b h
      cases e
      refine .inr ⟨_, _, rx, ry, ?_, q _ (by simp only [RepV]; rw [toS_app])⟩
      have := lim_line
      rw [toS_len, toS_len]
      omega
    · cases e
  · cases e
theorem rAdd : OpR X (binaryOp .Add) (fun x y H Q => (∃ i j, x = V.int i ∧ y = V.int j ∧ Q (V.int (i + j)) H) ∨ (∃ i j, x = V.str i ∧ y = V.str j ∧ i.length + j.length ≤ sizeLine ∧ Q (V.str (i ++ j)) H)) := OpR.or op_add op_add_str
theorem sInt {f : Int → Int → V} {h : Int → Int → D} {C : Int → Int → Prop} {o : Op2} (ho : ∀ st x y d, o st x y = some d → ∃ i j, x = .val (.int i) ∧ y = .val (.int j) ∧ C i j ∧ d = h i j) (hr : ∀ i j F mu v, RepV g F mu (h i j) v ↔ v = f i j) : OpS g (rI C f) o := by
  refine .flat fun H F mu st x y vx vy d Q rh rx ry e q => ?_
  obtain ⟨i, j, rfl, rfl, c, rfl⟩ := ho _ _ _ _ e
  simp only [RepX, RepV] at rx ry
  exact ⟨i, j, rx, ry, c, q _ ((hr _ _ _ _ _).mpr rfl)⟩
theorem sInt0 {f : Int → Int → V} {h : Int → Int → D} {o : Op2} (ho : ∀ st x y d, o st x y = some d → ∃ i j, x = .val (.int i) ∧ y = .val (.int j) ∧ d = h i j) (hr : ∀ i j F mu v, RepV g F mu (h i j) v ↔ v = f i j) : OpS g (rI0 f) o := by
  refine .flat fun H F mu st x y vx vy d Q rh rx ry e q => ?_
  obtain ⟨i, j, rfl, rfl, rfl⟩ := ho _ _ _ _ e
  simp only [RepX, RepV] at rx ry
  exact ⟨i, j, rx, ry, q _ ((hr _ _ _ _ _).mpr rfl)⟩
theorem sSub : OpS g (rI0 fun i j => .int (i - j)) oSub := sInt0 (h := fun i j => .int (i - j)) (fun st x y d e => by unfold oSub at e; split at e <;> cases e; exact ⟨_, _, rfl, rfl, rfl⟩) fun _ _ _ _ _ => by simp only [RepV]
theorem sMul : OpS g (rI CMul fun i j => .int (i * j)) oMul := sInt (h := fun i j => .int (i * j)) (fun st x y d e => by
  unfold oMul at e
  split at e
  · split at e
    · rename_i i j h
      cases e
      refine ⟨_, _, rfl, rfl, ?_, rfl⟩
      simp only [small64, Bool.and_eq_true, decide_eq_true_eq] at h
      exact h
    · cases e
  · cases e) fun _ _ _ _ _ => by simp only [RepV]
theorem sFdiv : OpS g (rI CDiv fun i j => .int (i / j)) oFdiv := sInt (h := fun i j => .int (i / j)) (fun st x y d e => by
  unfold oFdiv at e
  split at e
  · split at e
    · cases e
      exact ⟨_, _, rfl, rfl, by assumption, rfl⟩
    · cases e
  · cases e) fun _ _ _ _ _ => by simp only [RepV]
theorem sMod : OpS g (rI (fun _ j => 0 < j) fun i j => .int (i % j)) oMod := sInt (h := fun i j => .int (i % j)) (fun st x y d e => by
  unfold oMod at e
  split at e
  · split at e
    · cases e
      exact ⟨_, _, rfl, rfl, by assumption, rfl⟩
    · cases e
  · cases e) fun _ _ _ _ _ => by simp only [RepV]
theorem sPow : OpS g (rI CPow fun i j => .int (i ^ j.toNat)) oPow := sInt (h := fun i j => .int (i ^ j.toNat)) (fun st x y d e => by
  unfold oPow at e
  split at e
  · split at e
    · rename_i h
      cases e
      exact ⟨_, _, rfl, rfl, ⟨h.1, by omega, h.2.2⟩, rfl⟩
    · cases e
  · cases e) fun _ _ _ _ _ => by simp only [RepV]
theorem sShl : OpS g (rI CPow fun i j => .int (i * 2 ^ j.toNat)) oShl := sInt (h := fun i j => .int (i * 2 ^ j.toNat)) (fun st x y d e => by
  unfold oShl at e
  split at e
  · split at e
    · rename_i h
      cases e
      exact ⟨_, _, rfl, rfl, ⟨h.1, by omega, h.2.2⟩, rfl⟩
    · cases e
  · cases e) fun _ _ _ _ _ => by simp only [RepV]
theorem sNeg : OpS1 g (rU fun i => .int (-i)) oNeg := by
  refine .flat fun H F mu st x vx d Q rh rx e q => ?_
  unfold oNeg at e
  split at e
  · simp only [RepX, RepV] at rx
    cases e
    exact ⟨_, rx, q _ (by simp only [RepV])⟩
  · cases e
theorem sCmp {p : Int → Int → Bool} : OpS g (rI0 fun i j => .bl (p i j)) (oCmp p) := sInt0 (h := fun i j => .bl (p i j)) (fun st x y d e => by unfold oCmp at e; split at e <;> cases e; exact ⟨_, _, rfl, rfl, rfl⟩) fun _ _ _ _ _ => by simp only [RepV]
theorem sLt : OpS g (rI0 fun i j => .bl (decide (i < j))) oLt := sCmp
theorem sLe : OpS g (rI0 fun i j => .bl (decide (i ≤ j))) oLe := sCmp
theorem sGt : OpS g (rI0 fun i j => .bl (decide (j < i))) oGt := sCmp
theorem sGe : OpS g (rI0 fun i j => .bl (decide (j ≤ i))) oGe := sCmp
theorem sIsN : OpS g (fun x y H Q => y = .non ∧ Q (.bl (decide (x = .non))) H) oIsN := by
  refine .flat fun H F mu st x y vx vy d Q rh rx ry e q => ?_
  unfold oIsN at e
  split at e
  · rename_i d'
    simp only [RepX, RepV] at ry
    cases e
    refine ⟨ry, q _ ?_⟩
    simp only [RepV]
    cases d' <;> simp only [RepX, RepV] at rx <;> (try (subst rx; rfl)) <;> (try exact rx.elim)
    all_goals (obtain ⟨p, hp⟩ := rx; first | (obtain ⟨h1, h2⟩ := hp; subst h2; rfl) | (obtain ⟨h1, h2⟩ := hp; subst h1; rfl) | (obtain ⟨h0, h1, h2⟩ := hp; subst h1; rfl) | (obtain ⟨h0, h3, h4, h1, h2⟩ := hp; obtain ⟨h5, h6⟩ := h2; subst h5; rfl) | (obtain ⟨a1, a2, a3, a4, a5, a6⟩ := hp; subst a5; rfl))
  · simp only [RepX, RepV] at ry
    cases e
    obtain ⟨a, h1, _⟩ := rx
    subst h1
    exact ⟨ry, q _ (by simp only [RepV]; rfl)⟩
  · cases e
theorem sNotN : OpS g (fun x y H Q => y = .non ∧ Q (.bl (!decide (x = .non))) H) oNotN := by
  refine .flat fun H F mu st x y vx vy d Q rh rx ry e q => ?_
  unfold oNotN at e
  split at e
  · rename_i d'
    simp only [RepX, RepV] at ry
    cases e
    refine ⟨ry, q _ ?_⟩
    simp only [RepV]
    cases d' <;> simp only [RepX, RepV] at rx <;> (try (subst rx; rfl)) <;> (try exact rx.elim)
    all_goals (obtain ⟨p, hp⟩ := rx; first | (obtain ⟨h1, h2⟩ := hp; subst h2; rfl) | (obtain ⟨h1, h2⟩ := hp; subst h1; rfl) | (obtain ⟨h0, h1, h2⟩ := hp; subst h1; rfl) | (obtain ⟨h0, h3, h4, h1, h2⟩ := hp; obtain ⟨h5, h6⟩ := h2; subst h5; rfl) | (obtain ⟨a1, a2, a3, a4, a5, a6⟩ := hp; subst a5; rfl))
  · simp only [RepX, RepV] at ry
    cases e
    obtain ⟨a, h1, _⟩ := rx
    subst h1
    exact ⟨ry, q _ (by simp only [RepV]; rfl)⟩
  · cases e

/-! ### == of data -/
mutual
def toP : D → PyData
  | .bl b => .bool b
  | .int i => .int i
  | .str x => .str (toS x)
  | .lst xs => .list (toPs xs)
  | .tup xs => .tuple (toPs xs)
  | .ktp xs => .tuple (toPs xs)
  | _ => .none
def toPs : List D → List PyData
  | [] => []
  | x :: xs => toP x :: toPs xs
end
mutual
theorem shap_lay : ∀ (k : Nat) (d : D), shap k d = true → PyData.canLay0 (toP d) = true ∧ PyData.depth (toP d) ≤ k
  | k, .non, _ => by cases k <;> simp [toP, PyData.canLay0, PyData.depth]
  | k, .bl _, _ => by cases k <;> simp [toP, PyData.canLay0, PyData.depth]
  | k, .int _, _ => by cases k <;> simp [toP, PyData.canLay0, PyData.depth]
  | k, .str x, h => by
    have h' : (x.all fun c => decide (c < 1114112)) = true := by cases k <;> simpa [shap] using h
    refine ⟨?_, by simp [toP, PyData.depth]⟩
    simp only [toP, PyData.canLay0, PyData.strOk, toS]
    simpa using h'
  | 0, .lst _, h => by simp [shap] at h
  | 0, .tup _, h => by simp [shap] at h
  | 0, .ktp _, h => by simp [shap] at h
  | k + 1, .ktp xs, h => by
    simp only [shap, Bool.and_eq_true] at h
    have := shapL_lay k xs h.2
    simp only [toP, PyData.canLay0, PyData.depth]
    exact ⟨this.1, by omega⟩
  | k + 1, .lst xs, h => by
    simp only [shap, Bool.and_eq_true] at h
    have := shapL_lay k xs h.2
    simp only [toP, PyData.canLay0, PyData.depth]
    exact ⟨this.1, by omega⟩
  | k + 1, .tup xs, h => by
    simp only [shap, Bool.and_eq_true] at h
    have := shapL_lay k xs h.2
    simp only [toP, PyData.canLay0, PyData.depth]
    exact ⟨this.1, by omega⟩
  | k, .ref _, h => by cases k <;> simp [shap] at h
  | k, .dct _ _, h => by cases k <;> simp [shap] at h
  | k, .obj _ _, h => by cases k <;> simp [shap] at h
  | k, .lam _, h => by cases k <;> simp [shap] at h
  | k, .scr _, h => by cases k <;> simp [shap] at h
theorem shapL_lay : ∀ (k : Nat) (xs : List D), shapL k xs = true → PyData.canLayAll0 (toPs xs) = true ∧ PyData.depthAll (toPs xs) ≤ k
  | _, [], _ => by simp [toPs, PyData.canLayAll0, PyData.depthAll]
  | k, x :: xs, h => by
    simp only [shapL, Bool.and_eq_true] at h
    have h1 := shap_lay k x h.1
    have h2 := shapL_lay k xs h.2
    simp only [toPs, PyData.canLayAll0, PyData.depthAll, Bool.and_eq_true]
    exact ⟨⟨h1.1, h2.1⟩, by omega⟩
end
theorem shap_shaped {d : D} (h : shap 20 d = true) : SeqAt.shaped (toP d) = true := by
  have := shap_lay 20 d h
  simp only [SeqAt.shaped, Bool.and_eq_true, decide_eq_true_eq]
  exact ⟨this.1, by omega⟩
theorem toS_beq (x y : Tx) : (toS x == toS y) = (x == y) := by
  by_cases h : x = y
  · subst h; simp
  · have : ¬ toS x = toS y := fun z => h (toS_inj z)
    rw [beq_eq_false_iff_ne.mpr h, beq_eq_false_iff_ne.mpr this]
mutual
theorem eqv_toP : ∀ (j k : Nat) (a b : D), shap j a = true → shap k b = true → PyData.eqv (toP a) (toP b) = eqv a b
  | j, k, .non, b, _, h => by cases b <;> (try (cases k <;> simp [shap] at h)) <;> simp [toP, PyData.eqv, eqv]
  | j, k, .bl _, b, _, h => by cases b <;> (try (cases k <;> simp [shap] at h)) <;> simp [toP, PyData.eqv, eqv]
  | j, k, .int _, b, _, h => by cases b <;> (try (cases k <;> simp [shap] at h)) <;> simp [toP, PyData.eqv, eqv]
  | j, k, .str x, b, _, h => by cases b <;> (try (cases k <;> simp [shap] at h)) <;> simp [toP, PyData.eqv, eqv, toS_beq]
  | 0, _, .lst _, _, h, _ => by simp [shap] at h
  | 0, _, .tup _, _, h, _ => by simp [shap] at h
  | 0, _, .ktp _, _, h, _ => by simp [shap] at h
  | j + 1, k, .lst xs, b, h1, h => by
    simp only [shap, Bool.and_eq_true] at h1
    cases b with
    | lst ys =>
      cases k with
      | zero => simp [shap] at h
      | succ k =>
        simp only [shap, Bool.and_eq_true] at h
        simp only [toP, PyData.eqv, eqv]
        exact eqvL_toP j k xs ys h1.2 h.2
    | _ => (try (cases k <;> simp [shap] at h)) <;> simp [toP, PyData.eqv, eqv]
  | j + 1, k, .tup xs, b, h1, h => by
    simp only [shap, Bool.and_eq_true] at h1
    cases b with
    | tup ys =>
      cases k with
      | zero => simp [shap] at h
      | succ k =>
        simp only [shap, Bool.and_eq_true] at h
        simp only [toP, PyData.eqv, eqv]
        exact eqvL_toP j k xs ys h1.2 h.2
    | ktp ys =>
      cases k with
      | zero => simp [shap] at h
      | succ k =>
        simp only [shap, Bool.and_eq_true] at h
        simp only [toP, PyData.eqv, eqv]
        exact eqvL_toP j k xs ys h1.2 h.2
    | _ => (try (cases k <;> simp [shap] at h)) <;> simp [toP, PyData.eqv, eqv]
  | j + 1, k, .ktp xs, b, h1, h => by
    simp only [shap, Bool.and_eq_true] at h1
    cases b with
    | tup ys =>
      cases k with
      | zero => simp [shap] at h
      | succ k =>
        simp only [shap, Bool.and_eq_true] at h
        simp only [toP, PyData.eqv, eqv]
        exact eqvL_toP j k xs ys h1.2 h.2
    | ktp ys =>
      cases k with
      | zero => simp [shap] at h
      | succ k =>
        simp only [shap, Bool.and_eq_true] at h
        simp only [toP, PyData.eqv, eqv]
        exact eqvL_toP j k xs ys h1.2 h.2
    | _ => (try (cases k <;> simp [shap] at h)) <;> simp [toP, PyData.eqv, eqv]
  | j, _, .ref _, _, h, _ => by cases j <;> simp [shap] at h
  | j, _, .dct _ _, _, h, _ => by cases j <;> simp [shap] at h
  | j, _, .obj _ _, _, h, _ => by cases j <;> simp [shap] at h
  | j, _, .lam _, _, h, _ => by cases j <;> simp [shap] at h
  | j, _, .scr _, _, h, _ => by cases j <;> simp [shap] at h
theorem eqvL_toP : ∀ (j k : Nat) (a b : List D), shapL j a = true → shapL k b = true → PyData.eqvAll (toPs a) (toPs b) = eqvL a b
  | _, _, [], [], _, _ => by simp [toPs, PyData.eqvAll, eqvL]
  | _, _, [], _ :: _, _, _ => by simp [toPs, PyData.eqvAll, eqvL]
  | _, _, _ :: _, [], _, _ => by simp [toPs, PyData.eqvAll, eqvL]
  | j, k, x :: xs, y :: ys, h1, h2 => by
    simp only [shapL, Bool.and_eq_true] at h1 h2
    simp only [toPs, PyData.eqvAll, eqvL]
    rw [eqv_toP j k x y h1.1 h2.1, eqvL_toP j k xs ys h1.2 h2.2]
end
mutual
theorem dp_of {H F : Hp} {mu : List Addr} {st : Mir.St} (rh : RH g H F mu st) : ∀ (k : Nat) (d : D) (v : V), shap k d = true → RepV g F mu d v → Dp g.K H v (toP d)
  | _, .non, v, _, r => by simp only [RepV] at r; subst r; exact .non
  | _, .bl b, v, _, r => by simp only [RepV] at r; subst r; simp only [toP]; exact .bl b
  | _, .int b, v, _, r => by simp only [RepV] at r; subst r; simp only [toP]; exact .int b
  | _, .str b, v, _, r => by simp only [RepV] at r; subst r; simp only [toP]; exact .str _
  | 0, .lst _, _, h, _ => by simp [shap] at h
  | 0, .tup _, _, h, _ => by simp [shap] at h
  | 0, .ktp _, _, h, _ => by simp [shap] at h
  | k + 1, .ktp xs, v, h, r => by
    simp only [shap, Bool.and_eq_true] at h
    simp only [RepV] at r
    obtain ⟨p, vs, rfl, h1, h2⟩ := r
    simp only [toP]
    exact .tup h1.seq (dps_of rh k xs vs h.2 h2)
  | k + 1, .lst xs, v, h, r => by
    simp only [shap, Bool.and_eq_true] at h
    simp only [RepV] at r
    obtain ⟨p, vs, rfl, h1, h2⟩ := r
    simp only [toP]
    exact .lst (SqL.of (rh.lst h1)) (dps_of rh k xs vs h.2 h2)
  | k + 1, .tup xs, v, h, r => by
    simp only [shap, Bool.and_eq_true] at h
    simp only [RepV] at r
    obtain ⟨p, vs, rfl, h1, h2⟩ := r
    simp only [toP]
    exact .tup (rh.seqT h1) (dps_of rh k xs vs h.2 h2)
  | j, .ref _, _, h, _ => by cases j <;> simp [shap] at h
  | j, .dct _ _, _, h, _ => by cases j <;> simp [shap] at h
  | j, .obj _ _, _, h, _ => by cases j <;> simp [shap] at h
  | j, .lam _, _, h, _ => by cases j <;> simp [shap] at h
  | j, .scr _, _, h, _ => by cases j <;> simp [shap] at h
theorem dps_of {H F : Hp} {mu : List Addr} {st : Mir.St} (rh : RH g H F mu st) : ∀ (k : Nat) (ds : List D) (vs : List V), shapL k ds = true → RepL g F mu ds vs → DpAll g.K H vs (toPs ds)
  | _, [], vs, _, r => by simp only [RepL] at r; subst r; exact .nil
  | k, d :: ds, vs, h, r => by
    simp only [shapL, Bool.and_eq_true] at h
    simp only [RepL] at r
    obtain ⟨v, rest, rfl, r1, r2⟩ := r
    simp only [toPs]
    exact .cons (dp_of rh k d v h.1 r1) (dps_of rh k ds rest h.2 r2)
end
/-- a list to be read: its items -/
theorem listOf_rep {H F : Hp} {mu : List Addr} {st : Mir.St} (rh : RH g H F mu st) {o : Opd} {v : V} {ds : List D} (r : RepX g H F mu o v) (h : listOf st o = some ds) : ∃ p vs, v = .ref p ∧ H p = some (.lst vs) ∧ RepL g F mu ds vs := by
  unfold listOf at h
  split at h
  · cases h
    simp only [RepX, RepV] at r
    obtain ⟨p, vs, rfl, h1, h2⟩ := r
    exact ⟨p, vs, rfl, rh.lst h1, h2⟩
  · rename_i n
    split at h
    · rename_i xs hn
      cases h
      simp only [RepX, RepV] at r
      obtain ⟨a, h1, rfl⟩ := r
      obtain ⟨a', h2, _, h3⟩ := rh.cel _ _ hn
      rw [h1] at h2
      cases h2
      obtain ⟨vs, h4, h5⟩ := h3
      exact ⟨a, vs, rfl, h4, h5⟩
    · cases h
  · cases h
    obtain ⟨a, rfl, _, _, vs, h4, h5⟩ := r
    exact ⟨a, vs, rfl, h4, h5⟩
  · cases h
theorem seqOf_rep {H F : Hp} {mu : List Addr} {st : Mir.St} (rh : RH g H F mu st) {o : Opd} {v : V} {ds : List D} (r : RepX g H F mu o v) (h : seqOf st o = some ds) : ∃ p vs, v = .ref p ∧ (SqL g.K H p vs ∨ SqT g.K H p vs) ∧ RepL g F mu ds vs := by
  unfold seqOf at h
  split at h
  · cases h
    simp only [RepX, RepV] at r
    obtain ⟨p, vs, rfl, h1, h2⟩ := r
    exact ⟨p, vs, rfl, .inr (rh.seqT h1), h2⟩
  · cases h
    simp only [RepX, RepV] at r
    obtain ⟨p, vs, rfl, h1, h2⟩ := r
    exact ⟨p, vs, rfl, .inr h1.seq, h2⟩
  · obtain ⟨p, vs, h1, h2, h3⟩ := listOf_rep rh r h
    exact ⟨p, vs, h1, .inl (SqL.of h2), h3⟩
theorem look_rep {H F : Hp} {mu : List Addr} {st : Mir.St} (rh : RH g H F mu st) {o : Opd} {v : V} {d : D} (r : RepX g H F mu o v) (h : look st o = some d) (hs : shap 20 d = true) : Dp g.K H v (toP d) := by
  unfold look at h
  split at h
  · rename_i n
    split at h
    · rename_i xs hn
      cases h
      obtain ⟨p, vs, rfl, h1, h2⟩ := listOf_rep rh r (show listOf st (.val (.ref n)) = some xs by simp only [listOf, hn])
      simp only [shap, Bool.and_eq_true] at hs
      simp only [toP]
      exact .lst (SqL.of h1) (dps_of rh _ xs vs hs.2 h2)
    · cases h
  · cases h
    exact dp_of rh _ _ _ hs r
  · rename_i xs
    cases h
    obtain ⟨p, vs, rfl, h1, h2⟩ := listOf_rep rh r (show listOf st (.bor (.lst xs)) = some xs from rfl)
    simp only [shap, Bool.and_eq_true] at hs
    simp only [toP]
    exact .lst (SqL.of h1) (dps_of rh _ xs vs hs.2 h2)
  · cases h
theorem scal_rep {H F : Hp} {mu : List Addr} {st : Mir.St} {x y : Opd} {vx vy : V} {a b : D} (rx : RepX g H F mu x vx) (ry : RepX g H F mu y vy) (hx : look st x = some a) (hy : look st y = some b) (hs : scalD a b = true) : scal vx vy = true ∧ decide (vx = vy) = decide (a = b) := by
  have key : ∀ {o : Opd} {v : V} {d : D}, RepX g H F mu o v → look st o = some d → (match d with | .non => v = .non | .bl k => v = .bl k | .int k => v = .int k | .str k => v = .str (toS k) | _ => True) := by
    intro o v d r h
    unfold look at h
    split at h
    · split at h
      · cases h; trivial
      · cases h
    · cases h
      cases d <;> simp only [RepX, RepV] at r <;> first | exact r | trivial
    · cases h; trivial
    · cases h
  have kx := key rx hx
  have ky := key ry hy
  cases a <;> cases b <;> simp only [scalD] at hs <;> (try (exact absurd hs (by decide))) <;> simp only at kx ky <;> subst kx <;> subst ky <;> refine ⟨rfl, ?_⟩ <;> (try rfl)
  all_goals simp only [V.bl.injEq, V.int.injEq, V.str.injEq, D.bl.injEq, D.int.injEq, D.str.injEq]
  rename_i p q
  by_cases e : p = q
  · subst e; simp
  · rw [decide_eq_false e, decide_eq_false fun z => e (toS_inj z)]
theorem sEq : OpS g (fun x y H Q => rEq x y H Q ∨ rEqD g.K x y H Q) oEq := by
  refine .flat fun H F mu st x y vx vy d Q rh rx ry e q => ?_
  simp only [oEq, eqD, Option.map_eq_some_iff] at e
  obtain ⟨k, e, rfl⟩ := e
  split at e
  · rename_i a b ha hb
    split at e
    · rename_i hs
      cases e
      obtain ⟨h1, h2⟩ := scal_rep rx ry ha hb hs
      exact .inl ⟨h1, q _ (by simp only [RepV]; rw [h2])⟩
    · split at e
      · rename_i hs
        cases e
        exact .inr ⟨_, _, look_rep rh rx ha hs.1, look_rep rh ry hb hs.2, shap_shaped hs.1, shap_shaped hs.2, q _ (by simp only [RepV]; rw [eqv_toP _ _ a b hs.1 hs.2])⟩
      · cases e
  · cases e
theorem sNe : OpS g (fun x y H Q => rNe x y H Q ∨ rNeD g.K x y H Q) oNe := by
  refine .flat fun H F mu st x y vx vy d Q rh rx ry e q => ?_
  simp only [oNe, eqD, Option.map_eq_some_iff] at e
  obtain ⟨k, e, rfl⟩ := e
  split at e
  · rename_i a b ha hb
    split at e
    · rename_i hs
      cases e
      obtain ⟨h1, h2⟩ := scal_rep rx ry ha hb hs
      exact .inl ⟨h1, q _ (by simp only [RepV]; rw [h2])⟩
    · split at e
      · rename_i hs
        cases e
        exact .inr ⟨_, _, look_rep rh rx ha hs.1, look_rep rh ry hb hs.2, shap_shaped hs.1, shap_shaped hs.2, q _ (by simp only [RepV]; rw [eqv_toP _ _ a b hs.1 hs.2])⟩
      · cases e
  · cases e
theorem rEqAll (hu : X.A.units + 64 < cLine) : OpR X (compareOp .Eq) (fun x y H Q => rEq x y H Q ∨ rEqD X.K x y H Q) := OpR.or op_eq (op_eqD hu)
theorem rNeAll (hu : X.A.units + 64 < cLine) : OpR X (compareOp .NotEq) (fun x y H Q => rNe x y H Q ∨ rNeD X.K x y H Q) := OpR.or op_ne (op_neD hu)

/-! ### places -/
theorem atD_rep {F : Hp} {mu : List Addr} {ds : List D} {vs : List V} {i : Int} {d : D} (r : RepL g F mu ds vs) (h : atD ds i = some d) : ∃ v, atI vs i = some v ∧ RepV g F mu d v := by
  have hl := r.length
  unfold atD at h
  cases hj : ixD ds.length i with
  | none => rw [hj] at h; cases h
  | some j =>
    rw [hj] at h
    obtain ⟨v, h1, h2⟩ := r.get (i := j) (show ds[j]? = some d from h)
    refine ⟨v, ?_, h2⟩
    unfold atI
    have e : L2.ixN vs.length i = some j := by
      rw [← hl, ← hj]
      unfold L2.ixN ixD
      split
      · rfl
      · by_cases hq : 0 ≤ (ds.length : Int) + i
        · rw [if_pos hq, if_pos (by omega), Int.add_comm]
        · rw [if_neg hq, if_neg (by omega)]
    rw [e]
    exact h1
theorem atD_str {x : Tx} {i : Int} {c : Nat} (h : atD x i = some c) : atI (toS x).cps.toList i = some c := by
  rw [toS_list]
  unfold atD at h
  unfold atI
  have e : L2.ixN x.length i = ixD x.length i := by
    unfold L2.ixN ixD
    split
    · rfl
    · by_cases hq : 0 ≤ (x.length : Int) + i
      · rw [if_pos hq, if_pos (by omega), Int.add_comm]
      · rw [if_neg hq, if_neg (by omega)]
  rw [e]
  exact h
theorem sIx : OpS g (rIx g.K) oIx := by
  refine .flat fun H F mu st x y vx vy d Q rh rx ry e q => ?_
  unfold oIx at e
  split at e
  · rename_i i
    simp only [RepX, RepV] at ry
    split at e
    · rename_i z
      split at e
      · rename_i hz
        simp only [Option.map_eq_some_iff] at e
        obtain ⟨c, hc, rfl⟩ := e
        simp only [RepX, RepV] at rx
        have := lim_line
        exact .inr (.inr ⟨_, i, c, rx, ry, by rw [toS_len]; omega, atD_str hc, q _ (by simp only [RepV]; rfl)⟩)
      · cases e
    · cases hsq : seqOf st x with
      | none => rw [hsq] at e; cases e
      | some ds =>
        rw [hsq] at e
        obtain ⟨p, vs, rfl, h1, h2⟩ := seqOf_rep rh rx hsq
        obtain ⟨v, h3, h4⟩ := atD_rep h2 (show atD ds i = some d from e)
        rcases h1 with h1 | h1
        · exact .inl ⟨p, vs, i, v, rfl, ry, h1, h3, q _ h4⟩
        · exact .inr (.inl ⟨p, vs, i, v, rfl, ry, h1, h3, q _ h4⟩)
  · cases e
theorem repxs1 {H F : Hp} {mu : List Addr} {x : Opd} {vs : List V} (r : RepXs g H F mu [x] vs) : ∃ v, vs = [v] ∧ RepX g H F mu x v := by
  obtain ⟨v, r', rfl, h1, h2⟩ := r
  have h2 : r' = [] := h2
  subst h2
  exact ⟨v, rfl, h1⟩
theorem repxs2 {H F : Hp} {mu : List Addr} {x y : Opd} {vs : List V} (r : RepXs g H F mu [x, y] vs) : ∃ v w, vs = [v, w] ∧ RepX g H F mu x v ∧ RepX g H F mu y w := by
  obtain ⟨v, r', rfl, h1, h2⟩ := r
  obtain ⟨w, rfl, h3⟩ := repxs1 h2
  exact ⟨v, w, rfl, h1, h3⟩
theorem sLen : OpSN g (fun xs H Q => ∃ x n, xs = [x] ∧ LenV g.K x H n ∧ Q (.int n) H) oLen := by
  refine .flat fun H F mu st xs vs d Q rh rx e q => ?_
  unfold oLen at e
  split at e
  · rename_i z
    split at e
    · rename_i hz
      cases e
      obtain ⟨v, rfl, r1⟩ := repxs1 rx
      simp only [RepX, RepV] at r1
      subst r1
      have := lim_line
      exact ⟨_, z.length, rfl, ⟨by rw [toS_len]; omega, by rw [toS_len]⟩, q _ (by simp only [RepV])⟩
    · cases e
  · obtain ⟨v, rfl, r1⟩ := repxs1 rx
    split at e
    · rename_i ys hy
      cases e
      obtain ⟨p, us, rfl, h1, h2⟩ := seqOf_rep rh r1 hy
      refine ⟨_, ys.length, rfl, ?_, q _ (by simp only [RepV])⟩
      rcases h1 with h1 | h1
      · exact .inl ⟨us, h1, h2.length⟩
      · exact .inr ⟨us, h1, h2.length⟩
    · cases e
  · cases e
theorem sAbs : OpSN g (fun xs H Q => ∃ i, xs = [.int i] ∧ Q (.int (if i < 0 then -i else i)) H) oAbs := by
  refine .flat fun H F mu st xs vs d Q rh rx e q => ?_
  unfold oAbs at e
  split at e
  · cases e
    obtain ⟨v, rfl, r1⟩ := repxs1 rx
    simp only [RepX, RepV] at r1
    subst r1
    exact ⟨_, rfl, q _ (by simp only [RepV])⟩
  · cases e
theorem sMax2 : OpSN g (fun xs H Q => ∃ i j, xs = [.int i, .int j] ∧ Q (.int (if j > i then j else i)) H) oMax2 := by
  refine .flat fun H F mu st xs vs d Q rh rx e q => ?_
  unfold oMax2 at e
  split at e
  · cases e
    obtain ⟨v, w, rfl, r1, r2⟩ := repxs2 rx
    simp only [RepX, RepV] at r1 r2
    subst r1 r2
    exact ⟨_, _, rfl, q _ (by simp only [RepV])⟩
  · cases e
theorem sMin2 : OpSN g (fun xs H Q => ∃ i j, xs = [.int i, .int j] ∧ Q (.int (if j < i then j else i)) H) oMin2 := by
  refine .flat fun H F mu st xs vs d Q rh rx e q => ?_
  unfold oMin2 at e
  split at e
  · cases e
    obtain ⟨v, w, rfl, r1, r2⟩ := repxs2 rx
    simp only [RepX, RepV] at r1 r2
    subst r1 r2
    exact ⟨_, _, rfl, q _ (by simp only [RepV])⟩
  · cases e
theorem sIntB : OpSN g (fun xs H Q => (∃ i, xs = [.int i] ∧ Q (.int i) H) ∨ ∃ k, xs = [.bl k] ∧ Q (.int (if k then 1 else 0)) H) oInt := by
  refine .flat fun H F mu st xs vs d Q rh rx e q => ?_
  unfold oInt at e
  split at e
  · cases e
    obtain ⟨v, rfl, r1⟩ := repxs1 rx
    simp only [RepX, RepV] at r1
    subst r1
    exact .inl ⟨_, rfl, q _ (by simp only [RepV])⟩
  · cases e
    obtain ⟨v, rfl, r1⟩ := repxs1 rx
    simp only [RepX, RepV] at r1
    subst r1
    exact .inr ⟨_, rfl, q _ (by simp only [RepV])⟩
  · cases e
theorem intsOf_rep {F : Hp} {mu : List Addr} : ∀ {ds : List D} {vs : List V} {ns : List Int}, RepL g F mu ds vs → intsOf ds = some ns → vs = ns.map V.int
  | [], vs, ns, r, e => by
    simp only [RepL] at r
    cases e
    rw [r]
    rfl
  | .int i :: ds, vs, ns, r, e => by
    simp only [RepL, RepV] at r
    obtain ⟨v, r', rfl, rfl, h3⟩ := r
    simp only [intsOf, Option.map_eq_some_iff] at e
    obtain ⟨ms, e1, rfl⟩ := e
    rw [intsOf_rep h3 e1]
    rfl
  | .non :: _, _, _, _, e => by simp [intsOf] at e
  | .bl _ :: _, _, _, _, e => by simp [intsOf] at e
  | .str _ :: _, _, _, _, e => by simp [intsOf] at e
  | .ref _ :: _, _, _, _, e => by simp [intsOf] at e
  | .tup _ :: _, _, _, _, e => by simp [intsOf] at e
  | .lst _ :: _, _, _, _, e => by simp [intsOf] at e
  | .dct _ _ :: _, _, _, _, e => by simp [intsOf] at e
  | .obj _ _ :: _, _, _, _, e => by simp [intsOf] at e
  | .lam _ :: _, _, _, _, e => by simp [intsOf] at e
  | .scr _ :: _, _, _, _, e => by simp [intsOf] at e
  | .ktp _ :: _, _, _, _, e => by simp [intsOf] at e
theorem sSum : OpSN g (rSum g.K) oSum := by
  refine .flat fun H F mu st xs vs d Q rh rx e q => ?_
  unfold oSum at e
  split at e
  · obtain ⟨v, rfl, r1⟩ := repxs1 rx
    split at e
    · rename_i ds hd
      simp only [Option.map_eq_some_iff] at e
      obtain ⟨ns, e1, rfl⟩ := e
      obtain ⟨p, us, rfl, h1, h2⟩ := listOf_rep rh r1 hd
      have := intsOf_rep h2 e1
      subst this
      exact ⟨p, ns, rfl, SqL.of h1, q _ (by simp only [RepV])⟩
    · cases e
  · cases e
theorem sMaxL : OpSN g (rMax g.K) oMaxL := by
  refine .flat fun H F mu st xs vs d Q rh rx e q => ?_
  unfold oMaxL at e
  split at e
  · obtain ⟨v, rfl, r1⟩ := repxs1 rx
    split at e
    · rename_i ds hd
      simp only [Option.bind_eq_some_iff] at e
      obtain ⟨ns, e1, e2⟩ := e
      split at e2
      · cases e2
      · rename_i hne
        cases e2
        obtain ⟨p, us, rfl, h1, h2⟩ := listOf_rep rh r1 hd
        have := intsOf_rep h2 e1
        subst this
        refine ⟨p, ns, rfl, SqL.of h1, by cases ns <;> simp at hne ⊢, fun m hm hall => ?_⟩
        have a1 := hall _ (maxI_mem hne)
        have a2 := maxI_le hm
        have : m = maxI ns := by omega
        subst this
        exact q _ (by simp only [RepV])
    · cases e
  · cases e
theorem sMinL : OpSN g (rMin g.K) oMinL := by
  refine .flat fun H F mu st xs vs d Q rh rx e q => ?_
  unfold oMinL at e
  split at e
  · obtain ⟨v, rfl, r1⟩ := repxs1 rx
    split at e
    · rename_i ds hd
      simp only [Option.bind_eq_some_iff] at e
      obtain ⟨ns, e1, e2⟩ := e
      split at e2
      · cases e2
      · rename_i hne
        cases e2
        obtain ⟨p, us, rfl, h1, h2⟩ := listOf_rep rh r1 hd
        have := intsOf_rep h2 e1
        subst this
        refine ⟨p, ns, rfl, SqL.of h1, by cases ns <;> simp at hne ⊢, fun m hm hall => ?_⟩
        have a1 := hall _ (minI_mem hne)
        have a2 := minI_le hm
        have : m = minI ns := by omega
        subst this
        exact q _ (by simp only [RepV])
    · cases e
  · cases e
end
end Mir
/-! E5: new things, calls, objects, statements, loops. -/
namespace Mir
open PySem PySem.Spec PyProof.Rows L2

section
variable {g : G} {H F : Hp} {mu : List Addr} {st : Mir.St} {p : Addr} {o : HO}
theorem cell_ne (rh : RH g H F mu st) (hp : H p = none) {n : Nat} {a : Addr} (h : mu[n]? = some a) : a ≠ p := by
  intro e
  have hn : n < mu.length := (List.getElem?_eq_some_iff.mp h).1
  obtain ⟨c, hc⟩ : ∃ c, st[n]? = some c := ⟨st[n]'(by rw [← rh.len]; exact hn), List.getElem?_eq_getElem _⟩
  obtain ⟨a', h1, _, h3⟩ := rh.cel n c hc
  rw [h] at h1
  cases h1
  obtain ⟨o, h4, _⟩ := h3.there
  rw [e, hp] at h4
  cases h4
theorem mem_mu (rh : RH g H F mu st) {a : Addr} (h : a ∈ mu) : H a ≠ none := by
  obtain ⟨n, hn⟩ := List.getElem?_of_mem h
  intro e
  exact cell_ne rh e hn rfl
theorem F_new (rh : RH g H F mu st) (hp : H p = none) : F p = none := by
  cases e : F p with
  | none => rfl
  | some x =>
    rcases rh.fro p x e with q | ⟨_, od, q⟩
    · rw [hp] at q; cases q
    · rw [hp] at q; cases q
theorem tabs_new {T : List (Addr × Str)} (t : LamX.Tabs T H) (hp : H p = none) : LamX.Tabs T (upd H p o) :=
  t.ext fun b u e => by rw [upd_ne (ne_of_none e hp)]; exact e
/-- a new thing that stays as it is -/
theorem RH.new (rh : RH g H F mu st) (hp : H p = none) (hn : ∀ ps, o ≠ .tbl ps := by intro ps z; cases z) : RH g (upd H p o) (upd F p o) mu st where
  ntb := fun a ps e => by
    by_cases h : a = p
    · subst h
      rw [upd_same] at e
      exact hn ps (Option.some.inj e)
    · rw [upd_ne h] at e
      exact rh.ntb a ps e
  fro := fun a u e => by
    by_cases h : a = p
    · subst h
      rw [upd_same] at e
      exact .inl (by rw [upd_same]; exact e)
    · rw [upd_ne h] at e
      rcases rh.fro a u e with q | ⟨k, od, q⟩
      · exact .inl (by rw [upd_ne h]; exact q)
      · exact .inr ⟨k, od, by rw [upd_ne h]; exact q⟩
  len := rh.len
  nd := rh.nd
  cel := fun n c e => by
    obtain ⟨a, h1, h2, h3⟩ := rh.cel n c e
    have hne := cell_ne rh hp h1
    exact ⟨a, h1, by rw [upd_ne hne]; exact h2, (CellAt.at (upd_ne hne) h3).mono ⟨fun b u q => by rw [upd_ne (fun z => by rw [z, F_new rh hp] at q; cases q)]; exact q, fun _ _ q => q⟩⟩
  tab := tabs_new rh.tab hp
theorem Ext.new (rh : RH g H F mu st) (hp : H p = none) : Ext H F mu (upd H p o) (upd F p o) mu where
  mo := ⟨fun a u e => by rw [upd_ne (fun z => by rw [z, F_new rh hp] at e; cases e)]; exact e, fun _ _ h => h⟩
  keep := fun a u e _ _ => by rw [upd_ne (ne_of_none e hp)]; exact e
  dom := fun a h => Nw.up (Nw.of hp) h
  frF := fun a u e => by
    by_cases q : a = p
    · exact .inr (.inl (q ▸ Nw.of hp))
    · rw [upd_ne q] at e; exact .inl e
  frM := fun a h => .inl h
theorem Mono.new (rh : RH g H F mu st) (hp : H p = none) : Mono F mu (upd F p o) mu := (Ext.new rh hp (o := o)).mo
/-- a new thing of its own -/
theorem RH.newOwn (rh : RH g H F mu st) (hp : H p = none) : RH g (upd H p o) F mu st where
  ntb := rh.ntb
  fro := fun a u e => by
    have h : a ≠ p := fun z => by rw [z, F_new rh hp] at e; cases e
    rcases rh.fro a u e with q | ⟨k, od, q⟩
    · exact .inl (by rw [upd_ne h]; exact q)
    · exact .inr ⟨k, od, by rw [upd_ne h]; exact q⟩
  len := rh.len
  nd := rh.nd
  cel := fun n c e => by
    obtain ⟨a, h1, h2, h3⟩ := rh.cel n c e
    exact ⟨a, h1, h2, CellAt.at (upd_ne (cell_ne rh hp h1)) h3⟩
  tab := tabs_new rh.tab hp
theorem Ext.newOwn (hp : H p = none) : Ext H F mu (upd H p o) F mu where
  mo := .refl _ _
  keep := fun a u e _ _ => by rw [upd_ne (ne_of_none e hp)]; exact e
  dom := fun a h => Nw.up (Nw.of hp) h
  frF := fun a u e => .inl e
  frM := fun a h => .inl h
/-- a thing of its own becomes frozen -/
theorem RH.freeze (rh : RH g H F mu st) {a : Addr} (hF : F a = none) (hm : a ∉ mu) (ho : H a = some o) (hn : ∀ ps, o ≠ .tbl ps := by intro ps z; cases z) : RH g H (upd F a o) mu st where
  ntb := fun b ps e => by
    by_cases h : b = a
    · subst h
      rw [upd_same] at e
      exact hn ps (Option.some.inj e)
    · rw [upd_ne h] at e
      exact rh.ntb b ps e
  fro := fun b u e => by
    by_cases h : b = a
    · subst h
      rw [upd_same] at e
      cases e
      exact .inl ho
    · rw [upd_ne h] at e
      exact rh.fro b u e
  len := rh.len
  nd := rh.nd
  cel := fun n c e => by
    obtain ⟨b, h1, h2, h3⟩ := rh.cel n c e
    have hne : b ≠ a := fun z => hm (z ▸ List.mem_of_getElem? h1)
    exact ⟨b, h1, by rw [upd_ne hne]; exact h2, h3.mono ⟨fun d u q => by rw [upd_ne (fun z => by rw [z, hF] at q; cases q)]; exact q, fun _ _ q => q⟩⟩
  tab := rh.tab
theorem Mono.freeze {a : Addr} (hF : F a = none) : Mono F mu (upd F a o) mu := ⟨fun d u q => by rw [upd_ne (fun z => by rw [z, hF] at q; cases q)]; exact q, fun _ _ q => q⟩
theorem Ext.freeze {H0 F0 : Hp} {mu0 : List Addr} (e : Ext H0 F0 mu0 H F mu) {a : Addr} (hF : F a = none) (h0 : Nw H0 a) : Ext H0 F0 mu0 H (upd F a o) mu where
  mo := e.mo.trans (Mono.freeze hF)
  keep := e.keep
  dom := e.dom
  frF := fun b u q => by
    by_cases h : b = a
    · exact .inr (.inl (h ▸ h0))
    · rw [upd_ne h] at q; exact e.frF b u q
  frM := e.frM
/-- .. becomes a cell -/
theorem RH.cell (rh : RH g H F mu st) {a : Addr} {c : Cell} (hF : F a = none) (hm : a ∉ mu) (hc : CellAt g F mu H a c) : RH g H F (mu ++ [a]) (st ++ [c]) where
  ntb := rh.ntb
  fro := rh.fro
  len := by simp [rh.len]
  nd := by
    rw [List.nodup_append]
    exact ⟨rh.nd, by simp, fun x hx y hy => by
      rw [List.mem_singleton] at hy
      intro z
      exact hm (hy ▸ z ▸ hx)⟩
  cel := fun n c' e => by
    have mo : Mono F mu F (mu ++ [a]) := ⟨fun _ _ h => h, fun i b h => by rw [List.getElem?_append_left (List.getElem?_eq_some_iff.mp h).1]; exact h⟩
    by_cases h : n < st.length
    · rw [List.getElem?_append_left h] at e
      obtain ⟨b, h1, h2, h3⟩ := rh.cel n c' e
      exact ⟨b, mo.mu _ _ h1, h2, h3.mono mo⟩
    · have hn : n < (st ++ [c]).length := (List.getElem?_eq_some_iff.mp e).1
      have hn' : n = st.length := by simp at hn; omega
      subst hn'
      rw [List.getElem?_append_right (Nat.le_refl _)] at e
      simp at e
      subst e
      refine ⟨a, ?_, fun _ => hF, hc.mono mo⟩
      rw [← rh.len, List.getElem?_append_right (Nat.le_refl _)]
      simp
  tab := rh.tab
theorem Mono.cell {a : Addr} : Mono F mu F (mu ++ [a]) := ⟨fun _ _ h => h, fun i b h => by rw [List.getElem?_append_left (List.getElem?_eq_some_iff.mp h).1]; exact h⟩
theorem Ext.cell {H0 F0 : Hp} {mu0 : List Addr} (e : Ext H0 F0 mu0 H F mu) {a : Addr} (h0 : Nw H0 a) : Ext H0 F0 mu0 H F (mu ++ [a]) where
  mo := e.mo.trans Mono.cell
  keep := e.keep
  dom := e.dom
  frF := e.frF
  frM := fun b h => by
    rcases List.mem_append.mp h with q | q
    · exact e.frM b q
    · rw [List.mem_singleton] at q
      exact .inr (q ▸ h0)
theorem tabs_set {T : List (Addr × Str)} {a : Addr} {u : HO} (t : LamX.Tabs T H) (ha : H a = some u) (h1 : ∀ ps, u ≠ .tbl ps) (h2 : ∀ f, u ≠ .ext f) : LamX.Tabs T (upd H a o) := fun q hq => by
  obtain ⟨ps, e1, e2, e3⟩ := t q hq
  have n1 : q.1 ≠ a := fun z => by
    rw [z, ha] at e1
    exact h1 _ (Option.some.inj e1)
  refine ⟨ps, by rw [upd_ne n1]; exact e1, e2, fun pos cv hc => ?_⟩
  obtain ⟨c, e4, e5⟩ := e3 pos cv hc
  have n2 : c ≠ a := fun z => by
    rw [z, ha] at e5
    exact h2 _ (Option.some.inj e5)
  exact ⟨c, e4, by rw [upd_ne n2]; exact e5⟩
/-- a cell is written -/
theorem RH.put (rh : RH g H F mu st) {n : Nat} {a : Addr} {c c' : Cell} (hn : st[n]? = some c) (ha : mu[n]? = some a) (hc : CellAt g F mu (upd H a o) a c') (hl : c.isLck = false := by rfl) : RH g (upd H a o) F mu (st.set n c') where
  ntb := rh.ntb
  fro := fun b u e => by
    obtain ⟨a', h1, h2, _⟩ := rh.cel n c hn
    rw [ha] at h1
    cases h1
    have hne : b ≠ a := fun z => by rw [z, h2 hl] at e; cases e
    rcases rh.fro b u e with q | ⟨k, od, q⟩
    · exact .inl (by rw [upd_ne hne]; exact q)
    · exact .inr ⟨k, od, by rw [upd_ne hne]; exact q⟩
  len := by simp [rh.len]
  nd := rh.nd
  cel := fun m d e => by
    obtain ⟨a', h1, h2, _⟩ := rh.cel n c hn
    rw [ha] at h1
    cases h1
    by_cases h : m = n
    · subst h
      rw [List.getElem?_set_self (List.getElem?_eq_some_iff.mp hn).1] at e
      cases e
      exact ⟨a, ha, fun _ => h2 hl, hc⟩
    · rw [List.getElem?_set_ne (Ne.symm h)] at e
      obtain ⟨b, q1, q2, q3⟩ := rh.cel m d e
      have hne : b ≠ a := fun z => by
        subst z
        exact h (nd_ix rh.nd q1 ha)
      exact ⟨b, q1, q2, CellAt.at (upd_ne hne) q3⟩
  tab := by
    obtain ⟨a', h1, h2, h3⟩ := rh.cel n c hn
    rw [ha] at h1
    cases h1
    obtain ⟨u, q1, q2, q3⟩ := h3.there
    exact tabs_set rh.tab q1 q2 q3
theorem Ext.put {n : Nat} {a : Addr} (ha : mu[n]? = some a) (hn : ∀ ps, o ≠ .tbl ps := by intro ps z; cases z) : Ext H F mu (upd H a o) F mu where
  mo := .refl _ _
  keep := fun b u e hb _ => by rw [upd_ne (fun (z : b = a) => hb (by rw [z]; exact List.mem_of_getElem? ha))]; exact e
  dom := fun b h => Nw.put hn h
  frF := fun b u e => .inl e
  frM := fun b h => .inl h
/-- a thing of one's own is written: it is no one else's -/
theorem RH.putOwn (rh : RH g H F mu st) {a : Addr} {u : HO} (hF : F a = none) (hm : a ∉ mu) (ha : H a = some u) (h1 : ∀ ps, u ≠ .tbl ps) (h2 : ∀ f, u ≠ .ext f) : RH g (upd H a o) F mu st where
  ntb := rh.ntb
  fro := fun b w e => by
    have hne : b ≠ a := fun z => by rw [z, hF] at e; cases e
    rcases rh.fro b w e with q | ⟨k, od, q⟩
    · exact .inl (by rw [upd_ne hne]; exact q)
    · exact .inr ⟨k, od, by rw [upd_ne hne]; exact q⟩
  len := rh.len
  nd := rh.nd
  cel := fun n c e => by
    obtain ⟨b, q1, q2, q3⟩ := rh.cel n c e
    exact ⟨b, q1, q2, CellAt.at (upd_ne fun (z : b = a) => hm (by rw [← z]; exact List.mem_of_getElem? q1)) q3⟩
  tab := tabs_set rh.tab ha h1 h2
end

/-! ### what defs promise -/
def FnQ (g : G) (H F : Hp) (mu : List Addr) (E : XK) (Q : VK) : Out D → Prop
  | .ok d st' => ∀ v H' F' mu', Ext H F mu H' F' mu' → RH g H' F' mu' st' → RepV g F' mu' d v → Q v H'
  | .exc e st' => ∀ H' F' mu', Ext H F mu H' F' mu' → RH g H' F' mu' st' → XQ g E e H'
  | .bad => False
def spOf (g : G) (n : Nat) (f : FM) : Sp := fun vs H Q E => vs.length = n ∧ ∃ ds st F mu, RH g H F mu st ∧ RepL g F mu ds vs ∧ FnQ g H F mu E Q (f ds st)
/-- an __init__: the instance is the caller's own -/
def XnQ (g : G) (H F : Hp) (mu : List Addr) (a : Addr) (c : Nat) (E : XK) (Q : VK) : Out (List D) → Prop
  | .ok fs st' => ∀ H' F' mu', Ext H F mu H' F' mu' → RH g H' F' mu' st' → F' a = none → a ∉ mu' → CellAt g F' mu' H' a (.ins c fs) → Q .non H'
  | .exc e st' => ∀ H' F' mu', Ext H F mu H' F' mu' → RH g H' F' mu' st' → XQ g E e H'
  | .bad => False
/-- H0: the heap ahead of the instance -/
def spInit (g : G) (c n : Nat) (f : XM) : Sp := fun vs H Q E => vs.length = n ∧ ∃ a dx C ns us ds st F mu H0, vs = .ref a :: us ∧ g.ci c = some (C, ns) ∧ H = upd (upd H0 dx (.own a)) a (.ins C dx []) ∧ H0 a = none ∧ H0 dx = none ∧ dx ≠ a ∧
  RH g H0 F mu st ∧ RepL g F mu ds us ∧ XnQ g H0 F mu a c E Q (f ds st)

section
variable {X : Cx} {g : G} {E : XK} {pos : Pos} {a b c e o : Expr} {ma mb mc : EM} {es : List Expr} {mas : AM}
/-! ### tuples, lists -/
theorem valsOf_len : ∀ {xs : List Opd} {ds : List D}, valsOf xs = some ds → xs.length = ds.length
  | [], _, h => by cases h; rfl
  | .val d :: xs, ds, h => by
    simp only [valsOf, Option.map_eq_some_iff] at h
    obtain ⟨ds', h1, rfl⟩ := h
    simp [valsOf_len h1]
  | .bor _ :: _, _, h => by simp [valsOf] at h
theorem xTup {x1} (h : PA X es (rdA g E mas)) : PE X (.Tuple es x1 pos) (rdE g E (eTup mas)) := by
  refine PE.imp (pe_tup h) fun s H Q k => ?_
  obtain ⟨r, st, F, mu, re, k⟩ := k
  refine ⟨r, st, F, mu, re, OutQ.bind k fun xs st1 vs H1 F1 mu1 _ e1 re1 rx k1 => ?_⟩
  cases hv : valsOf xs with
  | none => rw [hv] at k1; exact k1.elim
  | some ds =>
    rw [hv] at k1
    dsimp only at k1
    split at k1
    · rename_i hl
      have rl := rx.vals hv
      refine ⟨by rw [← rl.length]; exact Nat.le_trans hl lim_line, fun p hp => ?_⟩
      refine k1 _ _ (upd F1 p (.tup vs)) mu1 (e1.trans (Ext.new re1.h hp)) (re1.step (Ext.new re1.h hp) (re1.h.new hp)) ?_
      simp only [RepX, RepV]
      exact ⟨p, vs, rfl, upd_same, RepL.mono (Mono.new re1.h hp) _ _ rl⟩
    · exact k1.elim
theorem yLst (h : PA X es (rdA g E mas)) : PE X (.List es pos) (rdN g E (nLst mas)) := by
  refine PE.imp (pe_lst h) fun s H Q k => ?_
  obtain ⟨r, st, F, mu, re, k⟩ := k
  refine ⟨r, st, F, mu, re, OutQ.bind k fun xs st1 vs H1 F1 mu1 _ e1 re1 rx k1 => ?_⟩
  cases hv : valsOf xs with
  | none => rw [hv] at k1; exact k1.elim
  | some ds =>
    rw [hv] at k1
    dsimp only at k1
    split at k1
    · rename_i hl
      have rl := rx.vals hv
      refine ⟨by rw [← rl.length]; exact Nat.le_trans hl lim_line, fun p hp => ?_⟩
      have h0 : Nw H p := e1.dom p (Nw.of hp)
      exact k1 _ _ F1 mu1 (e1.trans (Ext.newOwn hp)) (re1.step (Ext.newOwn hp) (re1.h.newOwn hp)) ⟨p, rfl, F_new re1.h hp, fun z => mem_mu re1.h z hp, h0, vs, upd_same, rl⟩
    · exact k1.elim
/-- frozen -/
theorem CellAt.frz {F : Hp} {mu : List Addr} {H : Hp} {p : Addr} {c : Cell} {d : D} {st : Mir.St} {g : G} (rh : RH g H F mu st) (hF : F p = none) (hm : p ∉ mu) (h : CellAt g F mu H p c) (hd : c.frz = some d) : ∃ u, H p = some u ∧ RH g H (upd F p u) mu st ∧ RepV g (upd F p u) mu d (.ref p) := by
  cases c with
  | lst xs =>
    cases hd
    obtain ⟨vs, h1, h2⟩ := h
    exact ⟨_, h1, rh.freeze hF hm h1, by simp only [RepV]; exact ⟨p, vs, rfl, upd_same, RepL.mono (Mono.freeze hF) _ _ h2⟩⟩
  | dct t ps =>
    cases hd
    rcases h with ⟨e, kvs, h1, h2⟩ | ⟨e, kvs, h1, h2⟩
    · exact ⟨_, h1, rh.freeze hF hm h1, by simp only [RepV]; exact ⟨p, rfl, .inl ⟨e, kvs, upd_same, RepP.mono (Mono.freeze hF) _ _ h2⟩⟩⟩
    · exact ⟨_, h1, rh.freeze hF hm h1, by simp only [RepV]; exact ⟨p, rfl, .inr ⟨e, kvs, upd_same, RepT.mono (Mono.freeze hF) _ _ h2⟩⟩⟩
  | ins c fs =>
    cases hd
    obtain ⟨C, ns, dx, vs, h1, h2, h3, h4⟩ := h
    exact ⟨_, h3, rh.freeze hF hm h3, by simp only [RepV]; exact ⟨p, C, ns, dx, vs, rfl, h1, h2, upd_same, RepL.mono (Mono.freeze hF) _ _ h4⟩⟩
  | lck _ _ => cases hd
theorem xFrzT {n : NM} : ∀ s H Q, rdE g E (eFrz n) s H Q → rdN g E n s H Q := by
  intro s H Q k
  obtain ⟨r, st, F, mu, re, k⟩ := k
  refine ⟨r, st, F, mu, re, OutQ.bind k fun c st1 v H1 F1 mu1 _ e1 re1 rx k1 => ?_⟩
  obtain ⟨p, rfl, q1, q2, q3, q4⟩ := rx
  cases hd : c.frz with
  | none => rw [hd] at k1; exact k1.elim
  | some d =>
    rw [hd] at k1
    obtain ⟨u, u1, u2, u3⟩ := q4.frz re1.h q1 q2 hd
    have ee : Ext H F mu H1 (upd F1 p u) mu1 := e1.freeze q1 q3
    refine k1 _ H1 (upd F1 p u) mu1 ee ?_ u3
    exact re.step ee u2
theorem xFrz {n : NM} (h : PE X e (rdN g E n)) : PE X e (rdE g E (eFrz n)) := PE.imp h xFrzT
theorem xNew {n : NM} (h : PE X e (rdN g E n)) : PE X e (rdE g E (eNew n)) := by
  refine PE.imp h fun s H Q k => ?_
  obtain ⟨r, st, F, mu, re, k⟩ := k
  refine ⟨r, st, F, mu, re, OutQ.bind k fun c st1 v H1 F1 mu1 _ e1 re1 rx k1 => ?_⟩
  obtain ⟨p, rfl, q1, q2, q3, q4⟩ := rx
  have ee := e1.cell (a := p) q3
  refine k1 _ H1 F1 (mu1 ++ [p]) ee (re.step ee (re1.h.cell q1 q2 q4)) ?_
  simp only [RepX, RepV]
  refine ⟨p, ?_, rfl⟩
  rw [← re1.h.len, List.getElem?_append_right (Nat.le_refl _)]
  simp

/-! ### calls of built-ins -/
theorem xCB {rr : List V → Hp → VK → Prop} {f : OpN} (hs : OpSN g rr f) (h : PE X e (tCB rr (rdA g E mas))) : PE X e (rdE g E (eOpN f mas)) := by
  refine PE.imp h fun s H Q k => ?_
  obtain ⟨r, st, F, mu, re, k⟩ := k
  refine ⟨r, st, F, mu, re, OutQ.bind k fun xs st1 vs H1 F1 mu1 _ e1 re1 rx k1 => ?_⟩
  cases hf : f st1 xs with
  | none => rw [hf] at k1; exact k1.elim
  | some d =>
    rw [hf] at k1
    exact hs H1 F1 mu1 st1 xs vs d Q re1.h rx hf fun v H' F' rh' e' rv => k1 v H' F' mu1 (e1.trans e') (re1.step e' rh') rv
/-- .. that hand back something new -/
def NpSN (g : G) (rr : List V → Hp → VK → Prop) (f : NpN) : Prop := ∀ (H F : Hp) (mu : List Addr) (st : Mir.St) (xs : List Opd) (vs : List V) (c : Cell) (Q : VK), RH g H F mu st → RepXs g H F mu xs vs → f st xs = some c →
  (∀ p H', RH g H' F mu st → Ext H F mu H' F mu → H p = none → F p = none → p ∉ mu → CellAt g F mu H' p c → Q (.ref p) H') → rr vs H Q
theorem dom_none {H F H' F' : Hp} {mu mu' : List Addr} {p : Addr} (e : Ext H F mu H' F' mu') (hp : H' p = none) : Nw H p := e.dom p (Nw.of hp)
theorem yCB {rr : List V → Hp → VK → Prop} {f : NpN} (hs : NpSN g rr f) (h : PE X e (tCB rr (rdA g E mas))) : PE X e (rdN g E (nOpN f mas)) := by
  refine PE.imp h fun s H Q k => ?_
  obtain ⟨r, st, F, mu, re, k⟩ := k
  refine ⟨r, st, F, mu, re, OutQ.bind k fun xs st1 vs H1 F1 mu1 _ e1 re1 rx k1 => ?_⟩
  cases hf : f st1 xs with
  | none => rw [hf] at k1; exact k1.elim
  | some d =>
    rw [hf] at k1
    exact hs H1 F1 mu1 st1 xs vs d Q re1.h rx hf fun p H' rh' e' h1 h2 h3 h4 => k1 _ H' F1 mu1 (e1.trans e') (re1.step e' rh') ⟨p, rfl, h2, h3, dom_none e1 h1, h4⟩
/-- a binary operation that hands back something new -/
def NpS (g : G) (rr : R2) (f : Np2) : Prop := ∀ (H F : Hp) (mu : List Addr) (st : Mir.St) (x y : Opd) (vx vy : V) (c : Cell) (Q : VK), RH g H F mu st → RepX g H F mu x vx → RepX g H F mu y vy → f st x y = some c →
  (∀ p H', RH g H' F mu st → Ext H F mu H' F mu → H p = none → F p = none → p ∉ mu → CellAt g F mu H' p c → Q (.ref p) H') → rr vx vy H Q
theorem yOp2 {rr : R2} {f : Np2} (hs : NpS g rr f) (h : PE X e (tOp rr (rdE g E ma) (rdE g E mb))) : PE X e (rdN g E (nOp2 f ma mb)) := by
  refine PE.imp h fun s H Q k => ?_
  obtain ⟨r, st, F, mu, re, k⟩ := k
  refine ⟨r, st, F, mu, re, OutQ.bind k fun x st1 vx H1 F1 mu1 _ e1 re1 rx k1 => ?_⟩
  refine ⟨r, st1, F1, mu1, re1, OutQ.bind (k1.ext e1) fun y st2 vy H2 F2 mu2 _ e2 re2 ry k2 => ?_⟩
  cases hf : f st2 x y with
  | none => rw [hf] at k2; exact k2.elim
  | some d =>
    rw [hf] at k2
    exact hs H2 F2 mu2 st2 x y vx vy d Q re2.h (rx.ext e2) ry hf fun p H' rh' e' h1 h2 h3 h4 => k2 _ H' F2 mu2 (e2.trans e') (re2.step e' rh') ⟨p, rfl, h2, h3, dom_none (e1.trans e2) h1, h4⟩
theorem xOp2 {rr : R2} {f : Op2} (hs : OpS g rr f) (h : PE X e (tOp rr (rdE g E ma) (rdE g E mb))) : PE X e (rdE g E (eOp2 f ma mb)) := PE.imp h (rd2 hs (fun _ _ _ h => h) fun _ _ _ h => h)

/-! ### calls of defs -/
theorem xCall0 {n : Nat} {f : FM} {dds : List D} {dvs : List V} (hd : ∀ F mu, RepL g F mu dds dvs) (h : PE X e (tCall (spOf g n f) dvs E (rdA g E mas))) (hn : ∀ r st xs st', mas r st = .ok xs st' → xs.length + dvs.length = n) : PE X e (rdE g E (eCall (defl f dds) mas)) := by
  refine PE.imp h fun s H Q k => ?_
  obtain ⟨r, st, F, mu, re, k⟩ := k
  refine ⟨r, st, F, mu, re, OutQ.bind k fun xs st1 vs H1 F1 mu1 ho e1 re1 rx k1 => ?_⟩
  cases hv : valsOf xs with
  | none => rw [hv] at k1; exact k1.elim
  | some ds =>
    rw [hv] at k1
    have rl := rx.vals hv
    refine ⟨by rw [List.length_append, ← rl.length, ← valsOf_len hv]; exact hn _ _ _ _ ho, ds ++ dds, st1, F1, mu1, re1.h, rl.append (hd _ _), ?_⟩
    dsimp only [defl] at k1
    cases hf : f (ds ++ dds) st1 with
    | ok d st2 =>
      rw [hf] at k1
      exact fun v H' F' mu' e' rh' rv => k1 v H' F' mu' (e1.trans e') (re1.step e' rh') rv
    | exc x st2 =>
      rw [hf] at k1
      exact fun H' F' mu' e' rh' => k1 H' F' mu' (e1.trans e') (re1.step e' rh')
    | bad => rw [hf] at k1; exact k1
def AM.len (as : AM) (k : Nat) : Prop := ∀ r st xs st', as r st = .ok xs st' → xs.length = k
theorem len0 : AM.len aNil 0 := fun r st xs st' h => by
  simp only [aNil] at h
  injection h with h1 h2
  rw [← h1]
  rfl
theorem lenS {k : Nat} (h : AM.len mas k) : AM.len (aCons ma mas) (k + 1) := fun r st xs st' e => by
  unfold aCons at e
  cases h1 : ma r st with
  | ok x s1 =>
    rw [h1] at e
    simp only [Out.bind] at e
    cases h2 : mas r s1 with
    | ok ys s2 =>
      rw [h2] at e
      simp only [Out.bind] at e
      injection e with e1 e2
      rw [← e1, List.length_cons, h _ _ _ _ h2]
    | exc z s2 => rw [h2] at e; cases e
    | bad => rw [h2] at e; cases e
  | exc z s1 => rw [h1] at e; cases e
  | bad => rw [h1] at e; cases e
/-- f(..) -/
theorem xCall {n k : Nat} {f : FM} {dds : List D} {dvs : List V} (hd : ∀ F mu, RepL g F mu dds dvs) (h : PE X e (tCall (spOf g n f) dvs E (rdA g E mas))) (hl : AM.len mas k) (hn : k + dvs.length = n) : PE X e (rdE g E (eCall (defl f dds) mas)) :=
  xCall0 hd h fun r st xs st' q => by rw [hl _ _ _ _ q]; exact hn
theorem defl_nil (f : FM) : defl f [] = f := by
  funext ds st
  simp [defl]
theorem xCallN {n : Nat} {f : FM} (h : PE X e (tCall (spOf g n f) [] E (rdA g E mas))) (hl : AM.len mas n) : PE X e (rdE g E (eCall f mas)) := by
  have := xCall (dds := []) (dvs := []) (fun _ _ => RepL.nil) h hl rfl
  rwa [defl_nil] at this
theorem insOf_rep {H F : Hp} {mu : List Addr} {st : Mir.St} {x : Opd} {v : V} {c : Nat} {fs : List D} (rh : RH g H F mu st) (r : RepX g H F mu x v) (h : insOf st x = some (c, fs)) :
    ∃ p C ns dx vs, v = .ref p ∧ g.ci c = some (C, ns) ∧ fs.length ≤ ns.length ∧ H p = some (.ins C dx (ns.zip vs)) ∧ RepL g F mu fs vs := by
  unfold insOf at h
  split at h
  · cases h
    simp only [RepX, RepV] at r
    obtain ⟨p, C, ns, dx, vs, h1, h2, h3, h4, h5⟩ := r
    exact ⟨p, C, ns, dx, vs, h1, h2, h3, rh.ins h4, h5⟩
  · split at h
    · rename_i n c' fs' hn
      cases h
      simp only [RepX, RepV] at r
      obtain ⟨a, h1, rfl⟩ := r
      obtain ⟨a', h2, _, C, ns, dx, vs, h3, h4, h5, h6⟩ := rh.cel _ _ hn
      rw [h1] at h2
      cases h2
      exact ⟨a, C, ns, dx, vs, rfl, h3, h4, h5, h6⟩
    · cases h
  · cases h
    obtain ⟨a, rfl, _, _, C, ns, dx, vs, h3, h4, h5, h6⟩ := r
    exact ⟨a, C, ns, dx, vs, rfl, h3, h4, h5, h6⟩
  · cases h
theorem lookup_zip_none {ns : List Str} {m : Str} (h : m ∉ ns) : ∀ (vs : List V), (ns.zip vs).lookup m = none := by
  induction ns with
  | nil => intro vs; simp
  | cons n ns ih =>
    intro vs
    cases vs with
    | nil => simp
    | cons v vs =>
      rw [List.zip_cons_cons, List.lookup_cons]
      have : (m == n) = false := beq_eq_false_iff_ne.mpr fun z => h (z ▸ List.mem_cons_self)
      rw [this]
      exact ih (fun z => h (List.mem_cons_of_mem _ z)) vs
theorem lookup_zip {m : Str} {j : Nat} : ∀ {ns : List Str} {vs : List V} {v : V}, ns.Nodup → ns[j]? = some m → vs[j]? = some v → (ns.zip vs).lookup m = some v := by
  induction j with
  | zero =>
    intro ns vs v nd h1 h2
    cases ns with
    | nil => simp at h1
    | cons n ns =>
      cases vs with
      | nil => simp at h2
      | cons w vs =>
        simp at h1 h2
        subst h1 h2
        simp [List.lookup_cons]
  | succ j ih =>
    intro ns vs v nd h1 h2
    cases ns with
    | nil => simp at h1
    | cons n ns =>
      cases vs with
      | nil => simp at h2
      | cons w vs =>
        simp at h1 h2
        rw [List.zip_cons_cons, List.lookup_cons]
        have : (m == n) = false := beq_eq_false_iff_ne.mpr fun z => (List.nodup_cons.mp nd).1 (z ▸ List.mem_of_getElem? h1)
        rw [this]
        exact ih (List.nodup_cons.mp nd).2 h1 h2
/-- o.m(..) -/
theorem xMeth {C : Addr} {ns : List Str} {m : Str} {ci n k : Nat} {f : FM} {dds : List D} {dvs : List V} (hc : g.ci ci = some (C, ns)) (hm : m ∉ ns) (hd : ∀ F mu, RepL g F mu dds dvs) (h : PE X e (tMeth C m (spOf g n f) dvs E (rdE g E ma) (rdA g E mas))) (hl : AM.len mas k) (hn : k + dvs.length + 1 = n) : PE X e (rdE g E (eMeth ci (defl f dds) ma mas)) := by
  refine PE.imp h fun s H Q k' => ?_
  obtain ⟨r, st, F, mu, re, k'⟩ := k'
  refine ⟨r, st, F, mu, re, OutQ.bind k' fun x st1 v H1 F1 mu1 _ e1 re1 rx k1 => ?_⟩
  split at k1
  · rename_i d c' fs _ hi
    split at k1
    · rename_i hcc
      subst hcc
      obtain ⟨p, C', ns', dx, vs, rfl, h1, h2, h3, h4⟩ := insOf_rep re1.h rx hi
      rw [hc] at h1
      cases h1
      refine ⟨p, dx, _, rfl, h3, lookup_zip_none hm _, r, st1, F1, mu1, re1, OutQ.bind (k1.ext e1) fun xs st2 us H2 F2 mu2 ho e2 re2 rxs k2 => ?_⟩
      cases hv : valsOf xs with
      | none => rw [hv] at k2; exact k2.elim
      | some ds =>
        rw [hv] at k2
        have rl := rxs.vals hv
        refine ⟨?_, d :: (ds ++ dds), st2, F2, mu2, re2.h, .cons (RepV.mono e2.mo _ _ rx) (rl.append (hd _ _)), ?_⟩
        · rw [List.length_cons, List.length_append, ← rl.length, ← valsOf_len hv, hl _ _ _ _ ho]
          exact hn
        · dsimp only [defl, List.cons_append] at k2
          cases hf : f (d :: (ds ++ dds)) st2 with
          | ok d2 st3 =>
            rw [hf] at k2
            exact fun v H' F' mu' e' rh' rv => k2 v H' F' mu' (e2.trans e') (re2.step e' rh') rv
          | exc y st3 =>
            rw [hf] at k2
            exact fun H' F' mu' e' rh' => k2 H' F' mu' (e2.trans e') (re2.step e' rh')
          | bad => rw [hf] at k2; exact k2
    · exact k1.elim
  · exact k1.elim
theorem xMethN {C : Addr} {ns : List Str} {m : Str} {ci n k : Nat} {f : FM} (hc : g.ci ci = some (C, ns)) (hm : m ∉ ns) (h : PE X e (tMeth C m (spOf g n f) [] E (rdE g E ma) (rdA g E mas))) (hl : AM.len mas k) (hn : k + 1 = n) : PE X e (rdE g E (eMeth ci f ma mas)) := by
  have := xMeth (dds := []) (dvs := []) hc hm (fun _ _ => RepL.nil) h hl hn
  rwa [defl_nil] at this
theorem aNilT : ∀ s H Q, rdA g E aNil s H Q → tNil s H Q := fun s H Q h => by
  obtain ⟨r, st, F, mu, re, h⟩ := h
  exact h [] H F mu (.refl _ _ _) re rfl
theorem tMeth_nil {C : Addr} {m : Str} {sp : Sp} {dvs : List V} {ta : TE} (h : PE X e (tMeth C m sp dvs E ta tNil)) (mono : ∀ s H Q Q', (∀ v H1, Q v H1 → Q' v H1) → ta s H Q → ta s H Q') : PE X e (tMeth C m sp dvs E ta (rdA g E aNil)) := PE.imp h fun s H Q k =>
  mono s H _ _ (fun v H1 ⟨p, dx, fs, h1, h2, h3, h4⟩ => ⟨p, dx, fs, h1, h2, h3, aNilT _ _ _ h4⟩) k
theorem rdE_mono : ∀ s H Q Q', (∀ v H1, Q v H1 → Q' v H1) → rdE g E ma s H Q → rdE g E ma s H Q' := fun s H Q Q' h k => by
  obtain ⟨r, st, F, mu, re, k⟩ := k
  refine ⟨r, st, F, mu, re, ?_⟩
  cases hm : ma r st with
  | ok x st' => rw [hm] at k; exact fun v H' F' mu' e' re' rv => h _ _ (k v H' F' mu' e' re' rv)
  | exc x st' => rw [hm] at k; exact k
  | bad => rw [hm] at k; exact k
/-- o.f -/
theorem xFld {C : Addr} {ns : List Str} {f : Str} {ci j : Nat} (hK : X.K = g.K) (hc : g.ci ci = some (C, ns)) (nd : ns.Nodup) (hj : ns[j]? = some f) (cl : Cls g.K C) (na : NoAttr g.K C f) (h : PE X e (tFld X.K (rdE g E ma) f)) : PE X e (rdE g E (eFld ci j ma)) := by
  refine PE.imp h fun s H Q k => ?_
  obtain ⟨r, st, F, mu, re, k⟩ := k
  refine ⟨r, st, F, mu, re, OutQ.bind k fun x st1 v H1 F1 mu1 _ e1 re1 rx k1 => ?_⟩
  split at k1
  · rename_i c' fs hi
    split at k1
    · rename_i hcc
      subst hcc
      obtain ⟨p, C', ns', dx, vs, rfl, h1, h2, h3, h4⟩ := insOf_rep re1.h rx hi
      rw [hc] at h1
      cases h1
      cases hf : fs[j]? with
      | none => rw [hf] at k1; exact k1.elim
      | some d =>
        rw [hf] at k1
        obtain ⟨w, w1, w2⟩ := h4.get hf
        exact ⟨p, C, dx, _, w, rfl, h3, by rw [hK]; exact cl, by rw [hK]; exact na, lookup_zip nd hj w1, k1 w H1 F1 mu1 e1 re1 w2⟩
    · exact k1.elim
  · exact k1.elim
/-- C(..) -/
theorem yMake {C : Addr} {ns : List Str} {ci n k : Nat} {f : XM} (hc : g.ci ci = some (C, ns)) (h : PE X e (tMake C (spInit g ci n f) [] E (rdA g E mas))) (hl : AM.len mas k) (hn : k + 1 = n) : PE X e (rdN g E (nMake ci f mas)) := by
  refine PE.imp h fun s H Q k' => ?_
  obtain ⟨r, st, F, mu, re, k'⟩ := k'
  refine ⟨r, st, F, mu, re, OutQ.bind k' fun xs st1 vs H1 F1 mu1 ho e1 re1 rx k1 => ?_⟩
  cases hv : valsOf xs with
  | none => rw [hv] at k1; exact k1.elim
  | some ds =>
    rw [hv] at k1
    intro x dx nx ndx nex
    have rl := rx.vals hv
    refine ⟨?_, x, dx, C, ns, vs, ds, st1, F1, mu1, H1, by rw [List.append_nil], hc, rfl, nx, ndx, nex, re1.h, rl, ?_⟩
    · rw [List.append_nil, List.length_cons, ← rl.length, ← valsOf_len hv, hl _ _ _ _ ho]
      exact hn
    · dsimp only at k1
      cases hf : f ds st1 with
      | ok fs st2 =>
        rw [hf] at k1
        exact fun H' F' mu' e' rh' q1 q2 q3 => ⟨rfl, k1 _ H' F' mu' (e1.trans e') (re1.step e' rh') ⟨x, rfl, q1, q2, dom_none e1 nx, q3⟩⟩
      | exc y st2 =>
        rw [hf] at k1
        exact fun H' F' mu' e' rh' => k1 H' F' mu' (e1.trans e') (re1.step e' rh')
      | bad => rw [hf] at k1; exact k1
theorem tMake_nil {C : Addr} {sp : Sp} {dvs : List V} (h : PE X e (tMake C sp dvs E tNil)) : PE X e (tMake C sp dvs E (rdA g E aNil)) := PE.imp h fun s H Q k => aNilT _ _ _ k
theorem tCall_nil {sp : Sp} {dvs : List V} (h : PE X e (tCall sp dvs E tNil)) : PE X e (tCall sp dvs E (rdA g E aNil)) := PE.imp h fun s H Q k => aNilT _ _ _ k
end
end Mir
/-! E6: statements, loops, comprehensions, defs. -/
namespace Mir
open PySem PySem.Spec PyProof.Rows L2

structure Bs where
  H : Hp
  F : Hp
  mu : List Addr
  self : Option Addr := none
structure RB (g : G) (B : Bs) (s : L2.St) (H F : Hp) (mu : List Addr) (r : Env) (st : Mir.St) : Prop where
  re : RE g s H F mu r st
  ext : Ext B.H B.F B.mu H F mu
  own : ∀ (i : Nat) (c : Cell) (a : Addr), r[i]? = some (.own c) → s[i]? = some (some (.ref a)) → Nw B.H a
  slf : ∀ (i ci : Nat) (fs : List D) (a : Addr), r[i]? = some (.own (.ins ci fs)) → s[i]? = some (some (.ref a)) → B.self = some a
def PostS (g : G) (E : XK) (B : Bs) (F : Hp) (mu : List Addr) (D : Ends) : SOut → Prop
  | .nx r' st' => ∀ s' H' F' mu', RB g B s' H' F' mu' r' st' → Mono F mu F' mu' → D.nx s' H'
  | .bk r' st' => ∀ s' H' F' mu', RB g B s' H' F' mu' r' st' → Mono F mu F' mu' → D.bk s' H'
  | .ct r' st' => ∀ s' H' F' mu', RB g B s' H' F' mu' r' st' → Mono F mu F' mu' → D.ct s' H'
  | .rt d st' => ∀ v H' F' mu', RH g H' F' mu' st' → Ext B.H B.F B.mu H' F' mu' → Mono F mu F' mu' → RepV g F' mu' d v → D.rt v H'
  | .exc e _ st' => ∀ H' F' mu', RH g H' F' mu' st' → Ext B.H B.F B.mu H' F' mu' → XQ g E e H'
  | .bad => False
def rdS (g : G) (E : XK) (B : Bs) (m : SM) : TS := fun D s H => ∃ r st F mu, RB g B s H F mu r st ∧ PostS g E B F mu D (m r st)
theorem PostS.mono {g : G} {E : XK} {B : Bs} {F F1 : Hp} {mu mu1 : List Addr} {D : Ends} (m : Mono F mu F1 mu1) : ∀ {o : SOut}, PostS g E B F mu D o → PostS g E B F1 mu1 D o
  | .nx _ _, h => fun s' H' F' mu' rb k => h s' H' F' mu' rb (m.trans k)
  | .bk _ _, h => fun s' H' F' mu' rb k => h s' H' F' mu' rb (m.trans k)
  | .ct _ _, h => fun s' H' F' mu' rb k => h s' H' F' mu' rb (m.trans k)
  | .rt _ _, h => fun v H' F' mu' a b c d => h v H' F' mu' a b (m.trans c) d
  | .exc _ _ _, h => h
  | .bad, h => h
section
variable {g : G} {B : Bs} {s : L2.St} {H F H' F' : Hp} {mu mu' : List Addr} {r : Env} {st st' : Mir.St}
theorem RB.step (x : RB g B s H F mu r st) (e : Ext H F mu H' F' mu') (re : RE g s H' F' mu' r st') : RB g B s H' F' mu' r st' := ⟨re, x.ext.trans e, x.own, x.slf⟩
theorem get_set {α : Type} {l : List α} {i j : Nat} {x : α} (h : i < l.length) : (l.set i x)[j]? = if i = j then some x else l[j]? := by
  rw [List.getElem?_set]
  split
  · simp [h]
  · rfl
theorem RE.setV (x : RE g s H F mu r st) {i : Nat} {d : D} {v : V} (hv : RepV g F mu d v) (hi : i < r.length) : RE g (s.set i (some v)) H F mu (r.set i (.val d)) st := by
  have hi' : i < s.length := by rw [x.len]; exact hi
  refine ⟨x.h, by simp [x.len], fun j y hy => ?_, fun j k c c' a b h1 h2 h3 h4 ne => ?_⟩
  · rw [get_set hi] at hy
    by_cases e : i = j
    · subst e
      rw [if_pos rfl] at hy
      cases hy
      exact ⟨some v, by simp [hi'], v, rfl, hv⟩
    · rw [if_neg e] at hy
      obtain ⟨o, h1, h2⟩ := x.slot j y hy
      exact ⟨o, by rw [get_set hi', if_neg e]; exact h1, h2⟩
  · rw [get_set hi] at h1 h2
    rw [get_set hi'] at h3 h4
    by_cases e : i = j
    · rw [if_pos e] at h1; cases h1
    · by_cases e' : i = k
      · rw [if_pos e'] at h2; cases h2
      · rw [if_neg e] at h1 h3
        rw [if_neg e'] at h2 h4
        exact x.own j k c c' a b h1 h2 h3 h4 ne
theorem RB.setV (x : RB g B s H F mu r st) {i : Nat} {d : D} {v : V} (hv : RepV g F mu d v) (hi : i < r.length) : RB g B (s.set i (some v)) H F mu (r.set i (.val d)) st := by
  have hi' : i < s.length := by rw [x.re.len]; exact hi
  refine ⟨x.re.setV hv hi, x.ext, fun j c a h1 h2 => ?_, fun j ci fs a h1 h2 => ?_⟩
  · rw [get_set hi] at h1
    rw [get_set hi'] at h2
    by_cases e : i = j
    · rw [if_pos e] at h1; cases h1
    · rw [if_neg e] at h1 h2
      exact x.own j c a h1 h2
  · rw [get_set hi] at h1
    rw [get_set hi'] at h2
    by_cases e : i = j
    · rw [if_pos e] at h1; cases h1
    · rw [if_neg e] at h1 h2
      exact x.slf j ci fs a h1 h2
theorem RE.setO (x : RE g s H F mu r st) {i : Nat} {c : Cell} {a : Addr} (hF : F a = none) (hm : a ∉ mu) (hc : CellAt g F mu H a c) (hi : i < r.length)
    (hne : ∀ (j : Nat) (c' : Cell) (b : Addr), j ≠ i → r[j]? = some (.own c') → s[j]? = some (some (.ref b)) → b ≠ a) : RE g (s.set i (some (.ref a))) H F mu (r.set i (.own c)) st := by
  have hi' : i < s.length := by rw [x.len]; exact hi
  refine ⟨x.h, by simp [x.len], fun j y hy => ?_, fun j k c1 c2 a1 b1 h1 h2 h3 h4 ne => ?_⟩
  · rw [get_set hi] at hy
    by_cases e : i = j
    · subst e
      rw [if_pos rfl] at hy
      cases hy
      exact ⟨some (.ref a), by simp [hi'], a, rfl, hF, hm, hc⟩
    · rw [if_neg e] at hy
      obtain ⟨o, h1, h2⟩ := x.slot j y hy
      exact ⟨o, by rw [get_set hi', if_neg e]; exact h1, h2⟩
  · rw [get_set hi] at h1 h2
    rw [get_set hi'] at h3 h4
    by_cases e : i = j
    · by_cases e' : i = k
      · exact absurd (e.symm.trans e') ne
      · rw [if_pos e] at h3
        rw [if_neg e'] at h2 h4
        cases h3
        exact Ne.symm (hne k c2 b1 (Ne.symm e') h2 h4)
    · by_cases e' : i = k
      · rw [if_pos e'] at h4
        rw [if_neg e] at h1 h3
        cases h4
        exact hne j c1 a1 (Ne.symm e) h1 h3
      · rw [if_neg e] at h1 h3
        rw [if_neg e'] at h2 h4
        exact x.own j k c1 c2 a1 b1 h1 h2 h3 h4 ne
/-- what other slots own stands in H -/
theorem RE.ownAt (x : RE g s H F mu r st) {j : Nat} {c : Cell} {b : Addr} (h1 : r[j]? = some (.own c)) (h2 : s[j]? = some (some (.ref b))) : F b = none ∧ b ∉ mu ∧ CellAt g F mu H b c := by
  obtain ⟨o, e1, e2⟩ := x.slot j _ h1
  rw [h2] at e1
  cases e1
  obtain ⟨a, e3, e4, e5, e6⟩ := e2
  cases e3
  exact ⟨e4, e5, e6⟩
theorem RE.ownGet (x : RE g s H F mu r st) {j : Nat} {c : Cell} (h1 : r[j]? = some (.own c)) : ∃ b, s[j]? = some (some (.ref b)) ∧ F b = none ∧ b ∉ mu ∧ CellAt g F mu H b c := by
  obtain ⟨o, e1, e2⟩ := x.slot j _ h1
  obtain ⟨a, rfl, e4, e5, e6⟩ := e2
  exact ⟨a, e1, e4, e5, e6⟩
theorem RB.setO (x : RB g B s H F mu r st) {i : Nat} {c : Cell} {a : Addr} (hF : F a = none) (hm : a ∉ mu) (hc : CellAt g F mu H a c) (hi : i < r.length) (h0 : Nw B.H a) (hI : c.noIns = true)
    (hne : ∀ (j : Nat) (c' : Cell) (b : Addr), j ≠ i → r[j]? = some (.own c') → s[j]? = some (some (.ref b)) → b ≠ a) : RB g B (s.set i (some (.ref a))) H F mu (r.set i (.own c)) st := by
  have hi' : i < s.length := by rw [x.re.len]; exact hi
  refine ⟨x.re.setO hF hm hc hi hne, x.ext, fun j c a h1 h2 => ?_, fun j ci fs a h1 h2 => ?_⟩
  · rw [get_set hi] at h1
    rw [get_set hi'] at h2
    by_cases e : i = j
    · rw [if_pos e] at h2
      cases h2
      exact h0
    · rw [if_neg e] at h1 h2
      exact x.own j c a h1 h2
  · rw [get_set hi] at h1
    rw [get_set hi'] at h2
    by_cases e : i = j
    · rw [if_pos e] at h1
      cases h1
      cases hI
    · rw [if_neg e] at h1 h2
      exact x.slf j ci fs a h1 h2
end

section
variable {X : Cx} {g : G} {E : XK} {B : Bs} {pos : Pos} {a b c e o : Expr} {ma mb mc : EM} {es : List Expr} {mas : AM} {sa sb : Stmt} {ss : List Stmt} {m m1 m2 : SM}
theorem qNil : PSs X [] (rdS g E B sNext) := PSs.imp pss_nil fun D s H h => by
  obtain ⟨r, st, F, mu, rb, h⟩ := h
  exact h s H F mu rb (.refl _ _)
theorem qSeq (h1 : PS X sa (rdS g E B m1)) (h2 : PSs X ss (rdS g E B m2)) : PSs X (sa :: ss) (rdS g E B (sSeq m1 m2)) := PSs.imp (pss_cons h1 h2) fun D s H h => by
  obtain ⟨r, st, F, mu, rb, h⟩ := h
  refine ⟨r, st, F, mu, rb, ?_⟩
  unfold sSeq at h
  cases hm : m1 r st with
  | nx r1 st1 =>
    rw [hm] at h
    exact fun s' H' F' mu' rb' k => ⟨r1, st1, F', mu', rb', h.mono k⟩
  | rt d st1 => rw [hm] at h; exact h
  | bk r1 st1 => rw [hm] at h; exact h
  | ct r1 st1 => rw [hm] at h; exact h
  | exc e r1 st1 => rw [hm] at h; exact h
  | bad => rw [hm] at h; exact h
theorem qOne (h1 : PS X sa (rdS g E B m1)) : PSs X [sa] (rdS g E B m1) := pss_one h1
/-- from an expression's end to the statement's -/
theorem sbind {α β : Type} {D : Ends} {s : L2.St} {H F : Hp} {mu : List Addr} {r : Env} {st : Mir.St} {rep : Hp → Hp → List Addr → α → β → Prop} {Q : β → Hp → Prop} {x : Out α} {k : α → Mir.St → SOut} (rb : RB g B s H F mu r st)
    (h : PostS g E B F mu D (sBind r x k))
    (hk : ∀ y st' v H' F' mu', x = .ok y st' → Ext H F mu H' F' mu' → RB g B s H' F' mu' r st' → rep H' F' mu' y v → PostS g E B F' mu' D (k y st') → Q v H') : OutQ g s H F mu r rep E Q x := by
  cases x with
  | ok y st' => exact fun v H' F' mu' e re rp => hk y st' v H' F' mu' rfl e (rb.step e re) rp (h.mono e.mo)
  | exc e st' => exact fun H' F' mu' ex re => h H' F' mu' re.h (rb.ext.trans ex)
  | bad => exact h
theorem qSet {i : Nat} {x : Str} {pos' : Pos} (hN : X.N.Nodup) (hi : X.N[i]? = some x) (hx : Loc X.env.scope x) (he : PE X e (rdE g E ma)) (hs : swapsWith e (some (.Name x pos')) pos.line X.env = pure false := by rfl) (hf : X.fn x = true ∨ X.env.scope.names.lookup x = some .local := by first | exact .inl rfl | exact .inr rfl | assumption) :
    PS X (.Assign [.Name x pos'] e pos) (rdS g E B (sSet i ma)) := PS.imp (ps_set hN hi hx he hs hf) fun D s H h => by
  obtain ⟨r, st, F, mu, rb, h⟩ := h
  refine ⟨r, st, F, mu, rb.re, sbind rb h fun y st' v H' F' mu' _ e rb' rp h' => ?_⟩
  cases y with
  | bor c => exact h'.elim
  | val d =>
    dsimp only at h'
    by_cases hl : i < r.length
    · rw [if_pos hl] at h'
      exact h' _ H' F' mu' (rb'.setV rp hl) (.refl _ _)
    · rw [if_neg hl] at h'
      exact h'.elim
theorem qOwn {i : Nat} {x : Str} {n : NM} {pos' : Pos} (hN : X.N.Nodup) (hi : X.N[i]? = some x) (hx : Loc X.env.scope x) (he : PE X e (rdN g E n)) (hs : swapsWith e (some (.Name x pos')) pos.line X.env = pure false := by rfl) (hf : X.fn x = true ∨ X.env.scope.names.lookup x = some .local := by first | exact .inl rfl | exact .inr rfl | assumption) :
    PS X (.Assign [.Name x pos'] e pos) (rdS g E B (sOwn i n)) := PS.imp (ps_set hN hi hx he hs hf) fun D s H h => by
  obtain ⟨r, st, F, mu, rb, h⟩ := h
  refine ⟨r, st, F, mu, rb.re, sbind rb h fun y st' v H' F' mu' _ e rb' rp h' => ?_⟩
  obtain ⟨p, rfl, q1, q2, q3, q4⟩ := rp
  split at h'
  · rename_i hl
    refine h' _ H' F' mu' (rb'.setO q1 q2 q4 hl.1 (rb.ext.dom _ q3) hl.2 fun j c' b hj h1 h2 => ?_) (.refl _ _)
    obtain ⟨_, _, z⟩ := rb.re.ownAt h1 h2
    obtain ⟨u, z1, z2, _⟩ := z.there
    exact fun z => q3.no (z ▸ z1) z2
  · exact h'.elim
theorem qIf {t : Expr} {mt : TM} {sa sb : List Stmt} (ht : PT X t (rdT g E mt)) (ha : PSs X sa (rdS g E B m1)) (hb : PSs X sb (rdS g E B m2)) : PS X (.If t sa sb pos) (rdS g E B (sIf mt m1 m2)) := PS.imp (ps_if ht ha hb) fun D s H h => by
  obtain ⟨r, st, F, mu, rb, h⟩ := h
  refine ⟨r, st, F, mu, rb.re, sbind rb h fun y st' v H' F' mu' _ e rb' rp h' => ?_⟩
  subst rp
  cases y with
  | true => rw [if_pos rfl] at h' ⊢; exact ⟨r, st', F', mu', rb', h'⟩
  | false => rw [if_neg Bool.false_ne_true] at h' ⊢; exact ⟨r, st', F', mu', rb', h'⟩
theorem qRet (he : PE X e (rdE g E ma)) : PS X (.Return (some e) pos) (rdS g E B (sRet ma)) := PS.imp (ps_ret he) fun D s H h => by
  obtain ⟨r, st, F, mu, rb, h⟩ := h
  refine ⟨r, st, F, mu, rb.re, sbind rb h fun y st' v H' F' mu' _ e rb' rp h' => ?_⟩
  cases y with
  | bor c => exact h'.elim
  | val d => exact h' v H' F' mu' rb'.re.h rb'.ext (.refl _ _) rp
theorem qRetV {i : Nat} (he : PE X e (tVar i)) : PS X (.Return (some e) pos) (rdS g E B (sRetV i)) := PS.imp (ps_ret he) fun D s H h => by
  obtain ⟨r, st, F, mu, rb, h⟩ := h
  unfold sRetV at h
  cases hr : r[i]? with
  | none => rw [hr] at h; exact h.elim
  | some y =>
    rw [hr] at h
    cases y with
    | no => exact h.elim
    | val d =>
      obtain ⟨o, h1, v, rfl, h2⟩ := rb.re.slot i _ hr
      exact ⟨v, h1, h v H F mu rb.re.h rb.ext (.refl _ _) h2⟩
    | own c =>
      obtain ⟨p, h1, h2, h3, h4⟩ := rb.re.ownGet hr
      dsimp only at h
      cases hd : c.frz with
      | none => rw [hd] at h; exact h.elim
      | some d =>
        rw [hd] at h
        obtain ⟨u, u1, u2, u3⟩ := h4.frz rb.re.h h2 h3 hd
        exact ⟨.ref p, h1, h (.ref p) H (upd F p u) mu u2 (rb.ext.freeze h2 (rb.own i c p hr h1)) (Mono.freeze h2) u3⟩
theorem qRetN : PS X (.Return none pos) (rdS g E B sRetN) := PS.imp ps_retN fun D s H h => by
  obtain ⟨r, st, F, mu, rb, h⟩ := h
  exact h _ H F mu rb.re.h rb.ext (.refl _ _) (by simp only [RepV])
theorem qExpr (he : PE X e (rdE g E ma)) (hs : swapsWith e none pos.line X.env = pure false := by rfl) : PS X (.Expr e pos) (rdS g E B (sExpr ma)) := PS.imp (ps_expr he hs) fun D s H h => by
  obtain ⟨r, st, F, mu, rb, h⟩ := h
  exact ⟨r, st, F, mu, rb.re, sbind rb h fun y st' v H' F' mu' _ e rb' rp h' => h' _ H' F' mu' rb' (.refl _ _)⟩
theorem qDoc {x j p2} : PS X (.Expr (.Constant (.str x) j pos) p2) (rdS g E B sNext) := PS.imp ps_doc fun D s H h => by
  obtain ⟨r, st, F, mu, rb, h⟩ := h
  exact h s H F mu rb (.refl _ _)
theorem qBreak : PS X (.Break pos) (rdS g E B sBreak) := PS.imp ps_break fun D s H h => by
  obtain ⟨r, st, F, mu, rb, h⟩ := h
  exact h s H F mu rb (.refl _ _)
theorem qCont : PS X (.Continue pos) (rdS g E B sCont) := PS.imp ps_continue fun D s H h => by
  obtain ⟨r, st, F, mu, rb, h⟩ := h
  exact h s H F mu rb (.refl _ _)
theorem qRaise {k : Nat} {C : Addr} (hx : g.ex k = some C) (h : PS X sa (fun D s H => E (.ref C) none H)) : PS X sa (rdS g E B (sRaise k)) := PS.imp h fun D s H h => by
  obtain ⟨r, st, F, mu, rb, h⟩ := h
  obtain ⟨C', h1, h2⟩ := h H F mu rb.re.h rb.ext
  rw [hx] at h1
  cases h1
  exact h2

/-! ### targets -/
/-- what the target does with a value -/
def TgS (g : G) (tr : TG) (tg : Tg) : Prop := ∀ (H F : Hp) (mu : List Addr) (st : Mir.St) (R : L2.St → Env → Prop) (s : L2.St) (r : Env) (d : D) (v : V) (r1 : Env) (Q : L2.St → Hp → Prop), RH g H F mu st →
  (∀ s r i d v, R s r → RepV g F mu d v → i < r.length → R (s.set i (some v)) (r.set i (.val d))) → R s r → RepV g F mu d v → bindT tg d r = some r1 →
  (∀ s', R s' r1 → (∀ vs : List Nat, (∀ i ∈ tg.slots, i ∈ vs) → wipe s' vs = wipe s vs) → Q s' H) → tr v s H Q
def TgsS (g : G) (tr : TGs) (tgs : List Tg) : Prop := ∀ (H F : Hp) (mu : List Addr) (st : Mir.St) (R : L2.St → Env → Prop) (s : L2.St) (r : Env) (ds : List D) (vs : List V) (r1 : Env) (Q : L2.St → Hp → Prop), RH g H F mu st →
  (∀ s r i d v, R s r → RepV g F mu d v → i < r.length → R (s.set i (some v)) (r.set i (.val d))) → R s r → RepL g F mu ds vs → bindTs tgs ds r = some r1 →
  (∀ s', R s' r1 → (∀ vs : List Nat, (∀ i ∈ Tg.slotsL tgs, i ∈ vs) → wipe s' vs = wipe s vs) → Q s' H) → tr vs s H Q
theorem wipe_set {i : Nat} {v : Option V} : ∀ (vs : List Nat) (s : L2.St), i ∈ vs → wipe (s.set i v) vs = wipe s vs
  | w :: vs, s, h => by
    unfold wipe
    by_cases e : i ∈ vs
    · rw [wipe_set vs s e]
    · have hw : i = w := by
        rcases List.mem_cons.mp h with h | h
        · exact h
        · exact absurd h e
      subst hw
      refine List.ext_getElem? fun j => ?_
      by_cases hj : j = i
      · subst hj
        by_cases hl : j < s.length
        · rw [List.getElem?_set_self (by rw [wipe_length, List.length_set]; exact hl), List.getElem?_set_self (by rw [wipe_length]; exact hl)]
        · rw [List.getElem?_eq_none (by simp [wipe_length]; omega), List.getElem?_eq_none (by simp [wipe_length]; omega)]
      · rw [List.getElem?_set_ne (Ne.symm hj), List.getElem?_set_ne (Ne.symm hj)]
        have aux : ∀ (vs : List Nat) (s s' : L2.St), s[j]? = s'[j]? → s.length = s'.length → (wipe s vs)[j]? = (wipe s' vs)[j]? := by
          intro vs
          induction vs with
          | nil => intro s s' h _; exact h
          | cons w vs ih =>
            intro s s' h hl
            unfold wipe
            by_cases hjw : w = j
            · subst hjw
              by_cases hq : w < s.length
              · rw [List.getElem?_set_self (by rw [wipe_length]; exact hq), List.getElem?_set_self (by rw [wipe_length, ← hl]; exact hq)]
              · rw [List.getElem?_eq_none (by simp [wipe_length]; omega), List.getElem?_eq_none (by simp [wipe_length]; omega)]
            · rw [List.getElem?_set_ne hjw, List.getElem?_set_ne hjw]
              exact ih s s' h hl
        exact aux vs _ _ (List.getElem?_set_ne (Ne.symm hj)) (by simp)
theorem tgN {i : Nat} : TgS g (gName i) (.nm i) := by
  intro H F mu st R s r d v r1 Q rh hc hR hv hb k
  simp only [bindT] at hb
  split at hb
  · rename_i hl
    cases hb
    exact k _ (hc s r i d v hR hv hl) fun vs h => wipe_set vs s (h i (by simp [Tg.slots]))
  · cases hb
theorem tgsN : TgsS g gNil [] := by
  intro H F mu st R s r ds vs r1 Q rh hc hR hv hb k
  cases ds with
  | nil =>
    simp only [bindTs] at hb
    cases hb
    simp only [RepL] at hv
    exact ⟨hv, k s hR fun _ _ => rfl⟩
  | cons d ds => simp [bindTs] at hb
theorem tgsC {t : TG} {u : TGs} {tg : Tg} {tgs : List Tg} (h1 : TgS g t tg) (h2 : TgsS g u tgs) : TgsS g (gCons t u) (tg :: tgs) := by
  intro H F mu st R s r ds vs r1 Q rh hc hR hv hb k
  cases ds with
  | nil => simp [bindTs] at hb
  | cons d ds =>
    simp only [bindTs] at hb
    simp only [RepL] at hv
    obtain ⟨v, rest, rfl, hv1, hv2⟩ := hv
    refine ⟨v, rest, rfl, ?_⟩
    cases hb1 : bindT tg d r with
    | none => rw [hb1] at hb; cases hb
    | some r' =>
      rw [hb1] at hb
      refine h1 H F mu st R s r d v r' _ rh hc hR hv1 hb1 fun s' hR' hw' => ?_
      refine h2 H F mu st R s' r' ds rest r1 Q rh hc hR' hv2 hb fun s2 hR2 hw2 => ?_
      refine k s2 hR2 fun ws hws => ?_
      simp only [Tg.slotsL, List.mem_append] at hws
      rw [hw2 ws fun i hi => hws i (.inr hi), hw' ws fun i hi => hws i (.inl hi)]
theorem tgT {n : Nat} {u : TGs} {tgs : List Tg} (h : TgsS g u tgs) (hn : tgs.length = n) : TgS g (gTup g.K n u) (.tp tgs) := by
  intro H F mu st R s r d v r1 Q rh hc hR hv hb k
  have hl : ∀ (ts : List Tg) (ds : List D) (r r1 : Env), bindTs ts ds r = some r1 → ds.length = ts.length := by
    intro ts
    induction ts with
    | nil => intro ds r r1 h; cases ds <;> simp [bindTs] at h ⊢
    | cons t ts ih =>
      intro ds r r1 h
      cases ds with
      | nil => simp [bindTs] at h
      | cons d ds =>
        simp only [bindTs] at h
        split at h
        · simp [ih _ _ _ h]
        · cases h
  have fin : ∀ (ds : List D) (p : Addr) (vs : List V), SqT g.K H p vs → RepL g F mu ds vs → bindTs tgs ds r = some r1 → gTup g.K n u (.ref p) s H Q := fun ds p vs h1 h2 hb =>
    ⟨p, vs, rfl, h1, by rw [← h2.length, hl _ _ _ _ hb, hn], h H F mu st R s r ds vs r1 Q rh hc hR h2 hb fun s' hR' hw => k s' hR' fun ws hws => hw ws fun i hi => hws i (by simpa [Tg.slots] using hi)⟩
  cases d with
  | tup ds =>
    simp only [bindT] at hb
    simp only [RepV] at hv
    obtain ⟨p, vs, rfl, h1, h2⟩ := hv
    exact fin ds p vs (rh.seqT h1) h2 hb
  | ktp ds =>
    simp only [bindT] at hb
    simp only [RepV] at hv
    obtain ⟨p, vs, rfl, h1, h2⟩ := hv
    exact fin ds p vs h1.seq h2 hb
  | _ => simp [bindT] at hb
theorem qUnp {tg : Tg} {tr : TG} {tgt : Expr} (he : PE X e (rdE g E ma)) (hg : PG X tgt tr) (hT : TgS g tr tg) (h0 : PS X (.Assign [tgt] e pos) (tAsg (rdE g E ma) tr)) : PS X (.Assign [tgt] e pos) (rdS g E B (sUnp tg ma)) := PS.imp h0 fun D s H h => by
  obtain ⟨r, st, F, mu, rb, h⟩ := h
  refine ⟨r, st, F, mu, rb.re, sbind rb h fun y st' v H' F' mu' _ e rb' rp h' => ?_⟩
  cases y with
  | bor c => exact h'.elim
  | val d =>
    dsimp only at h'
    cases hb : bindT tg d r with
    | none => rw [hb] at h'; exact h'.elim
    | some r1 =>
      rw [hb] at h'
      refine hT H' F' mu' st' (fun s r => RB g B s H' F' mu' r st') s r d v r1 _ rb'.re.h (fun s r i d v h1 h2 h3 => h1.setV h2 h3) rb' rp hb fun s' hR _ => ?_
      exact h' s' H' F' mu' hR (.refl _ _)

/-! ### what is walked -/
/-- J hands out the data ds -/
def Iter (g : G) (J : It) (ds : List D) (w : Watch) (F0 : Hp) (mu0 : List Addr) : Prop := ∀ (H F : Hp) (mu : List Addr) (st : Mir.St), Mono F0 mu0 F mu → RH g H F mu st → w.ok st = true → ∀ i : Nat, (i = ds.length → J.stop i H) ∧ ∀ d, ds[i]? = some d → J.go i H ∧
  ∀ x H', J.yld i H x H' → ∃ F', RH g H' F' mu st ∧ Ext H F mu H' F' mu ∧ RepV g F' mu d x
def rdI (g : G) (E : XK) (m : IM) : TI := fun s H R => ∃ r st F mu, RE g s H F mu r st ∧ OutQ g s H F mu r (fun _ F' mu' p J => Iter g J p.1 p.2 F' mu') E R (m r st)
theorem PI.imp {tg : Expr} {w w' : TI} (h : PI X tg e w) (k : ∀ s H R, w' s H R → w s H R) : PI X tg e w' := ⟨fun pins s σ H R I q => h.run pins s σ H R I (k σ H R q)⟩
def isFree : Watch → Bool
  | .free => true
  | _ => false
theorem qFor {tgt iter : Expr} {body : List Stmt} {it : IM} {tg : Tg} {tr : TG} (hp : PassesOwn (model X.prog X.w) X.A X.env X.xe) (hc : X.calm = true) (hi : PI X tgt iter (rdI g E it)) (hg : PG X tgt tr) (hT : TgS g tr tg) (hb : PSs X body (rdS g E B m1))
    (hs : ∀ x, foldedSetIterable iter X.env x = pure x := by intro _; rfl) : PS X (.For tgt iter body [] pos) (rdS g E B (sFor it tg m1)) := PS.imp (ps_for hp hc hi hg hb hs) fun D s H h => by
  obtain ⟨r, st, F, mu, rb, h⟩ := h
  refine ⟨r, st, F, mu, rb.re, sbind rb h fun p st1 J H1 F1 mu1 _ e1 rb1 hJ h1 => ?_⟩
  obtain ⟨ds, w⟩ := p
  dsimp only at h1 hJ
  split at h1
  · rename_i hw0
    refine ⟨fun i k σ H => k = ds.length - i ∧ i ≤ ds.length ∧ ∃ r st F mu, RB g B σ H F mu r st ∧ Mono F1 mu1 F mu ∧ w.ok st = true ∧ PostS g E B F mu D (forLoop tg m1 w (ds.drop i) r st),
      ⟨ds.length, by simp, Nat.zero_le _, r, st1, F1, mu1, rb1, .refl _ _, hw0, by simpa using h1⟩, ?_⟩
    rintro i k σ H2 ⟨rfl, hik, r2, st2, F2, mu2, rb2, mo2, hw2, h2⟩
    have hJi := hJ H2 F2 mu2 st2 mo2 rb2.re.h hw2 i
    by_cases hlt : i < ds.length
    · have hd : ds[i]? = some ds[i] := List.getElem?_eq_getElem hlt
      obtain ⟨hgo, hy⟩ := hJi.2 _ hd
      rw [List.drop_eq_getElem_cons hlt] at h2
      unfold forLoop at h2
      refine .inr ⟨hgo, fun σ' H' => ∃ r st F mu, RB g B σ' H' F mu r st ∧ Mono F1 mu1 F mu ∧ w.ok st = true ∧ PostS g E B F mu D (forLoop tg m1 w (ds.drop (i + 1)) r st), fun σ' H' hN => ⟨ds.length - (i + 1), by omega, rfl, hlt, hN⟩, fun x H' yy => ?_⟩
      obtain ⟨F', rh', ex', rv⟩ := hy x H' yy
      have rb' := rb2.step ex' (rb2.re.step ex' rh')
      cases hbt : bindT tg ds[i] r2 with
      | none => rw [hbt] at h2; exact h2.elim
      | some r3 =>
        rw [hbt] at h2
        dsimp only at h2
        refine hT H' F' mu2 st2 (fun s r => RB g B s H' F' mu2 r st2) σ r2 _ x r3 _ rh' (fun s r i d v q1 q2 q3 => q1.setV q2 q3) rb' rv hbt fun s' hR _ => ?_
        refine ⟨r3, st2, F', mu2, hR, ?_⟩
        have h2' := PostS.mono (D := D) ex'.mo h2
        cases hm : m1 r3 st2 with
        | nx r4 st4 =>
          rw [hm] at h2'
          dsimp only at h2'
          split at h2'
          · rename_i hw4
            exact fun s4 H4 F4 mu4 rb4 mo4 => ⟨r4, st4, F4, mu4, rb4, (mo2.trans ex'.mo).trans mo4, hw4, PostS.mono mo4 h2'⟩
          · exact h2'.elim
        | ct r4 st4 =>
          rw [hm] at h2'
          dsimp only at h2'
          split at h2'
          · rename_i hw4
            exact fun s4 H4 F4 mu4 rb4 mo4 => ⟨r4, st4, F4, mu4, rb4, (mo2.trans ex'.mo).trans mo4, hw4, PostS.mono mo4 h2'⟩
          · exact h2'.elim
        | bk r4 st4 => rw [hm] at h2'; exact h2'
        | rt d st4 => rw [hm] at h2'; exact h2'
        | exc e r4 st4 => rw [hm] at h2'; exact h2'
        | bad => rw [hm] at h2'; exact h2'
    · have he : i = ds.length := by omega
      subst he
      rw [List.drop_length] at h2
      exact .inl ⟨hJi.1 rfl, h2 σ H2 F2 mu2 rb2 (.refl _ _)⟩
  · exact h1.elim
theorem qWhile {t : Expr} {body : List Stmt} {mt : TM} (hp : PassesOwn (model X.prog X.w) X.A X.env X.xe) (ht : PT X t (rdT g E mt)) (hb : PSs X body (rdS g E B m1)) : PS X (.While t body [] pos) (rdS g E B (sWhile mt m1)) := PS.imp (ps_while hp ht hb) fun D s H h => by
  obtain ⟨r, st, F, mu, rb, h⟩ := h
  refine ⟨fun k σ H => ∃ r st F mu, RB g B σ H F mu r st ∧ PostS g E B F mu D (whileLoop mt m1 k r st), ⟨fuel, r, st, F, mu, rb, h⟩, ?_⟩
  rintro k σ H2 ⟨r2, st2, F2, mu2, rb2, h2⟩
  cases k with
  | zero => exact h2.elim
  | succ k =>
    unfold whileLoop at h2
    refine ⟨r2, st2, F2, mu2, rb2.re, ?_⟩
    cases hm : mt r2 st2 with
    | ok c st3 =>
      rw [hm] at h2
      intro c' H3 F3 mu3 e3 re3 ec
      subst ec
      have rb3 := rb2.step e3 re3
      cases c with
      | true =>
        rw [if_pos rfl]
        refine ⟨fun σ' H' => ∃ r st F mu, RB g B σ' H' F mu r st ∧ PostS g E B F mu D (whileLoop mt m1 k r st), fun σ' H' hN => ⟨k, Nat.lt_succ_self _, hN⟩, r2, st3, F3, mu3, rb3, ?_⟩
        have h2' := PostS.mono (D := D) e3.mo h2
        dsimp only at h2'
        cases hb4 : m1 r2 st3 with
        | nx r4 st4 => rw [hb4] at h2'; exact fun s4 H4 F4 mu4 rb4 mo4 => ⟨r4, st4, F4, mu4, rb4, PostS.mono mo4 h2'⟩
        | ct r4 st4 => rw [hb4] at h2'; exact fun s4 H4 F4 mu4 rb4 mo4 => ⟨r4, st4, F4, mu4, rb4, PostS.mono mo4 h2'⟩
        | bk r4 st4 => rw [hb4] at h2'; exact h2'
        | rt d st4 => rw [hb4] at h2'; exact h2'
        | exc e r4 st4 => rw [hb4] at h2'; exact h2'
        | bad => rw [hb4] at h2'; exact h2'
      | false =>
        rw [if_neg Bool.false_ne_true]
        exact h2 σ H3 F3 mu3 rb3 e3.mo
    | exc e st3 =>
      rw [hm] at h2
      exact fun H' F' mu' ex re => h2 H' F' mu' re.h (rb2.ext.trans ex)
    | bad => rw [hm] at h2; exact h2.elim

/-! ### comprehensions -/
theorem wipeE_len : ∀ (vs : List Nat) (r : Env), (wipeE vs r).length = r.length
  | [], r => rfl
  | v :: vs, r => by unfold wipeE; rw [List.length_set, wipeE_len vs r]
theorem RE.wipe {s : L2.St} {H F : Hp} {mu : List Addr} {r : Env} {st : Mir.St} (x : RE g s H F mu r st) : ∀ vs : List Nat, RE g (L2.wipe s vs) H F mu (wipeE vs r) st
  | [] => x
  | w :: vs => by
    have ih := x.wipe vs
    unfold L2.wipe wipeE
    by_cases hw : w < r.length
    · have hl : w < (wipeE vs r).length := by rw [wipeE_len]; exact hw
      have hl' : w < (L2.wipe s vs).length := by rw [ih.len]; exact hl
      refine ⟨ih.h, by simp [ih.len], fun j y hy => ?_, fun i j c c' a b h1 h2 h3 h4 ne => ?_⟩
      · rw [get_set hl] at hy
        by_cases e : w = j
        · rw [if_pos e] at hy
          cases hy
          exact ⟨none, by rw [get_set hl', if_pos e], trivial⟩
        · rw [if_neg e] at hy
          obtain ⟨o, q1, q2⟩ := ih.slot j y hy
          exact ⟨o, by rw [get_set hl', if_neg e]; exact q1, q2⟩
      · rw [get_set hl] at h1 h2
        rw [get_set hl'] at h3 h4
        by_cases e : w = i
        · rw [if_pos e] at h1; cases h1
        · by_cases e' : w = j
          · rw [if_pos e'] at h2; cases h2
          · rw [if_neg e] at h1 h3
            rw [if_neg e'] at h2 h4
            exact ih.own i j c c' a b h1 h2 h3 h4 ne
    · rw [List.set_eq_of_length_le (by rw [ih.len, wipeE_len]; omega), List.set_eq_of_length_le (by rw [wipeE_len]; omega)]
      exact ih
theorem yLcT {E' : XK} {it : IM} {tg : Tg} {tr : TG} {mt : TM} {tt : TT} {vs : List Nat} (hv : ∀ i ∈ tg.slots, i ∈ vs) (hT : TgS g tr tg) (htt : ∀ s H Q, rdT g E' mt s H Q → tt s H Q) : ∀ s H Q, rdN g E (nLc it tg mt ma vs) s H Q → tLc (rdI g E it) tr tt (rdE g E' ma) vs s H Q := by
  intro s H Q k
  obtain ⟨r, st, F, mu, re, k⟩ := k
  refine ⟨r, st, F, mu, re, OutQ.bind k fun p st1 J H1 F1 mu1 _ e1 re1 hJ k1 => ?_⟩
  obtain ⟨ds, w⟩ := p
  dsimp only at hJ k1
  intro D hD
  split at k1
  · rename_i hw0
    refine ⟨fun i m H2 => m = ds.length - i ∧ i ≤ ds.length ∧ ∃ acc us st2 F2 mu2, RE g s H2 F2 mu2 r st2 ∧ Ext H1 F1 mu1 H2 F2 mu2 ∧ F2 D = none ∧ D ∉ mu2 ∧ H2 D = some (.lst us) ∧ RepL g F2 mu2 acc us ∧ w.ok st2 = true ∧
      OutQ g s H F mu r (fun H' F' mu' c v => ∃ a, v = .ref a ∧ F' a = none ∧ a ∉ mu' ∧ Nw H a ∧ CellAt g F' mu' H' a c) E Q (lcRes (lcLoop tg mt ma vs w r (ds.drop i) acc st2)),
      ⟨ds.length, by simp, Nat.zero_le _, [], [], st1, F1, mu1, re1.step (Ext.newOwn hD) (re1.h.newOwn hD), Ext.newOwn hD, F_new re1.h hD, fun z => mem_mu re1.h z hD, upd_same, .nil, hw0, by simpa using k1⟩, ?_⟩
    rintro i m H2 ⟨rfl, hik, acc, us, st2, F2, mu2, re2, ex2, fD, mD, hHD, rl, hw2, k2⟩
    have mo2 : Mono F1 mu1 F2 mu2 := ex2.mo
    have hJi := hJ H2 F2 mu2 st2 mo2 re2.h hw2 i
    by_cases hlt : i < ds.length
    · have hd : ds[i]? = some ds[i] := List.getElem?_eq_getElem hlt
      obtain ⟨hgo, hy⟩ := hJi.2 _ hd
      rw [List.drop_eq_getElem_cons hlt] at k2
      unfold lcLoop at k2
      refine .inr ⟨hgo, fun H' => ∃ acc us st2 F2 mu2, RE g s H' F2 mu2 r st2 ∧ Ext H1 F1 mu1 H' F2 mu2 ∧ F2 D = none ∧ D ∉ mu2 ∧ H' D = some (.lst us) ∧ RepL g F2 mu2 acc us ∧ w.ok st2 = true ∧
        OutQ g s H F mu r (fun H' F' mu' c v => ∃ a, v = .ref a ∧ F' a = none ∧ a ∉ mu' ∧ Nw H a ∧ CellAt g F' mu' H' a c) E Q (lcRes (lcLoop tg mt ma vs w r (ds.drop (i + 1)) acc st2)),
        fun H' hN => ⟨ds.length - (i + 1), by omega, rfl, hlt, hN⟩, fun x H' yy => ?_⟩
      obtain ⟨F', rh', ex', rv⟩ := hy x H' yy
      have re' := re2.step ex' rh'
      have keepD : ∀ {H3 F3 : Hp} {mu3 : List Addr}, Ext H2 F2 mu2 H3 F3 mu3 → F3 D = none ∧ D ∉ mu3 ∧ H3 D = some (.lst us) := by
        intro H3 F3 mu3 ex3
        refine ⟨?_, fun z => ?_, ex3.keep D _ hHD mD (fun ps z => by cases z)⟩
        · cases q : F3 D with
          | none => rfl
          | some z =>
            rcases ex3.frF D z q with y | y | y
            · rw [fD] at y; cases y
            · exact (y.no hHD (fun ps z => by cases z)).elim
            · exact absurd y mD
        · rcases ex3.frM D z with y | y
          · exact mD y
          · exact y.no hHD (fun ps z => by cases z)
      cases hbt : bindT tg ds[i] (wipeE vs r) with
      | none => rw [hbt] at k2; exact k2.elim
      | some r3 =>
        rw [hbt] at k2
        dsimp only at k2
        refine hT H' F' mu2 st2 (fun s r => RE g s H' F' mu2 r st2) (L2.wipe s vs) (wipeE vs r) _ x r3 _ rh' (fun s r i d v q1 q2 q3 => q1.setV q2 q3) (re'.wipe vs) rv hbt fun s' hR hws => ?_
        have hww := hws vs hv
        have wipe_idem : ∀ (vs : List Nat) (s : L2.St), wipe (wipe s vs) vs = wipe s vs := by
          have h1 : ∀ (vs : List Nat) (s : L2.St) (i : Nat), i ∈ vs → (wipe s vs)[i]? = if i < s.length then some none else none := by
            intro vs
            induction vs with
            | nil => intro s i h; cases h
            | cons w vs ih =>
              intro s i h
              unfold wipe
              by_cases e : w = i
              · subst e
                by_cases hl : w < s.length
                · rw [List.getElem?_set_self (by rw [wipe_length]; exact hl), if_pos hl]
                · rw [List.getElem?_eq_none (by simp [wipe_length]; omega), if_neg hl]
              · rw [List.getElem?_set_ne e]
                exact ih s i ((List.mem_cons.mp h).resolve_left (Ne.symm e))
          intro vs s
          refine List.ext_getElem? fun j => ?_
          by_cases hj : j ∈ vs
          · rw [h1 vs _ j hj, h1 vs _ j hj, wipe_length]
          · rw [wipe_out hj]
        rw [wipe_idem] at hww
        refine ⟨hww, htt _ _ _ ⟨r3, st2, F', mu2, hR, ?_⟩⟩
        cases hm : mt r3 st2 with
        | exc e st3 => rw [hm] at k2; exact k2.elim
        | bad => rw [hm] at k2; exact k2.elim
        | ok c st3 =>
          rw [hm] at k2
          intro c' H3 F3 mu3 e3 re3 ec
          subst ec
          cases c with
          | true =>
            rw [if_pos rfl]
            dsimp only at k2
            refine ⟨r3, st3, F3, mu3, re3, ?_⟩
            cases hm4 : ma r3 st3 with
            | exc e st4 => rw [hm4] at k2; exact k2.elim
            | bad => rw [hm4] at k2; exact k2.elim
            | ok y st4 =>
              rw [hm4] at k2
              intro v H4 F4 mu4 e4 re4 ry
              cases y with
              | bor c => exact k2.elim
              | val d =>
                dsimp only at k2
                by_cases hz : w.ok st4 = true ∧ acc.length < lim
                · rw [if_pos hz] at k2
                  have exA : Ext H2 F2 mu2 H4 F4 mu4 := (ex'.trans e3).trans e4
                  obtain ⟨d1, d2, d3⟩ := keepD exA
                  refine ⟨us, d3, ?_, acc ++ [d], us ++ [v], st4, F4, mu4, ?_, ?_, d1, d2, upd_same, ?_, hz.1, k2⟩
                  · rw [← rl.length]
                    exact Nat.lt_of_lt_of_le hz.2 lim_line
                  · have rh5 : RH g (upd H4 D (.lst (us ++ [v]))) F4 mu4 st4 := re4.h.putOwn d1 d2 d3 (fun _ z => by cases z) (fun _ z => by cases z)
                    have exB : Ext H F mu (upd H4 D (.lst (us ++ [v]))) F4 mu4 := by
                      have q := e1.trans (ex2.trans exA)
                      refine ⟨q.mo, fun a o h1 h2 h3 => ?_, fun a h1 => ?_, q.frF, q.frM⟩
                      · rw [upd_ne (fun (z : a = D) => (dom_none e1 hD).no (z ▸ h1) h3)]
                        exact q.keep a o h1 h2 h3
                      · exact q.dom a (Nw.put (fun ps z => by cases z) h1)
                    exact re.step exB rh5
                  · have q := ex2.trans exA
                    refine ⟨q.mo, fun a o h1 h2 h3 => ?_, fun a h1 => ?_, q.frF, q.frM⟩
                    · rw [upd_ne (fun z => by rw [z, hD] at h1; cases h1)]
                      exact q.keep a o h1 h2 h3
                    · exact q.dom a (Nw.put (fun ps z => by cases z) h1)
                  · exact (RepL.mono exA.mo _ _ rl).append (.one ry)
                · rw [if_neg hz] at k2
                  exact k2.elim
          | false =>
            rw [if_neg Bool.false_ne_true]
            dsimp only at k2
            by_cases hz : w.ok st3 = true
            · rw [if_pos hz] at k2
              have exA : Ext H2 F2 mu2 H3 F3 mu3 := ex'.trans e3
              obtain ⟨d1, d2, d3⟩ := keepD exA
              exact ⟨acc, us, st3, F3, mu3, re.step (e1.trans (ex2.trans exA)) re3.h, ex2.trans exA, d1, d2, d3, RepL.mono exA.mo _ _ rl, hz, k2⟩
            · rw [if_neg hz] at k2
              exact k2.elim
    · have he : i = ds.length := by omega
      subst he
      rw [List.drop_length] at k2
      exact .inl ⟨hJi.1 rfl, k2 _ H2 F2 mu2 (e1.trans ex2) re2 ⟨D, rfl, fD, mD, dom_none e1 hD, us, hHD, rl⟩⟩
  · exact k1.elim
theorem yLc {E' : XK} {it : IM} {tg : Tg} {tr : TG} {mt : TM} {tt : TT} {vs : List Nat} (hv : ∀ i ∈ tg.slots, i ∈ vs) (hT : TgS g tr tg) (htt : ∀ s H Q, rdT g E' mt s H Q → tt s H Q) (h : PE X e (tLc (rdI g E it) tr tt (rdE g E' ma) vs)) : PE X e (rdN g E (nLc it tg mt ma vs)) := PE.imp h (yLcT hv hT htt)
end
end Mir
/-! E7: stores to lists and objects, defs, what is walked. -/
namespace Mir
open PySem PySem.Spec PyProof.Rows L2
section
variable {X : Cx} {g : G} {E : XK} {B : Bs} {pos : Pos} {a b c e o : Expr} {ma mb mc : EM} {es : List Expr} {mas : AM} {sa sb : Stmt} {ss : List Stmt} {m m1 m2 : SM}

/-! ### two names at once -/
theorem RB.ownFresh {s : L2.St} {H F : Hp} {mu : List Addr} {r : Env} {st : Mir.St} (rb : RB g B s H F mu r st) {p : Addr} (h0 : ∀ (j : Nat) (c' : Cell) (b : Addr), r[j]? = some (.own c') → s[j]? = some (some (.ref b)) → b ≠ p) (i : Nat) :
    ∀ (j : Nat) (c' : Cell) (b : Addr), j ≠ i → r[j]? = some (.own c') → s[j]? = some (some (.ref b)) → b ≠ p := fun j c' b _ h1 h2 => h0 j c' b h1 h2
/-- what a source stands for: a value, or a thing of its own (new since H0) -/
def SrcAt (g : G) (H0 H F : Hp) (mu : List Addr) : Slot → V → Prop
  | .no, _ => False
  | .val d, v => RepV g F mu d v
  | .own c, v => ∃ a, v = .ref a ∧ F a = none ∧ a ∉ mu ∧ Nw H0 a ∧ CellAt g F mu H a c ∧ c.noIns = true
def rdSrc (g : G) (E : XK) (a : Src) : TE := fun s H Q => ∃ r st F mu, RE g s H F mu r st ∧ OutQ g s H F mu r (fun H' F' mu' x v => SrcAt g H H' F' mu' x v) E Q (a.run r st)
theorem srcV (h : PE X e (rdE g E ma)) : PE X e (rdSrc g E (.v ma)) := PE.imp h fun s H Q k => by
  obtain ⟨r, st, F, mu, re, k⟩ := k
  refine ⟨r, st, F, mu, re, OutQ.bind k fun x st1 v H1 F1 mu1 _ e1 re1 rx k1 => ?_⟩
  cases x with
  | bor c => exact k1.elim
  | val d => exact k1 v H1 F1 mu1 e1 re1 rx
theorem srcO {n : NM} (h : PE X e (rdN g E n)) : PE X e (rdSrc g E (.o n)) := PE.imp h fun s H Q k => by
  obtain ⟨r, st, F, mu, re, k⟩ := k
  refine ⟨r, st, F, mu, re, OutQ.bind k fun x st1 v H1 F1 mu1 _ e1 re1 rx k1 => ?_⟩
  obtain ⟨p, rfl, q1, q2, q3, q4⟩ := rx
  by_cases hI : x.noIns = true
  · rw [if_pos hI] at k1
    exact k1 _ H1 F1 mu1 e1 re1 ⟨p, rfl, q1, q2, q3, q4, hI⟩
  · rw [if_neg hI] at k1
    exact k1.elim
theorem SrcAt.ext {H0 H F H' F' : Hp} {mu mu' : List Addr} {v : V} (e : Ext H F mu H' F' mu') : ∀ {x : Slot}, SrcAt g H0 H F mu x v → SrcAt g H0 H' F' mu' x v
  | .no, h => h
  | .val d, h => RepV.mono e.mo _ _ h
  | .own c, ⟨a, h1, h2, h3, h4, h5, h9⟩ => by
    obtain ⟨_, h6, h7, h8⟩ := RepX.ext (o := .bor c) e ⟨a, h1, h2, h3, h5⟩
    subst h1
    cases h6
    exact ⟨a, rfl, h7, h8.1, h4, h8.2, h9⟩
theorem SrcAt.put {s : L2.St} {H F : Hp} {mu : List Addr} {r : Env} {st : Mir.St} {x : Slot} {v : V} {i : Nat} (rb : RB g B s H F mu r st) (hi : i < r.length) (h0 : SrcAt g B.H H F mu x v)
    (hne : ∀ p, v = .ref p → (∃ c, x = .own c) → ∀ (j : Nat) (c' : Cell) (b : Addr), j ≠ i → r[j]? = some (.own c') → s[j]? = some (some (.ref b)) → b ≠ p) : RB g B (s.set i (some v)) H F mu (r.set i x) st := by
  cases x with
  | no => exact h0.elim
  | val d => exact rb.setV h0 hi
  | own c =>
    obtain ⟨p, rfl, q1, q2, q3, q4, q5⟩ := h0
    exact rb.setO q1 q2 q4 hi q3 q5 (hne p rfl ⟨c, rfl⟩)
/-- a, b = x, y (two different names) -/
theorem qPar {i j : Nat} {x y : Src} (hij : i ≠ j) (h : PS X sa (tPar i j (tCons (rdSrc g E x) (tCons (rdSrc g E y) tNil)))) : PS X sa (rdS g E B (sPar i j x y)) := PS.imp h fun D s H h => by
  obtain ⟨r, st, F, mu, rb, h⟩ := h
  refine ⟨r, st, F, mu, rb.re, sbind rb h fun u st1 v H1 F1 mu1 _ e1 rb1 rx h1 => ?_⟩
  refine ⟨r, st1, F1, mu1, rb1.re, sbind rb1 h1 fun w st2 v2 H2 F2 mu2 _ e2 rb2 ry h2 => ?_⟩
  refine ⟨v, v2, rfl, ?_⟩
  by_cases hc : i < r.length ∧ j < r.length ∧ i ≠ j
  · rw [if_pos hc] at h2
    have rx2 : SrcAt g H H2 F2 mu2 u v := rx.ext e2
    have old : ∀ (l : Nat) (c' : Cell) (b : Addr), r[l]? = some (.own c') → s[l]? = some (some (.ref b)) → ¬ Nw H b := fun l c' b q1 q2 n => by
      obtain ⟨_, _, z⟩ := rb.re.ownAt q1 q2
      obtain ⟨_, z1, z2, _⟩ := z.there
      exact n.no z1 z2
    have toB : ∀ {z : Slot} {t : V}, SrcAt g H H2 F2 mu2 z t → SrcAt g B.H H2 F2 mu2 z t := fun {z t} q => by
      cases z with
      | no => exact q
      | val d => exact q
      | own c =>
        obtain ⟨p, p1, p2, p3, p4, p5⟩ := q
        exact ⟨p, p1, p2, p3, rb.ext.dom _ p4, p5⟩
    have ry2 : SrcAt g H H2 F2 mu2 w v2 := by
      cases w with
      | no => exact ry
      | val d => exact ry
      | own c =>
        obtain ⟨p, p1, p2, p3, p4, p5⟩ := ry
        exact ⟨p, p1, p2, p3, e1.dom _ p4, p5⟩
    have rb3 : RB g B (s.set i (some v)) H2 F2 mu2 (r.set i u) st2 := by
      refine SrcAt.put rb2 hc.1 (toB rx2) fun p hp ⟨c, hu⟩ l c' b hl q1 q2 z => ?_
      subst hu
      obtain ⟨p', p1, _, _, p4, _⟩ := rx2
      rw [hp] at p1
      cases p1
      exact old l c' b q1 q2 (z ▸ p4)
    refine h2 _ H2 F2 mu2 (SrcAt.put rb3 (by rw [List.length_set]; exact hc.2.1) (toB ry2) fun p hp ⟨c, hu⟩ l c' b hl q1 q2 z => ?_) (.refl _ _)
    subst hu
    obtain ⟨p', p1, _, _, p4, _⟩ := ry2
    rw [hp] at p1
    cases p1
    rw [get_set hc.1] at q1
    rw [get_set (by rw [rb2.re.len]; exact hc.1)] at q2
    by_cases hil : i = l
    · rw [if_pos hil] at q1 q2
      cases q1
      cases q2
      obtain ⟨_, p5, _, _, _, p6, _⟩ := rx
      cases p5
      obtain ⟨_, p7, p11, _⟩ := p6.there
      obtain ⟨p8, p9, _, _, p10, _⟩ := ry
      rw [hp] at p9
      cases p9
      rw [← z] at p10
      exact p10.no p7 p11
    · rw [if_neg hil] at q1 q2
      exact old l c' b q1 q2 (z ▸ p4)
  · rw [if_neg hc] at h2
    exact h2.elim

/-! ### name op= e -/
def IpS (g : G) (ti : TIp) (f : Op2) : Prop := OpS g ti f
theorem qAug {i : Nat} {x : Str} {op : Operator} {ti : TIp} {f : Op2} {p2 : Pos} (hs : OpS g ti f) (h : PS X sa (tAug i (rdE g E ma) ti)) : PS X sa (rdS g E B (sAug i f ma)) := PS.imp h fun D s H h => by
  obtain ⟨r, st, F, mu, rb, h⟩ := h
  unfold sAug at h
  cases hr : r[i]? with
  | none => rw [hr] at h; exact h.elim
  | some y =>
    rw [hr] at h
    cases y with
    | no => exact h.elim
    | own c => exact h.elim
    | val d =>
      obtain ⟨w, h1, v, rfl, h2⟩ := rb.re.slot i _ hr
      have hil : i < r.length := (List.getElem?_eq_some_iff.mp hr).1
      refine ⟨v, h1, r, st, F, mu, rb.re, sbind rb h fun u st1 vu H1 F1 mu1 _ e1 rb1 rx h3 => ?_⟩
      cases hf : f st1 (.val d) u with
      | none => rw [hf] at h3; exact h3.elim
      | some d' =>
        rw [hf] at h3
        exact hs H1 F1 mu1 st1 (.val d) u v vu d' _ rb1.re.h (RepV.mono e1.mo _ _ h2) rx hf fun v' H' F' rh' e' rv => h3 _ H' F' mu1 ((rb1.step e' (rb1.re.step e' rh')).setV rv hil) e'.mo

/-! ### append -/
theorem RB.putOwn {s : L2.St} {H F : Hp} {mu : List Addr} {r : Env} {st : Mir.St} {i : Nat} {c c' : Cell} {p : Addr} {u : HO} (rb : RB g B s H F mu r st) (hr : r[i]? = some (.own c)) (hs : s[i]? = some (some (.ref p))) (hc : CellAt g F mu (upd H p u) p c') (hI : ∀ ci fs, c' = .ins ci fs → ∀ a, s[i]? = some (some (.ref a)) → B.self = some a) :
    RB g B s (upd H p u) F mu (r.set i (.own c')) st := by
  obtain ⟨q1, q2, q3⟩ := rb.re.ownAt hr hs
  obtain ⟨w, w1, w2, w3⟩ := q3.there
  have rh := rb.re.h.putOwn (o := u) q1 q2 w1 w2 w3
  have hil : i < r.length := (List.getElem?_eq_some_iff.mp hr).1
  have b0 := rb.own i c p hr hs
  have ex : Ext B.H B.F B.mu (upd H p u) F mu := ⟨rb.ext.mo, fun a o h1 h2 h3 => by rw [upd_ne (fun (z : a = p) => b0.no (z ▸ h1) h3)]; exact rb.ext.keep a o h1 h2 h3, fun a h => (by
    by_cases z : a = p
    · exact z ▸ b0
    · exact rb.ext.dom a fun u e => h u (by rw [upd_ne z]; exact e)), rb.ext.frF, rb.ext.frM⟩
  refine ⟨⟨rh, by simp [rb.re.len], fun j y hy => ?_, fun j k c1 c2 a1 b1 h1 h2 h3 h4 ne => ?_⟩, ex, fun j d a h1 h2 => ?_, fun j ci fs a h1 h2 => ?_⟩
  · rw [get_set hil] at hy
    by_cases e : i = j
    · subst e
      rw [if_pos rfl] at hy
      cases hy
      exact ⟨_, hs, p, rfl, q1, q2, hc⟩
    · rw [if_neg e] at hy
      obtain ⟨o', h1, h2⟩ := rb.re.slot j y hy
      refine ⟨o', h1, ?_⟩
      cases y with
      | no => trivial
      | val d => exact h2
      | own d =>
        obtain ⟨a, rfl, a1, a2, a3⟩ := h2
        exact ⟨a, rfl, a1, a2, CellAt.at (upd_ne (rb.re.own j i d c a p hy hr h1 hs (Ne.symm e))) a3⟩
  · rw [get_set hil] at h1 h2
    by_cases e : i = j
    · by_cases e' : i = k
      · exact absurd (e.symm.trans e') ne
      · rw [if_neg e'] at h2
        subst e
        rw [hs] at h3
        cases h3
        exact rb.re.own i k c c2 p b1 hr h2 hs h4 ne
    · rw [if_neg e] at h1
      by_cases e' : i = k
      · subst e'
        rw [hs] at h4
        cases h4
        exact rb.re.own j i c1 c a1 p h1 hr h3 hs ne
      · rw [if_neg e'] at h2
        exact rb.re.own j k c1 c2 a1 b1 h1 h2 h3 h4 ne
  · rw [get_set hil] at h1
    by_cases e : i = j
    · subst e
      rw [hs] at h2
      cases h2
      exact b0
    · rw [if_neg e] at h1
      exact rb.own j d a h1 h2
  · rw [get_set hil] at h1
    by_cases e : i = j
    · subst e
      rw [if_pos rfl] at h1
      cases h1
      exact hI ci fs rfl a h2
    · rw [if_neg e] at h1
      exact rb.slf j ci fs a h1 h2
theorem aLast : ∀ s H (Q : List V → Hp → Prop), rdE g E ma s H (fun v H1 => Q [v] H1) → rdA g E (aCons ma aNil) s H Q → tCons (rdE g E ma) tNil s H Q := fun s H Q h _ => h
/-- x.append(e), x a list of one's own -/
theorem qAppV {i : Nat} {he : PA X [e] (tCons (rdE g E ma) tNil)} (h : PS X sa (tDrop (tBM X.K "list" rAppend (tVar i) (tCons (rdE g E ma) tNil)))) : PS X sa (rdS g E B (sAppV i ma)) := PS.imp h fun D s H h => by
  obtain ⟨r, st, F, mu, rb, h⟩ := h
  unfold sAppV at h
  split at h
  · rename_i xs0 hr
    obtain ⟨p, h1, h2, h3, vs0, h4, h5⟩ := rb.re.ownGet hr
    refine ⟨.ref p, h1, .inl ⟨rfl, _, SqL.of h4⟩, r, st, F, mu, rb.re, sbind rb h fun y st1 v H1 F1 mu1 _ e1 rb1 rx k => ?_⟩
    rw [hr] at k
    cases y with
    | bor c => exact k.elim
    | val d =>
      dsimp only at k
      obtain ⟨p1, p2, vs, p3, p4⟩ := rb1.re.ownAt hr h1
      by_cases hl : xs0.length < lim
      · rw [if_pos hl] at k
        refine ⟨p, vs, v, rfl, rfl, p3, ?_, ?_⟩
        · rw [← p4.length]; exact Nat.lt_of_lt_of_le hl lim_line
        · exact k _ _ F1 mu1 (rb1.putOwn hr h1 ⟨_, upd_same, p4.append (.one rx)⟩ fun _ _ z => by cases z) (.refl _ _)
      · rw [if_neg hl] at k
        exact k.elim
  · exact h.elim
/-- o.append(e), o a cell's list -/
theorem qAppC (h : PS X sa (tDrop (tBM X.K "list" rAppend (rdE g E mb) (tCons (rdE g E ma) tNil)))) : PS X sa (rdS g E B (sAppC mb ma)) := PS.imp h fun D s H h => by
  obtain ⟨r, st, F, mu, rb, h⟩ := h
  refine ⟨r, st, F, mu, rb.re, sbind rb h fun x st1 vx H1 F1 mu1 _ e1 rb1 rx k => ?_⟩
  cases x with
  | bor c => exact k.elim
  | val d0 =>
    cases d0 with
    | ref n =>
      dsimp only at k
      simp only [RepX, RepV] at rx
      obtain ⟨p, hp, rfl⟩ := rx
      cases hn : st1[n]? with
      | none => rw [hn] at k; exact k.elim
      | some c0 =>
        rw [hn] at k
        cases c0 with
        | lst xs0 =>
          obtain ⟨p', q1, _, vs0, q3, q4⟩ := rb1.re.h.cel n _ hn
          rw [hp] at q1
          cases q1
          refine ⟨.inl ⟨rfl, _, SqL.of q3⟩, r, st1, F1, mu1, rb1.re, sbind rb1 k fun y st2 v H2 F2 mu2 _ e2 rb2 ry k2 => ?_⟩
          cases y with
          | bor c => exact k2.elim
          | val d =>
            cases hn2 : st2[n]? with
            | none => rw [hn2] at k2; exact k2.elim
            | some c2 =>
              rw [hn2] at k2
              cases c2 with
              | lst xs =>
                dsimp only at k2
                have hp2 := e2.mo.mu _ _ hp
                obtain ⟨p', w1, w2, vs, w3, w4⟩ := rb2.re.h.cel n _ hn2
                rw [hp2] at w1
                cases w1
                by_cases hl : xs.length < lim
                · rw [if_pos hl] at k2
                  refine ⟨p, vs, v, rfl, rfl, w3, ?_, ?_⟩
                  · rw [← w4.length]; exact Nat.lt_of_lt_of_le hl lim_line
                  · have ex := Ext.put (H := H2) (F := F2) (o := .lst (vs ++ [v])) hp2
                    exact k2 s _ F2 mu2 (rb2.step ex (rb2.re.step ex (rb2.re.h.put hn2 hp2 ⟨_, upd_same, w4.append (.one ry)⟩))) (.refl _ _)
                · rw [if_neg hl] at k2
                  exact k2.elim
              | _ => exact k2.elim
        | _ => exact k.elim
    | _ => exact k.elim

/-! ### attributes set -/
theorem putF_zip {f : Str} {v : V} : ∀ {ns : List Str} {vs : List V} {j : Nat}, ns.Nodup → ns[j]? = some f → j < vs.length → putF f v (ns.zip vs) = ns.zip (vs.set j v)
  | [], _, j, _, h, _ => by simp at h
  | n :: ns, [], j, _, _, h => by simp at h
  | n :: ns, w :: vs, 0, nd, h, _ => by
    simp at h
    subst h
    simp [putF]
  | n :: ns, w :: vs, j + 1, nd, h, hl => by
    simp at h hl
    have hne : ¬ n = f := fun z => (List.nodup_cons.mp nd).1 (z ▸ List.mem_of_getElem? h)
    simp only [List.zip_cons_cons, putF, if_neg hne, List.set_cons_succ]
    rw [putF_zip (List.nodup_cons.mp nd).2 h hl]
theorem putF_new {f : Str} {v : V} : ∀ {ns : List Str} {vs : List V}, ns.Nodup → ns[vs.length]? = some f → putF f v (ns.zip vs) = ns.zip (vs ++ [v])
  | [], vs, _, h => by simp at h
  | n :: ns, [], nd, h => by
    simp at h
    subst h
    simp [putF]
  | n :: ns, w :: vs, nd, h => by
    simp at h
    have hne : ¬ n = f := fun z => (List.nodup_cons.mp nd).1 (z ▸ List.mem_of_getElem? h)
    simp only [List.zip_cons_cons, putF, if_neg hne, List.cons_append]
    rw [putF_new (List.nodup_cons.mp nd).2 h]
theorem putAt_rep {F : Hp} {mu : List Addr} {ns : List Str} {f : Str} {vs : List V} {v : V} {fs fs' : List D} {d : D} {j : Nat} (nd : ns.Nodup) (hj : ns[j]? = some f) (rl : RepL g F mu fs vs) (rv : RepV g F mu d v) (hl : fs.length ≤ ns.length) (h : putAt fs j d = some fs') :
    ∃ vs', putF f v (ns.zip vs) = ns.zip vs' ∧ RepL g F mu fs' vs' ∧ fs'.length ≤ ns.length := by
  have hjl : j < ns.length := (List.getElem?_eq_some_iff.mp hj).1
  unfold putAt at h
  split at h
  · rename_i hlt
    cases h
    exact ⟨_, putF_zip nd hj (by rw [← rl.length]; exact hlt), rl.set j rv, by simpa using hl⟩
  · split at h
    · rename_i heq
      cases h
      refine ⟨_, putF_new nd (by rw [← rl.length, ← heq]; exact hj), rl.append (.one rv), ?_⟩
      simp
      omega
    · cases h
theorem zip_len_lt {ns : List Str} {vs : List V} (h : ns.length < 1000) : (ns.zip vs).length < 1000 := by
  rw [List.length_zip]
  omega
/-- self.f = e in an __init__ -/
theorem qFldV {C : Addr} {ns : List Str} {f : Str} {ci i j : Nat} (hK : X.K = g.K) (hc : g.ci ci = some (C, ns)) (nd : ns.Nodup) (hj : ns[j]? = some f) (hsm : ns.length < 1000) (cl : Cls g.K C) (na : NoAttr g.K C f) (h : PS X sa (sFld X.K (tVar i) (rdE g E ma) f)) :
    PS X sa (rdS g E B (sFldV ci i j ma)) := PS.imp h fun D s H h => by
  obtain ⟨r, st, F, mu, rb, h⟩ := h
  refine ⟨r, st, F, mu, rb.re, sbind rb h fun y st1 v H1 F1 mu1 _ e1 rb1 rx k => ?_⟩
  cases y with
  | bor c => exact k.elim
  | val d =>
    cases hr : r[i]? with
    | none => rw [hr] at k; exact k.elim
    | some z =>
      rw [hr] at k
      cases z with
      | own c0 =>
        cases c0 with
        | ins c' fs =>
          dsimp only at k
          obtain ⟨p, p0, p1, p2, C', ns', dx, vs, p3, p4, p5, p6⟩ := rb1.re.ownGet hr
          cases hpa : putAt fs j d with
          | none => rw [hpa] at k; exact k.elim
          | some fs' =>
            rw [hpa] at k
            dsimp only at k
            by_cases hcc : c' = ci
            · rw [if_pos hcc] at k
              subst hcc
              rw [hc] at p3
              cases p3
              obtain ⟨vs', g1, g2, g3⟩ := putAt_rep nd hj p6 rx p4 hpa
              refine ⟨.ref p, p0, p, C, dx, _, rfl, p5, by rw [hK]; exact cl, by rw [hK]; exact na, zip_len_lt hsm, ?_⟩
              exact k s _ F1 mu1 (rb1.putOwn hr p0 ⟨C, ns, dx, vs', hc, g3, by rw [upd_same, g1], g2⟩ fun _ _ _ a z => rb1.slf i _ _ a hr z) (.refl _ _)
            · rw [if_neg hcc] at k
              exact k.elim
        | _ => exact k.elim
      | _ => exact k.elim
/-- o.f = e of a cell -/
theorem qFldC {C : Addr} {ns : List Str} {f : Str} {ci j : Nat} (hK : X.K = g.K) (hc : g.ci ci = some (C, ns)) (nd : ns.Nodup) (hj : ns[j]? = some f) (hsm : ns.length < 1000) (cl : Cls g.K C) (na : NoAttr g.K C f) (h : PS X sa (sFld X.K (rdE g E mb) (rdE g E ma) f)) :
    PS X sa (rdS g E B (sFldC ci j mb ma)) := PS.imp h fun D s H h => by
  obtain ⟨r, st, F, mu, rb, h⟩ := h
  refine ⟨r, st, F, mu, rb.re, sbind rb h fun y st1 v H1 F1 mu1 _ e1 rb1 rx k => ?_⟩
  refine ⟨r, st1, F1, mu1, rb1.re, sbind rb1 k fun z st2 w H2 F2 mu2 _ e2 rb2 rz k2 => ?_⟩
  cases y with
  | bor c => exact k2.elim
  | val d =>
    cases z with
    | bor c => exact k2.elim
    | val d2 =>
      cases d2 with
      | ref n =>
        dsimp only at k2
        simp only [RepX, RepV] at rz
        obtain ⟨p, hp, rfl⟩ := rz
        cases hn : st2[n]? with
        | none => rw [hn] at k2; exact k2.elim
        | some c0 =>
          rw [hn] at k2
          cases c0 with
          | ins c' fs =>
            dsimp only at k2
            obtain ⟨p', q1, q2, C', ns', dx, vs, p3, p4, p5, p6⟩ := rb2.re.h.cel n _ hn
            rw [hp] at q1
            cases q1
            cases hpa : putAt fs j d with
            | none => rw [hpa] at k2; exact k2.elim
            | some fs' =>
              rw [hpa] at k2
              dsimp only at k2
              by_cases hcc : c' = ci
              · rw [if_pos hcc] at k2
                subst hcc
                rw [hc] at p3
                cases p3
                obtain ⟨vs', g1, g2, g3⟩ := putAt_rep nd hj p6 (RepV.mono e2.mo _ _ rx) p4 hpa
                refine ⟨p, C, dx, _, rfl, p5, by rw [hK]; exact cl, by rw [hK]; exact na, zip_len_lt hsm, ?_⟩
                have ex := Ext.put (H := H2) (F := F2) (o := .ins C dx (putF f v (ns.zip vs))) hp
                exact k2 s _ F2 mu2 (rb2.step ex (rb2.re.step ex (rb2.re.h.put hn hp ⟨C, ns, dx, vs', hc, g3, by rw [upd_same, g1], g2⟩))) (.refl _ _)
              · rw [if_neg hcc] at k2
                exact k2.elim
          | _ => exact k2.elim
      | _ => exact k2.elim
theorem ixN_eq (n : Nat) (i : Int) : L2.ixN n i = ixD n i := by
  unfold L2.ixN ixD
  split
  · rfl
  · by_cases hq : 0 ≤ (n : Int) + i
    · rw [if_pos hq, if_pos (by omega), Int.add_comm]
    · rw [if_neg hq, if_neg (by omega)]
/-- o[i] = e of a cell's list -/
theorem qPutL (h : PS X sa (tAsg (rdE g E ma) (gSub (rdE g E mb) (rdE g E mc) rSetL))) : PS X sa (rdS g E B (sPutL mb mc ma)) := PS.imp h fun D s H h => by
  obtain ⟨r, st, F, mu, rb, h⟩ := h
  refine ⟨r, st, F, mu, rb.re, sbind rb h fun y st1 v H1 F1 mu1 _ e1 rb1 rx k => ?_⟩
  refine ⟨r, st1, F1, mu1, rb1.re, sbind rb1 k fun z st2 w H2 F2 mu2 _ e2 rb2 rz k2 => ?_⟩
  refine ⟨r, st2, F2, mu2, rb2.re, sbind rb2 k2 fun t st3 w3 H3 F3 mu3 _ e3 rb3 rt k3 => ?_⟩
  cases y with
  | bor c => exact k3.elim
  | val d =>
    cases z with
    | bor c => exact k3.elim
    | val d2 =>
      cases t with
      | bor c => cases d2 <;> exact k3.elim
      | val d3 =>
        cases d2 with
        | ref n =>
          cases d3 with
          | int q =>
            dsimp only at k3
            simp only [RepX, RepV] at rz rt
            obtain ⟨p, hp, rfl⟩ := rz
            subst rt
            have hp3 := e3.mo.mu _ _ hp
            cases hn : st3[n]? with
            | none => rw [hn] at k3; exact k3.elim
            | some c0 =>
              rw [hn] at k3
              cases c0 with
              | lst xs =>
                dsimp only at k3
                obtain ⟨p', q1, q2, vs, q3, q4⟩ := rb3.re.h.cel n _ hn
                rw [hp3] at q1
                cases q1
                cases hix : ixD xs.length q with
                | none => rw [hix] at k3; exact k3.elim
                | some jj =>
                  rw [hix] at k3
                  refine ⟨p, vs, q, jj, rfl, rfl, q3, by rw [ixN_eq, ← q4.length, hix], ?_⟩
                  have ex := Ext.put (H := H3) (F := F3) (o := .lst (vs.set jj v)) hp3
                  exact k3 s _ F3 mu3 (rb3.step ex (rb3.re.step ex (rb3.re.h.put hn hp3 ⟨_, upd_same, q4.set jj (RepV.mono (e2.mo.trans e3.mo) _ _ rx)⟩))) (.refl _ _)
              | _ => exact k3.elim
          | _ => exact k3.elim
        | _ => cases d3 <;> exact k3.elim
end

/-! ### defs -/
section
variable {P : Program} {w : World} {K : PySem.W.Frag} {mg : Str → Option Value} {base : Heap} {g : G}
theorem start_rep {N : List Str} {vs : List V} {ds : List D} {F : Hp} {mu : List Addr} {H : Hp} {st : Mir.St} (rh : RH g H F mu st) (rl : RepL g F mu ds vs) (hl : vs.length ≤ N.length) :
    RE g (L2.start N vs) H F mu (ds.map Slot.val ++ List.replicate (N.length - ds.length) Slot.no) st := by
  refine ⟨rh, by simp [L2.start, rl.length], fun i x hx => ?_, fun i j c c' a b h1 _ _ _ _ => ?_⟩
  · by_cases hi : i < ds.length
    · rw [List.getElem?_append_left (by simpa using hi), List.getElem?_map] at hx
      rw [List.getElem?_eq_getElem hi] at hx
      cases hx
      obtain ⟨v, h1, h2⟩ := rl.get (List.getElem?_eq_getElem hi)
      refine ⟨some v, ?_, v, rfl, h2⟩
      unfold L2.start
      rw [List.getElem?_append_left (by rw [List.length_map, ← rl.length]; exact hi), List.getElem?_map, h1]
      rfl
    · have hlen : i < (ds.map Slot.val ++ List.replicate (N.length - ds.length) Slot.no).length := (List.getElem?_eq_some_iff.mp hx).1
      rw [List.getElem?_append_right (by simpa using hi)] at hx
      have : x = .no := by
        rw [List.getElem?_replicate] at hx
        split at hx
        · cases hx; rfl
        · cases hx
      subst this
      have h2 : i < (L2.start N vs).length := by
        simp only [List.length_append, List.length_map, List.length_replicate] at hlen
        simp only [L2.start, List.length_append, List.length_map, List.length_replicate, ← rl.length]
        exact hlen
      exact ⟨(L2.start N vs)[i], List.getElem?_eq_getElem h2, trivial⟩
  · exfalso
    by_cases hi : i < ds.length
    · rw [List.getElem?_append_left (by simpa using hi), List.getElem?_map, List.getElem?_eq_getElem hi] at h1
      cases h1
    · rw [List.getElem?_append_right (by simpa using hi), List.getElem?_replicate] at h1
      split at h1
      · cases h1
      · cases h1
/-- THE RULE for a def -/
theorem dFn {x qual : Str} {prm : Arguments} {bdy : List Stmt} {scp : Scope} {dvs : List V} {kws : List (Str × V)} {f : Addr} {fd : FuncData} {N ps : List Str} {k : Nat} {m : SM} (F0 : FunD K x qual prm bdy scp dvs kws f fd) (S : FnScope N ps scp) (hps : ps.length ≤ N.length)
    (hbody : ∀ (cdv : Value) (A : Around) (outer : List PySem.Env) (s : Shared) (H : Hp) (E : XK) (B : Bs), fd.code = cdv → Room k (A.deeper (envOfC qual scp s.heap.objs.size f cdv)) → PSs (cxOf (L2.CX P w) P w K mg base N qual scp f cdv A outer s H E) bdy (rdS g E B m)) :
    FnOk P w K mg base (L2.CX P w) (k + 1) f fd ps (spOf g ps.length (fn N.length ps.length m)) := by
  obtain ⟨oc, od, dV, kV, doc, pm, an, cdv, ct, osl, rfl, lk, hcd, _, _⟩ := F0.ex
  refine fn_of lk hcd S (fun vs H Q E h => h.1) fun A outer s H vs Q E hr h => ?_
  obtain ⟨hl, ds, st, F, mu, rh, rl, h⟩ := h
  refine ⟨_, hbody cdv A outer s H E ⟨H, F, mu, none⟩ rfl hr, ?_⟩
  have hdl : ds.length = ps.length := by rw [rl.length, hl]
  have noOwn : ∀ (j : Nat) (c : Cell), (ds.map Slot.val ++ List.replicate (N.length - ds.length) Slot.no)[j]? ≠ some (.own c) := fun j c h1 => by
    by_cases hi : j < ds.length
    · rw [List.getElem?_append_left (by simpa using hi), List.getElem?_map, List.getElem?_eq_getElem hi] at h1
      cases h1
    · rw [List.getElem?_append_right (by simpa using hi), List.getElem?_replicate] at h1
      split at h1
      · cases h1
      · cases h1
  refine ⟨_, st, F, mu, ⟨start_rep rh rl (by omega), .refl _ _ _, fun i c a h1 _ => absurd h1 (noOwn i c), fun i ci fs a h1 _ => absurd h1 (noOwn i _)⟩, ?_⟩
  · unfold fn at h
    rw [if_pos hdl] at h
    rw [← hdl] at h
    cases hm : m (ds.map Slot.val ++ List.replicate (N.length - ds.length) Slot.no) st with
    | nx r1 st1 => rw [hm] at h; exact fun s' H' F' mu' rb _ => h _ H' F' mu' rb.ext rb.re.h (by simp only [RepV])
    | rt d st1 => rw [hm] at h; exact fun v H' F' mu' rh' ex _ rv => h v H' F' mu' ex rh' rv
    | bk r1 st1 => rw [hm] at h; exact h.elim
    | ct r1 st1 => rw [hm] at h; exact h.elim
    | exc e r1 st1 => rw [hm] at h; exact fun H' F' mu' rh' ex => h H' F' mu' ex rh'
    | bad => rw [hm] at h; exact h.elim
/-- .. for an __init__ -/
theorem dInit {x qual : Str} {prm : Arguments} {bdy : List Stmt} {scp : Scope} {dvs : List V} {kws : List (Str × V)} {f C : Addr} {fd : FuncData} {N ps ns : List Str} {k ci : Nat} {m : SM} (hci : g.ci ci = some (C, ns)) (F0 : FunD K x qual prm bdy scp dvs kws f fd) (S : FnScope N ps scp) (hps : ps.length ≤ N.length) (hp0 : 0 < ps.length)
    (hbody : ∀ (cdv : Value) (A : Around) (outer : List PySem.Env) (s : Shared) (H : Hp) (E : XK) (B : Bs), Room k (A.deeper (envOfC qual scp s.heap.objs.size f cdv)) → PSs (cxOf (L2.CX P w) P w K mg base N qual scp f cdv A outer s H E) bdy (rdS g E B m)) :
    FnOk P w K mg base (L2.CX P w) (k + 1) f fd ps (spInit g ci ps.length (fnInit ci N.length ps.length m)) := by
  refine F0.ok S (fun vs H Q E h => h.1) fun cdv A outer s H vs Q E hr h => ?_
  obtain ⟨hl, a, dx, C', ns', us, ds, st, F, mu, H0, rfl, hc', rfl, ha, hdx, hne, rh, rl, h⟩ := h
  rw [hci] at hc'
  cases hc'
  have hd0 : upd H0 dx (.own a) a = none := by rw [upd_ne (Ne.symm hne)]; exact ha
  have rh1 : RH g (upd H0 dx (.own a)) F mu st := rh.newOwn hdx
  have rh2 : RH g (upd (upd H0 dx (.own a)) a (.ins C dx [])) F mu st := rh1.newOwn hd0
  have ex1 : Ext H0 F mu (upd H0 dx (.own a)) F mu := Ext.newOwn hdx
  have ex2 : Ext H0 F mu (upd (upd H0 dx (.own a)) a (.ins C dx [])) F mu := ex1.trans (Ext.newOwn hd0)
  have hFa : F a = none := F_new rh ha
  have hma : a ∉ mu := fun z => mem_mu rh z ha
  refine ⟨_, hbody cdv A outer s _ E ⟨H0, F, mu, some a⟩ hr, ?_⟩
  have hdl : ds.length + 1 = ps.length := by rw [rl.length, ← hl]; simp
  have hcell : CellAt g F mu (upd (upd H0 dx (.own a)) a (.ins C dx [])) a (.ins ci []) := ⟨C, ns, dx, [], hci, Nat.zero_le _, by rw [upd_same]; simp, .nil⟩
  have eN : (L2.start N (.ref a :: us)) = some (.ref a) :: (us.map some ++ List.replicate (N.length - (us.length + 1)) none) := by simp [L2.start]
  have hus : us.length = ds.length := rl.length.symm
  have noOwn : ∀ (j : Nat) (c : Cell), (ds.map Slot.val ++ List.replicate (N.length - ps.length) Slot.no)[j]? ≠ some (.own c) := fun j c h1 => by
    by_cases hi : j < ds.length
    · rw [List.getElem?_append_left (by simpa using hi), List.getElem?_map, List.getElem?_eq_getElem hi] at h1
      cases h1
    · rw [List.getElem?_append_right (by simpa using hi), List.getElem?_replicate] at h1
      split at h1
      · cases h1
      · cases h1
  have re : RE g (L2.start N (.ref a :: us)) (upd (upd H0 dx (.own a)) a (.ins C dx [])) F mu (Slot.own (.ins ci []) :: (ds.map Slot.val ++ List.replicate (N.length - ps.length) Slot.no)) st := by
    rw [eN]
    have base : RE g (us.map some ++ List.replicate (N.length - (us.length + 1)) none) (upd (upd H0 dx (.own a)) a (.ins C dx [])) F mu (ds.map Slot.val ++ List.replicate (N.length - ps.length) Slot.no) st := by
      refine ⟨rh2, by simp [hus]; omega, fun i x hx => ?_, fun i j c c' a b h1 _ _ _ _ => ?_⟩
      · by_cases hi : i < ds.length
        · rw [List.getElem?_append_left (by simpa using hi), List.getElem?_map, List.getElem?_eq_getElem hi] at hx
          cases hx
          obtain ⟨v, h1, h2⟩ := rl.get (List.getElem?_eq_getElem hi)
          refine ⟨some v, ?_, v, rfl, h2⟩
          rw [List.getElem?_append_left (by rw [List.length_map, hus]; exact hi), List.getElem?_map, h1]
          rfl
        · have hlen : i < (ds.map Slot.val ++ List.replicate (N.length - ps.length) Slot.no).length := (List.getElem?_eq_some_iff.mp hx).1
          rw [List.getElem?_append_right (by simpa using hi), List.getElem?_replicate] at hx
          split at hx
          · cases hx
            have h2 : i < (us.map some ++ List.replicate (N.length - (us.length + 1)) (none : Option V)).length := by
              simp only [List.length_append, List.length_map, List.length_replicate] at hlen ⊢
              omega
            exact ⟨_, List.getElem?_eq_getElem h2, trivial⟩
          · cases hx
      · exfalso
        by_cases hi : i < ds.length
        · rw [List.getElem?_append_left (by simpa using hi), List.getElem?_map, List.getElem?_eq_getElem hi] at h1
          cases h1
        · rw [List.getElem?_append_right (by simpa using hi), List.getElem?_replicate] at h1
          split at h1
          · cases h1
          · cases h1
    refine ⟨rh2, by simp [base.len], fun i x hx => ?_, fun i j c c' a' b' h1 h2 h3 h4 ne => ?_⟩
    · cases i with
      | zero =>
        simp at hx
        subst hx
        exact ⟨_, rfl, a, rfl, hFa, hma, hcell⟩
      | succ i =>
        simp only [List.getElem?_cons_succ] at hx ⊢
        exact base.slot i x hx
    · cases i with
      | zero =>
        cases j with
        | zero => exact absurd rfl ne
        | succ j => exact absurd (by simpa using h2) (noOwn j c')
      | succ i => exact absurd (by simpa using h1) (noOwn i c)
  have pinA : ∀ (i : Nat) (c : Cell) (b : Addr), (Slot.own (.ins ci []) :: (ds.map Slot.val ++ List.replicate (N.length - ps.length) Slot.no))[i]? = some (.own c) → (L2.start N (.ref a :: us))[i]? = some (some (.ref b)) → b = a := fun i c b h1 h2 => by
    cases i with
    | zero =>
      rw [eN] at h2
      simp at h2
      exact h2.symm
    | succ i => exact absurd (by simpa using h1) (noOwn i c)
  refine ⟨_, st, F, mu, ⟨re, ex2, fun i c b h1 h2 => by rw [pinA i c b h1 h2]; exact Nw.of ha, fun i ci' fs b h1 h2 => by rw [pinA i _ b h1 h2]⟩, ?_⟩
  · unfold fnInit at h
    rw [if_pos hdl] at h
    cases hm : m (Slot.own (.ins ci []) :: (ds.map Slot.val ++ List.replicate (N.length - ps.length) Slot.no)) st with
    | nx r1 st1 =>
      rw [hm] at h
      dsimp only at h
      cases hh : List.head? r1 with
      | none => rw [hh] at h; exact h.elim
      | some z =>
        rw [hh] at h
        cases z with
        | own c0 =>
          cases c0 with
          | ins c' fs =>
            dsimp only at h
            intro s' H' F' mu' rb mo
            have hr0 : r1[0]? = some (.own (.ins c' fs)) := by
              rw [List.head?_eq_getElem?] at hh
              exact hh
            obtain ⟨b, b1, b2, b3, b4⟩ := rb.re.ownGet hr0
            have eb : b = a := (Option.some.inj (rb.slf 0 _ _ b hr0 b1)).symm
            subst eb
            by_cases hcc : c' = ci
            · rw [if_pos hcc] at h
              rw [hcc] at b4
              exact h H' F' mu' rb.ext rb.re.h b2 b3 b4
            · rw [if_neg hcc] at h
              exact h.elim
          | _ => exact h.elim
        | _ => exact h.elim
    | rt d st1 => rw [hm] at h; exact h.elim
    | bk r1 st1 => rw [hm] at h; exact h.elim
    | ct r1 st1 => rw [hm] at h; exact h.elim
    | exc e r1 st1 => rw [hm] at h; exact fun H' F' mu' rh' ex => h H' F' mu' ex rh'
    | bad => rw [hm] at h; exact h.elim
end
end Mir
/-! E8: what is walked; slices; lists made of lists. -/
namespace Mir
open PySem PySem.Spec PyProof.Rows L2
section
variable {X : Cx} {g : G} {E : XK} {B : Bs} {pos : Pos} {a b c e o tg : Expr} {ma mb mc : EM} {es : List Expr} {mas : AM}
/-- a list, a tuple, a text -/
def iAny (K : PySem.W.Frag) (tl : TE) : TI := fun σ H R => tl σ H fun x H1 =>
  (∃ a, x = .ref a ∧ (∃ xs, SqL K H1 a xs) ∧ R (Itl K a) H1) ∨ (∃ a, x = .ref a ∧ (∃ xs, SqT K H1 a xs) ∧ R (Itt K a) H1) ∨ ∃ z, x = .str z ∧ R (Its z) H1
theorem piAny {tl : TE} (hl : PE X e tl) : PI X tg e (iAny X.K tl) := by
  refine ⟨fun pins s σ H R I h => thn (hl.run pins s σ H _ I h) fun v s1 q => ?_⟩
  obtain ⟨x, H1, I1, r1, q⟩ := q
  have fr : ∀ b, b ∈ [s1.heap.objs.size] → FpOk X pins H1 b := fun b hb => by
    have eb : b = s1.heap.objs.size := by simpa using hb
    rw [eb]
    exact I1.fpOk (Nat.le_refl _) (I1.hok.fresh (Nat.le_refl _))
  rcases q with ⟨a, rfl, ⟨xs, hq⟩, q⟩ | ⟨a, rfl, ⟨xs, hq⟩, q⟩ | ⟨z, rfl, q⟩
  · cases r1
    obtain ⟨its, rv, p, hz⟩ := I1.list hq
    exact wpAny_pyIter_list p.isList ⟨_, [s1.heap.objs.size], _, _, H1, rfl, I1.kept (t' := s1.toks) (fun b o k => Heap.get?_push_of_some _ k), turn_list a _, ⟨_, Heap.get?_push_size _ rfl, rfl, rfl⟩, fr, q⟩
  · cases r1
    obtain ⟨its, rv, p, hz⟩ := I1.tuple hq
    exact wpAny_pyIter_tuple (show s1.heap.IsTuple a its.toArray from p) ⟨_, [s1.heap.objs.size], _, _, H1, rfl, I1.kept (t' := s1.toks) (fun b o k => Heap.get?_push_of_some _ k), turn_tuple a _, ⟨_, Heap.get?_push_size _ rfl, rfl, rfl⟩, fr, q⟩
  · obtain ⟨t, rfl⟩ := r1
    cases ha : z.cps.all (· < 128)
    · exact wpAny_pyIter_wide ha (pi_one (tk := s1.toks) I1 _ (turn_str _ z t _ (Or.inr rfl)) ⟨_, Heap.get?_push_size _ rfl, rfl, rfl⟩ q)
    · exact wpAny_pyIter_ascii ha (pi_one (tk := s1.toks) I1 _ (turn_str _ z t _ (Or.inl rfl)) ⟨_, Heap.get?_push_size _ rfl, rfl, rfl⟩ q)
theorem iter_list {ds : List D} {w : Watch} {F0 : Hp} {mu0 : List Addr} {K : PySem.W.Frag} {p : Addr} (h : ∀ (H F : Hp) (mu : List Addr) (st : Mir.St), Mono F0 mu0 F mu → RH g H F mu st → w.ok st = true → ∃ vs, SqL K H p vs ∧ RepL g F mu ds vs) : Iter g (Itl K p) ds w F0 mu0 := by
  intro H F mu st mo rh hw i
  obtain ⟨vs, h1, h3⟩ := h H F mu st mo rh hw
  refine ⟨fun hi => ⟨vs, h1, by rw [← h3.length, hi]; exact Nat.le_refl _⟩, fun d hd => ?_⟩
  obtain ⟨v, v1, v2⟩ := h3.get hd
  refine ⟨⟨vs, v, h1, v1⟩, fun x H' hy => ?_⟩
  obtain ⟨rfl, hy⟩ := hy
  have := hy vs h1
  rw [v1] at this
  cases this
  exact ⟨F, rh, .refl _ _ _, v2⟩
theorem iter_tup {ds : List D} {w : Watch} {F0 : Hp} {mu0 : List Addr} {K : PySem.W.Frag} {p : Addr} (h : ∀ (H F : Hp) (mu : List Addr) (st : Mir.St), Mono F0 mu0 F mu → RH g H F mu st → ∃ vs, SqT K H p vs ∧ RepL g F mu ds vs) : Iter g (Itt K p) ds w F0 mu0 := by
  intro H F mu st mo rh hw i
  obtain ⟨vs, h1, h3⟩ := h H F mu st mo rh
  refine ⟨fun hi => ⟨vs, h1, by rw [← h3.length, hi]; exact Nat.le_refl _⟩, fun d hd => ?_⟩
  obtain ⟨v, v1, v2⟩ := h3.get hd
  refine ⟨⟨vs, v, h1, v1⟩, fun x H' hy => ?_⟩
  obtain ⟨rfl, hy⟩ := hy
  have := hy vs h1
  rw [v1] at this
  cases this
  exact ⟨F, rh, .refl _ _ _, v2⟩
theorem piE (hK : X.K = g.K) (ha : PE X e (rdE g E ma)) : PI X tg e (rdI g E (iE ma)) := PI.imp (piAny ha) fun s H R h => by
  obtain ⟨r, st, F, mu, re, h⟩ := h
  refine ⟨r, st, F, mu, re, OutQ.bind h fun x st1 v H1 F1 mu1 _ e1 re1 rx k => ?_⟩
  rw [hK]
  cases hi : itemsOf st1 x with
  | none => rw [hi] at k; exact k.elim
  | some p =>
    rw [hi] at k
    unfold itemsOf at hi
    split at hi
    · rename_i xs
      cases hi
      simp only [RepX, RepV] at rx
      obtain ⟨p, vs, rfl, h1, h2⟩ := rx
      refine .inl ⟨p, rfl, ⟨vs, SqL.of (re1.h.lst h1)⟩, k _ H1 F1 mu1 e1 re1 (iter_list fun H F mu st mo rh _ => ?_)⟩
      exact ⟨vs, SqL.of (rh.lst (mo.fro _ _ h1)), RepL.mono mo _ _ h2⟩
    · rename_i xs
      cases hi
      simp only [RepX, RepV] at rx
      obtain ⟨p, vs, rfl, h1, h2⟩ := rx
      exact .inr (.inl ⟨p, rfl, ⟨vs, re1.h.seqT h1⟩, k _ H1 F1 mu1 e1 re1 (iter_tup fun H F mu st mo rh => ⟨vs, rh.seqT (mo.fro _ _ h1), RepL.mono mo _ _ h2⟩)⟩)
    · rename_i xs
      cases hi
      simp only [RepX, RepV] at rx
      obtain ⟨p, vs, rfl, h1, h2⟩ := rx
      exact .inr (.inl ⟨p, rfl, ⟨vs, h1.seq⟩, k _ H1 F1 mu1 e1 re1 (iter_tup fun H F mu st mo rh => ⟨vs, h1.seq, RepL.mono mo _ _ h2⟩)⟩)
    · rename_i z _
      cases hi
      simp only [RepX, RepV] at rx
      subst rx
      refine .inr (.inr ⟨toS z, rfl, k _ H1 F1 mu1 e1 re1 fun H F mu st mo rh _ i => ⟨fun hi => ?_, fun d hd => ?_⟩⟩)
      · show (toS z).cps.size ≤ i
        rw [hi]
        simp [toS]
      · rw [List.getElem?_map] at hd
        cases hc : z[i]? with
        | none => rw [hc] at hd; cases hd
        | some cc =>
          rw [hc] at hd
          cases hd
          have hl := (List.getElem?_eq_some_iff.mp hc).1
          refine ⟨by show i < (toS z).cps.size; simpa [toS] using hl, fun x H' hy => ?_⟩
          obtain ⟨rfl, c', h1, rfl⟩ := hy
          have : (toS z).cps[i]? = some cc := by simpa [toS] using hc
          rw [this] at h1
          cases h1
          exact ⟨F, rh, .refl _ _ _, by simp only [RepV]; rfl⟩
    · rename_i n _
      split at hi
      · rename_i xs hn
        cases hi
        simp only [RepX, RepV] at rx
        obtain ⟨p, hp, rfl⟩ := rx
        obtain ⟨p', q1, _, vs, q3, q4⟩ := re1.h.cel n _ hn
        rw [hp] at q1
        cases q1
        refine .inl ⟨p, rfl, ⟨vs, SqL.of q3⟩, k _ H1 F1 mu1 e1 re1 (iter_list fun H F mu st mo rh hw => ?_)⟩
        have hn2 : st[n]? = some (.lst xs) := of_decide_eq_true hw
        obtain ⟨p', q1, _, us, q5, q6⟩ := rh.cel n _ hn2
        rw [mo.mu _ _ hp] at q1
        cases q1
        exact ⟨us, SqL.of q5, q6⟩
      · cases hi
    · cases hi
/-! ### range -/
theorem rangeD_get {lo hi : Int} {i : Nat} {d : D} (h : (rangeD lo hi)[i]? = some d) : d = .int (lo + i) ∧ i < (hi - lo).toNat := by
  unfold rangeD at h
  rw [List.getElem?_map] at h
  cases hr : (List.range (hi - lo).toNat)[i]? with
  | none => rw [hr] at h; cases h
  | some k =>
    rw [hr] at h
    have hl := (List.getElem?_eq_some_iff.mp hr).1
    rw [List.length_range] at hl
    rw [List.getElem?_range hl] at hr
    cases hr
    cases h
    exact ⟨rfl, hl⟩
theorem iter_rng {lo hi : Int} {w : Watch} {F0 : Hp} {mu0 : List Addr} : Iter g (Itr lo (hi - lo).toNat) (rangeD lo hi) w F0 mu0 := by
  intro H F mu st mo rh hw i
  refine ⟨fun h => ?_, fun d hd => ?_⟩
  · show (hi - lo).toNat ≤ i
    rw [h]
    simp [rangeD]
  · obtain ⟨rfl, hl⟩ := rangeD_get hd
    refine ⟨hl, fun x H' hy => ?_⟩
    obtain ⟨rfl, rfl⟩ := hy
    exact ⟨F, rh, .refl _ _ _, by simp only [RepV]⟩
theorem piR1 (h : PI X tg e (L2.iRng1 (tCons (rdE g E ma) tNil))) : PI X tg e (rdI g E (Mir.iRng1 ma)) := PI.imp h fun s H R h => by
  obtain ⟨r, st, F, mu, re, h⟩ := h
  refine ⟨r, st, F, mu, re, OutQ.bind h fun x st1 v H1 F1 mu1 _ e1 re1 rx k => ?_⟩
  cases x with
  | bor c => exact k.elim
  | val d =>
    cases d with
    | int j =>
      dsimp only at k
      simp only [RepX, RepV] at rx
      subst rx
      by_cases hj : -(2 ^ 62) ≤ j ∧ j < 2 ^ 62
      · rw [if_pos hj] at k
        refine ⟨j, rfl, hj.1, hj.2, ?_⟩
        have := k (Itr 0 (j - 0).toNat) H1 F1 mu1 e1 re1 iter_rng
        simpa using this
      · rw [if_neg hj] at k
        exact k.elim
    | _ => exact k.elim
theorem piR2 (h : PI X tg e (L2.iRng2 (tCons (rdE g E ma) (tCons (rdE g E mb) tNil)))) : PI X tg e (rdI g E (Mir.iRng2 ma mb)) := PI.imp h fun s H R h => by
  obtain ⟨r, st, F, mu, re, h⟩ := h
  refine ⟨r, st, F, mu, re, OutQ.bind h fun x st1 v H1 F1 mu1 _ e1 re1 rx k => ?_⟩
  refine ⟨r, st1, F1, mu1, re1, OutQ.bind (k.ext e1) fun y st2 v2 H2 F2 mu2 _ e2 re2 ry k2 => ?_⟩
  cases x with
  | bor c => exact k2.elim
  | val d =>
    cases y with
    | bor c => cases d <;> exact k2.elim
    | val d2 =>
      cases d with
      | int i =>
        cases d2 with
        | int j =>
          dsimp only at k2
          simp only [RepX, RepV] at rx ry
          subst rx ry
          by_cases hj : -(2 ^ 62) ≤ i ∧ i < 2 ^ 62 ∧ -(2 ^ 62) ≤ j ∧ j < 2 ^ 62
          · rw [if_pos hj] at k2
            exact ⟨i, j, rfl, hj, k2 (Itr i (j - i).toNat) H2 F2 mu2 e2 re2 iter_rng⟩
          · rw [if_neg hj] at k2
            exact k2.elim
        | _ => exact k2.elim
      | _ => cases d2 <;> exact k2.elim

/-! ### enumerate, zip -/
/-- enumerate of a tuple: made -/
theorem meets_enumT (l : Addr) (its : Array Value) (n : Nat) (dd : Option Addr) (sl : Array (Option Value)) :
    Meets (Builtin.«enumerate.__new__» ⟨[.type "enumerate", .ref l], []⟩) (fun _ R s => s.heap.get? l = some { cls := .type "tuple", dict := dd, data := .seq its n, slots := sl } ∧
      R (.ok (.ret (.ref (s.heap.push { cls := .type "tuple_iterator", data := .fields #[.ref l, .int 0 0] }).objs.size)))
        { s with heap := (s.heap.push { cls := .type "tuple_iterator", data := .fields #[.ref l, .int 0 0] }).push { cls := .type "enumerate", data := .fields #[.none, .bool false, .ref s.heap.objs.size, rawInt 0, .none, .none] } }) := .of_wp fun prog w A R s h => by
  obtain ⟨hp, gg, d, tk, os⟩ := s
  obtain ⟨hl, h⟩ := h
  have hsub := sub_enumerate
  have hT : Heap.IsTuple (Shared.heap ⟨hp, gg, d, tk, os⟩) l its := ⟨_, hl, rfl, n, rfl⟩
  wp_walk using AutoSeq1.wpAny_loadPart' hl
  refine wpAny_stack_any fun _ => wpAny_pure ?_
  split
  · rename_i c _ _ _ _ _
    cases (c == Value.type "enumerate") <;> (wp_walk using AutoSeq1.wpAny_loadPart' hl, wpAny_pyIter_tuple hT; exact ⟨_, rfl, h⟩)
  · wp_walk using AutoSeq1.wpAny_loadPart' hl, wpAny_pyIter_tuple hT
    exact ⟨_, rfl, h⟩
end
section
variable {prog : Program} {w : World} {A : Around} {E : Value → Shared → Prop} {s : Shared}
theorem call_enumT {l : Addr} {its : Array Value} {Q : Value → Shared → Prop} (hL : s.heap.IsTuple l its)
    (h : ∀ h', IsEnum h' (s.heap.objs.size + 1) s.heap.objs.size 0 .none → h'.IsTupleIter s.heap.objs.size l 0 → (∀ b o, s.heap.get? b = some o → h'.get? b = some o) → Q (.ref (s.heap.objs.size + 1)) { s with heap := h' }) :
    wpAny (model prog w) A (call (.type "enumerate") [.ref l]) Q E s := by
  obtain ⟨⟨c, dd, dt, sl⟩, hl, hc, n, hd⟩ := hL
  have hc : c = .type "tuple" := hc
  have hd : dt = .seq its n := hd
  subst hc hd
  refine callType_new F.called_enumerate (by decide) (F.typeCall_enumerate_1 _) (F.newCall_enumerate_1 _) (fun obj => F.args_object_init_2 obj _)
    F.entry_enumerate_new (meets_enumT l its n dd sl) ⟨hl, ?_⟩
  have hz : (s.heap.push { cls := .type "tuple_iterator", data := .fields #[.ref l, .int 0 0] }).objs.size = s.heap.objs.size + 1 := Heap.size_push ..
  show _ ∧ _
  rw [hz]
  have he : IsEnum ((s.heap.push { cls := .type "tuple_iterator", data := .fields #[.ref l, .int 0 0] }).push { cls := .type "enumerate", data := .fields #[.none, .bool false, .ref s.heap.objs.size, rawInt 0, .none, .none] }) (s.heap.objs.size + 1) s.heap.objs.size 0 .none := by
    have q := Heap.get?_push_size (s.heap.push { cls := .type "tuple_iterator", data := .fields #[.ref l, .int 0 0] }) (o := { cls := .type "enumerate", data := .fields #[.none, .bool false, .ref s.heap.objs.size, rawInt 0, .none, .none] }) rfl
    rw [hz] at q
    exact q
  exact ⟨⟨_, he, rfl⟩, h _ he ⟨_, Heap.get?_push_of_some _ (Heap.get?_push_size _ rfl), rfl, rfl⟩ fun b o k => Heap.get?_push_of_some _ (Heap.get?_push_of_some _ k)⟩
end
/-- its turns -/
def IteT (K : PySem.W.Frag) (a : Addr) : It :=
  ⟨fun i H => ∃ (xs : List V) (x : V), SqT K H a xs ∧ xs[i]? = some x, fun i H v H' => ∃ T x, v = .ref T ∧ H T = none ∧ H' = upd H T (.tup [.int (i : Nat), x]) ∧ ∀ xs, SqT K H a xs → xs[i]? = some x,
   fun i H => ∃ xs : List V, SqT K H a xs ∧ xs.length = i⟩
theorem turn_enumT {P : Program} {w : World} {K : PySem.W.Frag} {elts : List Expr} {kk : Nat} {tpos : Pos} (a e it : Addr) (hae : a ≠ e) (hai : a ≠ it) :
    Turn P w K (.Tuple elts kk tpos) (IteT K a) [e, it] e (fun i h => (∃ old, IsEnum h e it ((i : Nat) : Int) old) ∧ h.IsTupleIter it a i ∧ e ≠ it) where
  mem := by simp
  obj := fun i h st b hb => by
    obtain ⟨⟨old, he⟩, ⟨o, ho, hc, hd⟩, _⟩ := st
    rcases (show b = e ∨ b = it by simpa using hb) with z | z
    · rw [z]
      exact ⟨_, he, fun v q => nomatch q⟩
    · rw [z]
      exact ⟨o, ho, fun v q => by rw [hd] at q; cases q⟩
  keep := fun i h h' st k => let ⟨⟨old, he⟩, ⟨o, ho, r⟩, hne⟩ := st; ⟨⟨old, k e (by simp) _ he⟩, ⟨o, k it (by simp) o ho, r⟩, hne⟩
  item := by
    intro X hP hw hK hc i pins s σ H E I hf st hg
    subst hP hw hK
    obtain ⟨⟨old, he⟩, hit, hne⟩ := st
    obtain ⟨xs, x, hq, hx⟩ := hg
    obtain ⟨its, rv, p, hz⟩ := I.tuple hq
    obtain ⟨u, hu, ru⟩ := rv.get hx
    have hel : e < s.heap.objs.size := Heap.lt_size he
    have hil : it < s.heap.objs.size := let ⟨_, q, _⟩ := hit; Heap.lt_size q
    have hal : a < s.heap.objs.size := p.lt
    have hi : i < its.toArray.size := by
      have := (List.getElem?_eq_some_iff.mp hu).1
      simpa using this
    refine wpAny_pyNext_enum_itemD (Draws.tuple (A := X.A.in1) (I.ok.hd hc) it a hai its.toArray) he ⟨hit, show s.heap.IsTuple a its.toArray from p⟩ hi hne (by simp [hne, Ne.symm hae]) fun y h' tk hy ho hst' hT hsz hk => ?_
    have hyu : y = u := by
      have : its.toArray[i]? = some u := by simpa using hu
      rw [this] at hy
      exact (Option.some.inj hy).symm
    subst hyu
    refine ⟨_, rfl, wpAny_letOwnedTupleGo_enum (s := { s with heap := h', toks := tk + 1 }) ho fun h'' he' sb => ?_⟩
    have hT2 : h''.get? s.heap.objs.size = some { cls := .type "tuple", data := .seq #[.int i tk, y] } := (sb.2 _ (Nat.ne_of_gt hel)).trans hT
    have new : ObjOk X.prog X.w (upd H s.heap.objs.size (.tup [.int (i : Nat), x])) h'' s.heap.objs.size (.tup [.int (i : Nat), x]) :=
      ⟨by show 2 ≤ sizeLine; decide, [.int i tk, y], .cons ⟨_, rfl⟩ (.cons ru .nil), ⟨_, hT2, rfl, _, rfl⟩⟩
    have I1 : Inv X pins σ (upd H s.heap.objs.size (.tup [.int (i : Nat), x])) { s with heap := h'', toks := tk + 1 } :=
      I.turnedNew (ch := [e, it]) (fun b ob hb q => (sb.2 b (fun z => hb (by simp [z]))).trans (hk b ob (fun z => hb (by simp [z])) (fun z => hb (by simp [z])) q)) hf (Nat.le_refl _) new
    refine ⟨.ref s.heap.objs.size, _, I1, rfl, ⟨_, x, rfl, I.hok.fresh (Nat.le_refl _), rfl, fun ys hy => by rw [I.tuple_inj hy hq]; exact hx⟩, ⟨⟨y, by rw [show ((i + 1 : Nat) : Int) = (i : Int) + 1 by omega]; exact he'⟩, ?_, hne⟩, fun b hb => ?_⟩
    · obtain ⟨o, q1, q2⟩ := hst'.1
      exact ⟨o, (sb.2 it (Ne.symm hne)).trans q1, q2⟩
    · have hb' : b < s.heap.objs.size := by
        rcases (show b = e ∨ b = it by simpa using hb) with z | z
        · rw [z]; exact hel
        · rw [z]; exact hil
      rw [upd_ne (Nat.ne_of_lt hb')]
      exact (hf b hb).1
  done := by
    intro X hP hw hK hc i pins s σ H E I hf st hg
    subst hP hw hK
    obtain ⟨⟨old, he⟩, hit, hne⟩ := st
    obtain ⟨xs, hq, hx⟩ := hg
    obtain ⟨its, rv, p, hz⟩ := I.tuple hq
    obtain ⟨f0, f1, f2, f3, f4, f5⟩ := hf it (by simp)
    have hl : its.toArray.size = i := by
      have := rv.length
      simp
      omega
    subst hl
    exact wpAny_pyNext_enum_endD (Draws.tuple (A := X.A.in1) (I.ok.hd hc) it a hai its.toArray) he ⟨hit, show s.heap.IsTuple a its.toArray from p⟩ fun h' eb => ⟨rfl, I.turned (t' := s.toks) (fun b o hb q => eb b o hb q) f0 f1 f3 f4 f5⟩
  self := fun A i s Q E st h => let ⟨⟨_, he⟩, _⟩ := st; wpAny_pyIter_enum he h
section
variable {X : Cx} {g : G} {E : XK} {pos p tpos : Pos} {e a b tg : Expr} {ma mb : EM} {elts : List Expr} {kk : Nat}
def iEnumA (K : PySem.W.Frag) (ta : TA) : TI := fun σ H R => ta σ H fun vs H1 => ∃ a xs, vs = [.ref a] ∧ ((SqL K H1 a xs ∧ R (Ite K a) H1) ∨ (SqT K H1 a xs ∧ R (IteT K a) H1))
theorem piEnumA {ta : TA} (hg : Gl X "enumerate") (hm : X.mg "enumerate" = none) (ha : PA X [e] ta) (hs : starEach [e] X.env = [(false, eval e X.env)] := by rfl) :
    PI X (.Tuple elts kk tpos) (.Call (.Name "enumerate" p) [e] [] pos) (iEnumA X.K ta) := by
  refine ⟨fun pins s σ H R I h => Call_ (ld_blt I hg hm boot_enumerate (PyProof.Rows.callWith_type1 (thn (ha.run pos pins s σ H _ I h) fun us s1 q1 => ?_) hs rfl))⟩
  obtain ⟨vs, H1, I1, r1, a, xs, ex, q⟩ := q1
  subst ex
  cases r1 with
  | cons r rr =>
    cases rr
    cases r
    have fr : ∀ b, b ∈ [s1.heap.objs.size + 1, s1.heap.objs.size] → FpOk X pins H1 b := fun b hb => by
      have hle : s1.heap.objs.size ≤ b := by
        rcases (show b = s1.heap.objs.size + 1 ∨ b = s1.heap.objs.size by simpa using hb) with z | z
        · rw [z]; exact Nat.le_add_right _ _
        · rw [z]; exact Nat.le_refl _
      exact I1.fpOk hle (I1.hok.fresh hle)
    rcases q with ⟨hq, q⟩ | ⟨hq, q⟩
    · obtain ⟨its, rv, p', hz⟩ := I1.list hq
      exact call_enumerate_list p'.isList fun h' he hit hsz hk => wpAny_pyIter_enum he ⟨_, _, _, _, H1, rfl, I1.kept (t' := s1.toks) hk, turn_enum a _ _, ⟨⟨.none, he⟩, hit, Nat.succ_ne_self _⟩, fr, q⟩
    · obtain ⟨its, rv, p', hz⟩ := I1.tuple hq
      have hl := p'.lt
      exact call_enumT (show s1.heap.IsTuple a its.toArray from p') fun h' he hit hk => wpAny_pyIter_enum he ⟨_, _, _, _, H1, rfl, I1.kept (t' := s1.toks) hk, turn_enumT a _ _ (Nat.ne_of_lt (Nat.lt_succ_of_lt hl)) (Nat.ne_of_lt hl), ⟨⟨.none, he⟩, hit, Nat.succ_ne_self _⟩, fr, q⟩
theorem enumD_get : ∀ {xs : List D} {k i : Nat} {d : D}, (enumD k xs)[i]? = some d → ∃ x, xs[i]? = some x ∧ d = .tup [.int ((k + i : Nat) : Int), x]
  | [], k, i, d, h => by simp [enumD] at h
  | x :: xs, k, 0, d, h => by
    simp [enumD] at h
    exact ⟨x, rfl, h.symm⟩
  | x :: xs, k, i + 1, d, h => by
    simp only [enumD, List.getElem?_cons_succ] at h
    obtain ⟨y, h1, h2⟩ := enumD_get h
    exact ⟨y, by simpa using h1, by rw [h2, show k + 1 + i = k + (i + 1) by omega]⟩
theorem enumD_len : ∀ {xs : List D} {k : Nat}, (enumD k xs).length = xs.length
  | [], _ => rfl
  | x :: xs, k => by simp [enumD, enumD_len]
theorem tup2_new {H F : Hp} {mu : List Addr} {st : Mir.St} {T : Addr} {x y : V} {dx dy : D} (rh : RH g H F mu st) (hT : H T = none) (rx : RepV g F mu dx x) (ry : RepV g F mu dy y) :
    ∃ F', RH g (upd H T (.tup [x, y])) F' mu st ∧ Ext H F mu (upd H T (.tup [x, y])) F' mu ∧ RepV g F' mu (.tup [dx, dy]) (.ref T) := by
  refine ⟨upd F T (.tup [x, y]), rh.new hT, Ext.new rh hT, ?_⟩
  simp only [RepV]
  exact ⟨T, [x, y], rfl, upd_same, .cons (RepV.mono (Mono.new rh hT) _ _ rx) (.one (RepV.mono (Mono.new rh hT) _ _ ry))⟩
theorem iter_enum {ds : List D} {w : Watch} {F0 : Hp} {mu0 : List Addr} {K : PySem.W.Frag} {p : Addr} (h : ∀ (H F : Hp) (mu : List Addr) (st : Mir.St), Mono F0 mu0 F mu → RH g H F mu st → w.ok st = true → ∃ vs, SqL K H p vs ∧ RepL g F mu ds vs) : Iter g (Ite K p) (enumD 0 ds) w F0 mu0 := by
  intro H F mu st mo rh hw i
  obtain ⟨vs, h1, h3⟩ := h H F mu st mo rh hw
  refine ⟨fun hi => ⟨vs, h1, by rw [← h3.length, hi, enumD_len]; exact Nat.le_refl _⟩, fun d hd => ?_⟩
  obtain ⟨d', hd', rfl⟩ := enumD_get hd
  obtain ⟨v, v1, v2⟩ := h3.get hd'
  refine ⟨⟨vs, v, h1, v1⟩, fun x H' hy => ?_⟩
  obtain ⟨T, y, rfl, hT, rfl, hy⟩ := hy
  have := hy vs h1
  rw [v1] at this
  cases this
  exact tup2_new rh hT (by simp only [RepV]; rw [Nat.zero_add]) v2
theorem iter_enumT {ds : List D} {w : Watch} {F0 : Hp} {mu0 : List Addr} {K : PySem.W.Frag} {p : Addr} (h : ∀ (H F : Hp) (mu : List Addr) (st : Mir.St), Mono F0 mu0 F mu → RH g H F mu st → ∃ vs, SqT K H p vs ∧ RepL g F mu ds vs) : Iter g (IteT K p) (enumD 0 ds) w F0 mu0 := by
  intro H F mu st mo rh hw i
  obtain ⟨vs, h1, h3⟩ := h H F mu st mo rh
  refine ⟨fun hi => ⟨vs, h1, by rw [← h3.length, hi, enumD_len]⟩, fun d hd => ?_⟩
  obtain ⟨d', hd', rfl⟩ := enumD_get hd
  obtain ⟨v, v1, v2⟩ := h3.get hd'
  refine ⟨⟨vs, v, h1, v1⟩, fun x H' hy => ?_⟩
  obtain ⟨T, y, rfl, hT, rfl, hy⟩ := hy
  have := hy vs h1
  rw [v1] at this
  cases this
  exact tup2_new rh hT (by simp only [RepV]; rw [Nat.zero_add]) v2
/-- what is walked of a list or a tuple, whatever the walk makes of it -/
theorem items_rep {H F : Hp} {mu : List Addr} {st : Mir.St} {x : Opd} {v : V} {xs : List D} {w : Watch} (rh : RH g H F mu st) (rx : RepX g H F mu x v) (hi : itemsOf st x = some (xs, w)) (hs : ∀ z, x ≠ .val (.str z)) :
    (∃ p, v = .ref p ∧ (∃ vs, SqL g.K H p vs) ∧ ∀ (H' F' : Hp) (mu' : List Addr) (st' : Mir.St), Mono F mu F' mu' → RH g H' F' mu' st' → w.ok st' = true → ∃ vs, SqL g.K H' p vs ∧ RepL g F' mu' xs vs) ∨
    (∃ p, v = .ref p ∧ (∃ vs, SqT g.K H p vs) ∧ ∀ (H' F' : Hp) (mu' : List Addr) (st' : Mir.St), Mono F mu F' mu' → RH g H' F' mu' st' → ∃ vs, SqT g.K H' p vs ∧ RepL g F' mu' xs vs) := by
  unfold itemsOf at hi
  split at hi
  · cases hi
    simp only [RepX, RepV] at rx
    obtain ⟨p, vs, rfl, h1, h2⟩ := rx
    exact .inl ⟨p, rfl, ⟨vs, SqL.of (rh.lst h1)⟩, fun H' F' mu' st' mo rh' _ => ⟨vs, SqL.of (rh'.lst (mo.fro _ _ h1)), RepL.mono mo _ _ h2⟩⟩
  · cases hi
    simp only [RepX, RepV] at rx
    obtain ⟨p, vs, rfl, h1, h2⟩ := rx
    exact .inr ⟨p, rfl, ⟨vs, rh.seqT h1⟩, fun H' F' mu' st' mo rh' => ⟨vs, rh'.seqT (mo.fro _ _ h1), RepL.mono mo _ _ h2⟩⟩
  · cases hi
    simp only [RepX, RepV] at rx
    obtain ⟨p, vs, rfl, h1, h2⟩ := rx
    exact .inr ⟨p, rfl, ⟨vs, h1.seq⟩, fun H' F' mu' st' mo rh' => ⟨vs, h1.seq, RepL.mono mo _ _ h2⟩⟩
  · exact absurd rfl (hs _)
  · rename_i n
    split at hi
    · rename_i ys hn
      cases hi
      simp only [RepX, RepV] at rx
      obtain ⟨p, hp, rfl⟩ := rx
      obtain ⟨p', q1, _, vs, q3, q4⟩ := rh.cel n _ hn
      rw [hp] at q1
      cases q1
      refine .inl ⟨p, rfl, ⟨vs, SqL.of q3⟩, fun H' F' mu' st' mo rh' hw => ?_⟩
      have hn2 : st'[n]? = some (.lst xs) := of_decide_eq_true hw
      obtain ⟨p', q1, _, us, q5, q6⟩ := rh'.cel n _ hn2
      rw [mo.mu _ _ hp] at q1
      cases q1
      exact ⟨us, SqL.of q5, q6⟩
    · cases hi
  · cases hi
theorem piEn (hK : X.K = g.K) (h : PI X tg e (iEnumA X.K (tCons (rdE g E ma) tNil))) : PI X tg e (rdI g E (iEnum ma)) := PI.imp h fun s H R h => by
  obtain ⟨r, st, F, mu, re, h⟩ := h
  refine ⟨r, st, F, mu, re, OutQ.bind h fun x st1 v H1 F1 mu1 _ e1 re1 rx k => ?_⟩
  rw [hK]
  have key : ∀ q, enumOf st1 x = some q → ∃ xs w, itemsOf st1 x = some (xs, w) ∧ q = (enumD 0 xs, w) ∧ ∀ z, x ≠ .val (.str z) := by
    intro q hq
    unfold enumOf at hq
    split at hq
    · cases hq
    · rename_i hx
      simp only [Option.map_eq_some_iff] at hq
      obtain ⟨⟨xs, w⟩, h1, h2⟩ := hq
      exact ⟨xs, w, h1, h2.symm, fun z hz => hx z hz⟩
  cases hi : enumOf st1 x with
  | none => rw [hi] at k; exact k.elim
  | some q =>
    obtain ⟨xs, w, hi', rfl, hs⟩ := key q hi
    rw [hi] at k
    rcases items_rep re1.h rx hi' hs with ⟨p, rfl, ⟨vs, h1⟩, h2⟩ | ⟨p, rfl, ⟨vs, h1⟩, h2⟩
    · exact ⟨p, vs, rfl, .inl ⟨h1, k _ H1 F1 mu1 e1 re1 (iter_enum h2)⟩⟩
    · exact ⟨p, vs, rfl, .inr ⟨h1, k _ H1 F1 mu1 e1 re1 (iter_enumT h2)⟩⟩
theorem zipD_get : ∀ {xs ys : List D} {i : Nat} {d : D}, (zipD xs ys)[i]? = some d → ∃ x y, xs[i]? = some x ∧ ys[i]? = some y ∧ d = .tup [x, y]
  | [], ys, i, d, h => by simp [zipD] at h
  | x :: xs, [], i, d, h => by simp [zipD] at h
  | x :: xs, y :: ys, 0, d, h => by
    simp [zipD] at h
    exact ⟨x, y, rfl, rfl, h.symm⟩
  | x :: xs, y :: ys, i + 1, d, h => by
    simp only [zipD, List.getElem?_cons_succ] at h ⊢
    exact zipD_get h
theorem zipD_len : ∀ {xs ys : List D}, (zipD xs ys).length = xs.length ∨ (zipD xs ys).length = ys.length
  | [], _ => .inl rfl
  | x :: xs, [] => .inr rfl
  | x :: xs, y :: ys => by
    simp only [zipD, List.length_cons]
    rcases zipD_len (xs := xs) (ys := ys) with h | h
    · exact .inl (by rw [h])
    · exact .inr (by rw [h])
theorem piZip (hK : X.K = g.K) (h : PI X tg e (RZ.iZipA X.K (tCons (rdE g E ma) (tCons (rdE g E mb) tNil)))) : PI X tg e (rdI g E (Mir.iZip ma mb)) := PI.imp h fun s H R h => by
  obtain ⟨r, st, F, mu, re, h⟩ := h
  refine ⟨r, st, F, mu, re, OutQ.bind h fun x st1 v H1 F1 mu1 _ e1 re1 rx k => ?_⟩
  refine ⟨r, st1, F1, mu1, re1, OutQ.bind (k.ext e1) fun y st2 v2 H2 F2 mu2 _ e2 re2 ry k2 => ?_⟩
  rw [hK]
  cases x with
  | bor c => exact k2.elim
  | val d =>
    cases y with
    | bor c => cases d <;> exact k2.elim
    | val d2 =>
      cases d with
      | tup xs =>
        cases d2 with
        | tup ys =>
          have rx' := rx.ext e2
          simp only [RepX, RepV] at rx' ry
          obtain ⟨p, vs, rfl, h1, h2⟩ := rx'
          obtain ⟨q, us, rfl, h3, h4⟩ := ry
          refine ⟨p, q, vs, us, rfl, .inr ⟨re2.h.seqT h1, re2.h.seqT h3, k2 _ H2 F2 mu2 e2 re2 fun H F mu st mo rh _ i => ⟨fun hi => ?_, fun d hd => ?_⟩⟩⟩
          · refine ⟨vs, us, rh.seqT (mo.fro _ _ h1), rh.seqT (mo.fro _ _ h3), ?_⟩
            rw [← h2.length, ← h4.length]
            rcases zipD_len (xs := xs) (ys := ys) with hz | hz
            · exact .inl (by rw [hi, hz]; exact Nat.le_refl _)
            · exact .inr (by rw [hi, hz]; exact Nat.le_refl _)
          · obtain ⟨a, b, ha, hb, rfl⟩ := zipD_get hd
            obtain ⟨va, a1, a2⟩ := h2.get ha
            obtain ⟨vb, b1, b2⟩ := h4.get hb
            refine ⟨⟨vs, us, va, vb, rh.seqT (mo.fro _ _ h1), rh.seqT (mo.fro _ _ h3), a1, b1⟩, fun z H' hy => ?_⟩
            obtain ⟨T, y1, y2, rfl, hT, rfl, c1, c2⟩ := hy
            have c1 := c1 vs (rh.seqT (mo.fro _ _ h1))
            have c2 := c2 us (rh.seqT (mo.fro _ _ h3))
            rw [a1] at c1
            rw [b1] at c2
            cases c1
            cases c2
            exact tup2_new rh hT (RepV.mono mo _ _ a2) (RepV.mono mo _ _ b2)
        | _ => exact k2.elim
      | lst xs =>
        cases d2 with
        | lst ys =>
          have rx' := rx.ext e2
          simp only [RepX, RepV] at rx' ry
          obtain ⟨p, vs, rfl, h1, h2⟩ := rx'
          obtain ⟨q, us, rfl, h3, h4⟩ := ry
          refine ⟨p, q, vs, us, rfl, .inl ⟨SqL.of (re2.h.lst h1), SqL.of (re2.h.lst h3), k2 _ H2 F2 mu2 e2 re2 fun H F mu st mo rh _ i => ⟨fun hi => ?_, fun d hd => ?_⟩⟩⟩
          · refine ⟨vs, us, SqL.of (rh.lst (mo.fro _ _ h1)), SqL.of (rh.lst (mo.fro _ _ h3)), ?_⟩
            rw [← h2.length, ← h4.length]
            rcases zipD_len (xs := xs) (ys := ys) with hz | hz
            · exact .inl (by rw [hi, hz]; exact Nat.le_refl _)
            · exact .inr (by rw [hi, hz]; exact Nat.le_refl _)
          · obtain ⟨a, b, ha, hb, rfl⟩ := zipD_get hd
            obtain ⟨va, a1, a2⟩ := h2.get ha
            obtain ⟨vb, b1, b2⟩ := h4.get hb
            refine ⟨⟨vs, us, va, vb, SqL.of (rh.lst (mo.fro _ _ h1)), SqL.of (rh.lst (mo.fro _ _ h3)), a1, b1⟩, fun z H' hy => ?_⟩
            obtain ⟨T, y1, y2, rfl, hT, rfl, c1, c2⟩ := hy
            have c1 := c1 vs (SqL.of (rh.lst (mo.fro _ _ h1)))
            have c2 := c2 us (SqL.of (rh.lst (mo.fro _ _ h3)))
            rw [a1] at c1
            rw [b1] at c2
            cases c1
            cases c2
            exact tup2_new rh hT (RepV.mono mo _ _ a2) (RepV.mono mo _ _ b2)
        | _ => exact k2.elim
      | _ => cases d2 <;> exact k2.elim
end
end Mir
/-! E9: dicts; in; slices; lists made of lists; sorted: why the rules' wants follow. -/
namespace Mir
open PySem PySem.Spec PyProof.Rows L2
section
variable {g : G} {F : Hp} {mu : List Addr}
theorem repK_fun : ∀ {d : D} {k k' : Key}, RepK d k → RepK d k' → k = k'
  | .int _, _, _, h, h' => by simp only [RepK] at h h'; rw [h, h']
  | .str _, _, _, h, h' => by simp only [RepK] at h h'; rw [h, h']
  | .non, _, _, h, _ => h.elim
  | .bl _, _, _, h, _ => h.elim
  | .ref _, _, _, h, _ => h.elim
  | .tup _, _, _, h, _ => h.elim
  | .lst _, _, _, h, _ => h.elim
  | .dct _ _, _, _, h, _ => h.elim
  | .obj _ _, _, _, h, _ => h.elim
  | .lam _, _, _, h, _ => h.elim
  | .scr _, _, _, h, _ => h.elim
  | .ktp _, _, _, h, _ => h.elim
theorem repK_inj : ∀ {d d' : D} {k : Key}, RepK d k → RepK d' k → d = d' := by
  intro d d' k h h'
  cases d <;> simp only [RepK] at h <;> cases d' <;> simp only [RepK] at h' <;> subst h
  · cases h'; rfl
  · cases h'
  · cases h'
  · rw [toS_inj (Sum.inr.inj h')]
theorem repKs_fun : ∀ {ds : List D} {ks ks' : List Key}, RepKs ds ks → RepKs ds ks' → ks = ks'
  | [], _, _, h, h' => by simp only [RepKs] at h h'; rw [h, h']
  | d :: ds, _, _, h, h' => by
    simp only [RepKs] at h h'
    obtain ⟨k, r, rfl, h1, h2⟩ := h
    obtain ⟨k', r', rfl, h3, h4⟩ := h'
    rw [repK_fun h1 h3, repKs_fun h2 h4]
theorem repKs_inj : ∀ {ds ds' : List D} {ks : List Key}, RepKs ds ks → RepKs ds' ks → ds = ds'
  | [], [], _, _, _ => rfl
  | [], d :: ds, _, h, h' => by
    simp only [RepKs] at h h'
    subst h
    obtain ⟨k, r, h1, _⟩ := h'
    cases h1
  | d :: ds, [], _, h, h' => by
    simp only [RepKs] at h h'
    subst h'
    obtain ⟨k, r, h1, _⟩ := h
    cases h1
  | d :: ds, d' :: ds', _, h, h' => by
    simp only [RepKs] at h h'
    obtain ⟨k, r, rfl, h1, h2⟩ := h
    obtain ⟨k', r', h0, h3, h4⟩ := h'
    cases h0
    rw [repK_inj h1 h3, repKs_inj h2 h4]
theorem flat_key {d : D} {v : V} (h : flatK d = true) (r : RepV g F mu d v) : ∃ k, v = kV k ∧ RepK d k := by
  cases d <;> simp only [flatK] at h <;> (try cases h)
  · simp only [RepV] at r
    exact ⟨.inl _, r, rfl⟩
  · simp only [RepV] at r
    exact ⟨.inr _, r, rfl⟩
theorem flat_keys : ∀ {ds : List D} {vs : List V}, ds.all flatK = true → RepL g F mu ds vs → ∃ ks : List Key, vs = ks.map kV ∧ RepKs ds ks
  | [], vs, _, r => by
    simp only [RepL] at r
    exact ⟨[], r, by simp only [RepKs]⟩
  | d :: ds, vs, h, r => by
    simp only [List.all_cons, Bool.and_eq_true] at h
    simp only [RepL] at r
    obtain ⟨v, rest, rfl, r1, r2⟩ := r
    obtain ⟨k, rfl, k1⟩ := flat_key h.1 r1
    obtain ⟨ks, rfl, k2⟩ := flat_keys h.2 r2
    exact ⟨k :: ks, rfl, by simp only [RepKs]; exact ⟨k, ks, rfl, k1, k2⟩⟩

/-! ### look, put, drop -/
def OptRep (g : G) (F : Hp) (mu : List Addr) : Option D → Option V → Prop
  | none, o => o = none
  | some d, o => ∃ v, o = some v ∧ RepV g F mu d v
theorem lookP : ∀ {ps : List (D × D)} {kvs : List (Key × V)} {k : D} {k' : Key}, RepP g F mu ps kvs → RepK k k' → OptRep g F mu (lookD ps k) (valV kvs k')
  | [], kvs, k, k', h, hk => by
    simp only [RepP] at h
    subst h
    exact rfl
  | (a, d) :: ps, kvs, k, k', h, hk => by
    simp only [RepP] at h
    obtain ⟨a', v, r, rfl, h1, h2, h3⟩ := h
    by_cases e : a = k
    · subst e
      have e' := repK_fun h1 hk
      subst e'
      rw [valV_pos rfl]
      simp only [lookD, List.find?_cons, decide_true, Option.map_some]
      exact ⟨v, rfl, h2⟩
    · have e' : ¬ a' = k' := fun z => e (repK_inj h1 (z ▸ hk))
      rw [valV_neg e']
      have := lookP h3 hk
      simp only [lookD, List.find?_cons, decide_eq_false e] at this ⊢
      exact this
theorem lookT : ∀ {ps : List (D × D)} {kvs : List (List Key × V)} {k : List D} {k' : List Key}, RepT g F mu ps kvs → RepKs k k' → OptRep g F mu (lookD ps (.tup k)) (valV kvs k')
  | [], kvs, k, k', h, hk => by
    simp only [RepT] at h
    subst h
    exact rfl
  | (a, d) :: ps, kvs, k, k', h, hk => by
    cases a with
    | tup a =>
      simp only [RepT] at h
      obtain ⟨a', v, r, rfl, h1, h2, h3⟩ := h
      by_cases e : a = k
      · subst e
        have e' := repKs_fun h1 hk
        subst e'
        rw [valV_pos rfl]
        simp only [lookD, List.find?_cons, decide_true, Option.map_some]
        exact ⟨v, rfl, h2⟩
      · have e' : ¬ a' = k' := fun z => e (repKs_inj h1 (z ▸ hk))
        have e2 : ¬ D.tup a = D.tup k := fun z => e (D.tup.inj z)
        rw [valV_neg e']
        have := lookT h3 hk
        simp only [lookD, List.find?_cons, decide_eq_false e2] at this ⊢
        exact this
    | _ => simp only [RepT] at h
theorem hasP {ps : List (D × D)} {kvs : List (Key × V)} {k : D} {k' : Key} (h : RepP g F mu ps kvs) (hk : RepK k k') : hasD ps k = (kvs.any fun kv => decide (kv.1 = k')) := by
  induction ps generalizing kvs with
  | nil =>
    simp only [RepP] at h
    subst h
    rfl
  | cons p ps ih =>
    obtain ⟨a, d⟩ := p
    simp only [RepP] at h
    obtain ⟨a', v, r, rfl, h1, h2, h3⟩ := h
    have := ih h3
    simp only [hasD, List.any_cons] at this ⊢
    rw [this]
    congr 1
    by_cases e : a = k
    · subst e
      rw [repK_fun h1 hk]
      simp
    · rw [decide_eq_false e, decide_eq_false fun (z : a' = k') => e (repK_inj h1 (z ▸ hk))]
theorem hasT {ps : List (D × D)} {kvs : List (List Key × V)} {k : List D} {k' : List Key} (h : RepT g F mu ps kvs) (hk : RepKs k k') : hasD ps (.tup k) = (kvs.any fun kv => decide (kv.1 = k')) := by
  induction ps generalizing kvs with
  | nil =>
    simp only [RepT] at h
    subst h
    rfl
  | cons p ps ih =>
    obtain ⟨a, d⟩ := p
    cases a with
    | tup a =>
      simp only [RepT] at h
      obtain ⟨a', v, r, rfl, h1, h2, h3⟩ := h
      have := ih h3
      simp only [hasD, List.any_cons] at this ⊢
      rw [this]
      congr 1
      by_cases e : a = k
      · subst e
        rw [repKs_fun h1 hk]
        simp
      · rw [decide_eq_false fun (z : D.tup a = D.tup k) => e (D.tup.inj z), decide_eq_false fun (z : a' = k') => e (repKs_inj h1 (z ▸ hk))]
    | _ => simp only [RepT] at h
theorem RepP.append : ∀ {ps qs : List (D × D)} {kvs ls : List (Key × V)}, RepP g F mu ps kvs → RepP g F mu qs ls → RepP g F mu (ps ++ qs) (kvs ++ ls)
  | [], _, _, _, h, k => by simp only [RepP] at h; subst h; exact k
  | (a, d) :: ps, _, _, _, h, k => by
    simp only [RepP] at h
    obtain ⟨a', v, r, rfl, h1, h2, h3⟩ := h
    simp only [List.cons_append, RepP]
    exact ⟨a', v, _, rfl, h1, h2, RepP.append h3 k⟩
theorem RepT.append : ∀ {ps qs : List (D × D)} {kvs ls : List (List Key × V)}, RepT g F mu ps kvs → RepT g F mu qs ls → RepT g F mu (ps ++ qs) (kvs ++ ls)
  | [], _, _, _, h, k => by simp only [RepT] at h; subst h; exact k
  | (a, d) :: ps, _, _, _, h, k => by
    cases a with
    | tup a =>
      simp only [RepT] at h
      obtain ⟨a', v, r, rfl, h1, h2, h3⟩ := h
      simp only [List.cons_append, RepT]
      exact ⟨a', v, _, rfl, h1, h2, RepT.append h3 k⟩
    | _ => simp only [RepT] at h
theorem mapP {k d : D} {k' : Key} {v : V} (hk : RepK k k') (hv : RepV g F mu d v) : ∀ {ps : List (D × D)} {kvs : List (Key × V)}, RepP g F mu ps kvs → RepP g F mu (ps.map fun p => if p.1 = k then (p.1, d) else p) (kvs.map fun kv => if kv.1 = k' then (kv.1, v) else kv)
  | [], _, h => by
    simp only [RepP] at h
    subst h
    simp only [List.map_nil, RepP]
  | (b, f) :: ps, _, h => by
    simp only [RepP] at h
    obtain ⟨b', u, r', rfl, g1, g2, g3⟩ := h
    have ih := mapP hk hv g3
    simp only [List.map_cons]
    by_cases z : b = k
    · subst z
      have z' := repK_fun g1 hk
      subst z'
      simp only [if_true, RepP]
      exact ⟨b', v, _, rfl, g1, hv, ih⟩
    · have z' : ¬ b' = k' := fun q => z (repK_inj g1 (q ▸ hk))
      simp only [if_neg z, if_neg z', RepP]
      exact ⟨b', u, _, rfl, g1, g2, ih⟩
theorem mapT {k : List D} {d : D} {k' : List Key} {v : V} (hk : RepKs k k') (hv : RepV g F mu d v) : ∀ {ps : List (D × D)} {kvs : List (List Key × V)}, RepT g F mu ps kvs → RepT g F mu (ps.map fun p => if p.1 = D.tup k then (p.1, d) else p) (kvs.map fun kv => if kv.1 = k' then (kv.1, v) else kv)
  | [], _, h => by
    simp only [RepT] at h
    subst h
    simp only [List.map_nil, RepT]
  | (b, f) :: ps, _, h => by
    cases b with
    | tup b =>
      simp only [RepT] at h
      obtain ⟨b', u, r', rfl, g1, g2, g3⟩ := h
      have ih := mapT hk hv g3
      simp only [List.map_cons]
      by_cases z : b = k
      · subst z
        have z' := repKs_fun g1 hk
        subst z'
        simp only [if_true, RepT]
        exact ⟨b', v, _, rfl, g1, hv, ih⟩
      · have z' : ¬ b' = k' := fun q => z (repKs_inj g1 (q ▸ hk))
        have z2 : ¬ D.tup b = D.tup k := fun q => z (D.tup.inj q)
        simp only [if_neg z2, if_neg z', RepT]
        exact ⟨b', u, _, rfl, g1, g2, ih⟩
    | _ => simp only [RepT] at h
theorem putP {ps : List (D × D)} {kvs : List (Key × V)} {k d : D} {k' : Key} {v : V} (h : RepP g F mu ps kvs) (hk : RepK k k') (hv : RepV g F mu d v) : RepP g F mu (putD ps k d) (putK kvs k' v) := by
  unfold putD putK
  rw [hasP h hk]
  split
  · exact mapP hk hv h
  · exact h.append (by simp only [RepP]; exact ⟨k', v, [], rfl, hk, hv, rfl⟩)
theorem putT {ps : List (D × D)} {kvs : List (List Key × V)} {k : List D} {d : D} {k' : List Key} {v : V} (h : RepT g F mu ps kvs) (hk : RepKs k k') (hv : RepV g F mu d v) : RepT g F mu (putD ps (.tup k) d) (putK kvs k' v) := by
  unfold putD putK
  rw [hasT h hk]
  split
  · exact mapT hk hv h
  · exact h.append (by simp only [RepT]; exact ⟨k', v, [], rfl, hk, hv, rfl⟩)
theorem dropP {k : D} {k' : Key} (hk : RepK k k') : ∀ {ps : List (D × D)} {kvs : List (Key × V)}, RepP g F mu ps kvs → RepP g F mu (dropD ps k) (dropK kvs k')
  | [], _, h => by
    simp only [RepP] at h
    subst h
    simp [dropD, dropK, RepP]
  | (b, f) :: ps, _, h => by
    simp only [RepP] at h
    obtain ⟨b', u, r', rfl, g1, g2, g3⟩ := h
    have ih := dropP hk g3
    unfold dropD dropK at ih ⊢
    by_cases z : b = k
    · subst z
      have z' := repK_fun g1 hk
      subst z'
      simpa [List.filter_cons] using ih
    · have z' : ¬ b' = k' := fun q => z (repK_inj g1 (q ▸ hk))
      simp only [List.filter_cons, ne_eq, z, z', not_false_eq_true, decide_true, if_true, RepP]
      exact ⟨b', u, _, rfl, g1, g2, ih⟩
theorem RepP.len : ∀ {ps : List (D × D)} {kvs : List (Key × V)}, RepP g F mu ps kvs → ps.length = kvs.length
  | [], _, h => by simp only [RepP] at h; subst h; rfl
  | (b, f) :: ps, _, h => by
    simp only [RepP] at h
    obtain ⟨b', u, r', rfl, g1, g2, g3⟩ := h
    simp [RepP.len g3]
theorem RepT.len : ∀ {ps : List (D × D)} {kvs : List (List Key × V)}, RepT g F mu ps kvs → ps.length = kvs.length
  | [], _, h => by simp only [RepT] at h; subst h; rfl
  | (b, f) :: ps, _, h => by
    cases b with
    | tup b =>
      simp only [RepT] at h
      obtain ⟨b', u, r', rfl, g1, g2, g3⟩ := h
      simp [RepT.len g3]
    | _ => simp only [RepT] at h

/-! ### what a dict holds -/
theorem dct_rep {H : Hp} {st : Mir.St} {o : Opd} {v : V} {t : Nat} {ps : List (D × D)} (rh : RH g H F mu st) (r : RepX g H F mu o v) (h : dctOf st o = some (t, ps)) :
    ∃ p, v = .ref p ∧ ((t = 0 ∧ ∃ kvs, Rd H p (.dK kvs) ∧ RepP g F mu ps kvs) ∨ (t = 1 ∧ ∃ kvs, Rd H p (.dT kvs) ∧ RepT g F mu ps kvs)) := by
  unfold dctOf at h
  split at h
  · cases h
    simp only [RepX, RepV] at r
    obtain ⟨p, rfl, h1⟩ := r
    exact ⟨p, rfl, h1.imp (fun ⟨e, kvs, a, b⟩ => ⟨e, kvs, rh.dK a, b⟩) fun ⟨e, kvs, a, b⟩ => ⟨e, kvs, rh.dT a, b⟩⟩
  · rename_i n
    simp only [RepX, RepV] at r
    obtain ⟨p, hp, rfl⟩ := r
    split at h
    · rename_i hn
      cases h
      obtain ⟨p', q1, _, q2⟩ := rh.cel n _ hn
      rw [hp] at q1
      cases q1
      exact ⟨p, rfl, Or.imp (fun ⟨e, kvs, a, b⟩ => ⟨e, kvs, .inl a, b⟩) (fun ⟨e, kvs, a, b⟩ => ⟨e, kvs, .inl a, b⟩) q2⟩
    · rename_i hn
      cases h
      obtain ⟨p', q1, _, od, q2⟩ := rh.cel n _ hn
      rw [hp] at q1
      cases q1
      exact ⟨p, rfl, Or.imp (fun ⟨e, kvs, a, b⟩ => ⟨e, kvs, .inr ⟨od, a⟩, b.1⟩) (fun ⟨e, kvs, a, b⟩ => ⟨e, kvs, .inr ⟨od, a⟩, b.1⟩) q2⟩
    · cases h
  · cases h
    obtain ⟨p, rfl, _, _, q2⟩ := r
    exact ⟨p, rfl, Or.imp (fun ⟨e, kvs, a, b⟩ => ⟨e, kvs, .inl a, b⟩) (fun ⟨e, kvs, a, b⟩ => ⟨e, kvs, .inl a, b⟩) q2⟩
  · cases h
/-- a key's value -/
theorem tupKey {H : Hp} {st : Mir.St} {k : D} {vk : V} (rh : RH g H F mu st) (hk : isTupK k = true) (ry : RepV g F mu k vk) : ∃ (ks : List D) (b : Addr) (ks' : List Key), k = .tup ks ∧ vk = .ref b ∧ H b = some (.tup (ks'.map kV)) ∧ RepKs ks ks' := by
  cases k with
  | tup ks =>
    simp only [isTupK] at hk
    simp only [RepV] at ry
    obtain ⟨b, vs, rfl, h1, h2⟩ := ry
    obtain ⟨ks', rfl, h3⟩ := flat_keys hk h2
    exact ⟨ks, b, ks', rfl, rfl, rh.tup h1, h3⟩
  | _ => simp [isTupK] at hk
theorem dget_rep {H : Hp} {st : Mir.St} {o : Opd} {v vk : V} {t : Nat} {ps : List (D × D)} {k : D} (rh : RH g H F mu st) (r : RepX g H F mu o v) (h : dctOf st o = some (t, ps)) (hk : kOk t k = true) (ry : RepV g F mu k vk) :
    ∃ p u, v = .ref p ∧ DGet H p vk u ∧ OptRep g F mu (lookD ps k) u := by
  obtain ⟨p, rfl, ⟨rfl, kvs, h1, h2⟩ | ⟨rfl, kvs, h1, h2⟩⟩ := dct_rep rh r h
  · obtain ⟨k', rfl, h3⟩ := flat_key hk ry
    exact ⟨p, _, rfl, .inl ⟨kvs, k', h1, rfl, rfl⟩, lookP h2 h3⟩
  · obtain ⟨ks, b, ks', rfl, rfl, h4, h5⟩ := tupKey rh hk ry
    exact ⟨p, _, rfl, .inr ⟨kvs, ks', b, h1, rfl, h4, rfl⟩, lookT h2 h5⟩
theorem lookHas : ∀ (ps : List (D × D)) (k : D), (lookD ps k).isSome = hasD ps k
  | [], _ => rfl
  | (a, d) :: ps, k => by
    have := lookHas ps k
    simp only [lookD, hasD, List.find?_cons, List.any_cons] at this ⊢
    by_cases e : a = k
    · simp [e]
    · simp only [decide_eq_false e, Bool.false_or]
      exact this
theorem OptRep.isSome {a : Option D} {b : Option V} (h : OptRep g F mu a b) : b.isSome = a.isSome := by
  cases a with
  | none => rw [show b = none from h]; rfl
  | some d => obtain ⟨v, rfl, _⟩ := h; rfl
theorem OptRep.getD {a : Option D} {b : Option V} {d : D} {v : V} (h : OptRep g F mu a b) (hv : RepV g F mu d v) : RepV g F mu (a.getD d) (b.getD v) := by
  cases a with
  | none => rw [show b = none from h]; exact hv
  | some d => obtain ⟨v, rfl, h⟩ := h; exact h
theorem dput_cell {H : Hp} {p : Addr} {t : Nat} {ps : List (D × D)} {k d : D} {vk v : V} {st : Mir.St} (rh : RH g H F mu st) (hc : CellAt g F mu H p (.dct t ps)) (hk : kOk t k = true) (hl : ps.length < lim) (ry : RepV g F mu k vk) (rv : RepV g F mu d v) :
    ∃ o, DPut H p vk v (upd H p o) ∧ CellAt g F mu (upd H p o) p (.dct t (putD ps k d)) := by
  have hll := lim_line
  rcases hc with ⟨rfl, kvs, h1, h2⟩ | ⟨rfl, kvs, h1, h2⟩
  · obtain ⟨k', rfl, h3⟩ := flat_key hk ry
    exact ⟨_, DPut.k h1 (by rw [← h2.len]; omega), .inl ⟨rfl, _, upd_same, putP h2 h3 rv⟩⟩
  · obtain ⟨ks, b, ks', rfl, rfl, h4, h5⟩ := tupKey rh hk ry
    exact ⟨_, DPut.t h1 h4 (by rw [← h2.len]; omega), .inr ⟨rfl, _, upd_same, putT h2 h5 rv⟩⟩
end

section
variable {X : Cx} {g : G} {E : XK} {B : Bs} {pos : Pos} {a b c e f o : Expr} {ma mb mc : EM} {es : List Expr} {mas : AM} {sa : Stmt}
/-! ### x[k], in -/
def rDIx : R2 := fun x y H Q => ∃ a v, x = .ref a ∧ DGet H a y (some v) ∧ Q v H
theorem ix_dict (hu : X.A.units + 1 < cLine) : IxR X rDIx := by
  intro value slice pins s σ H x y v u Q I rx ry h hs
  obtain ⟨a, w, rfl, hg, q⟩ := h
  cases rx
  exact tail_any (dict_typeIs I hg) PySem.F.slot_dict_getitem.lookup (d_getItem hu I hg ry fun w' s' I' rw' => ⟨w, H, I', rw', q⟩) hs
theorem ix_all (hu : X.A.units + 1 < cLine) : IxR X (fun x y H Q => rDIx x y H Q ∨ rIx X.K x y H Q) := (ix_dict hu).or ix_seq
theorem sGet : OpS g (fun x y H Q => rDIx x y H Q ∨ rIx g.K x y H Q) oGet := by
  intro H F mu st x y vx vy d Q rh rx ry e q
  unfold oGet at e
  split at e
  · rename_i t ps hd
    split at e
    · rename_i k
      split at e
      · rename_i hk
        obtain ⟨p, u, rfl, h1, h2⟩ := dget_rep rh rx hd hk ry
        rw [e] at h2
        obtain ⟨w, rfl, h3⟩ := h2
        exact .inl ⟨p, w, rfl, h1, q w H F rh (.refl _ _ _) h3⟩
      · cases e
    · cases e
  · exact .inr (sIx H F mu st x y vx vy d Q rh rx ry e q)
theorem xSub (hu : X.A.units + 1 < cLine) (hK : X.K = g.K) (ha : PE X a (rdE g E ma)) (hb : PE X b (rdE g E mb)) (hs : PlainIx b) : PE X (.Subscript a b pos) (rdE g E (eOp2 oGet ma mb)) :=
  xOp2 sGet (by rw [← hK]; exact pe_ix (ix_all hu) ha hb hs)


end
end Mir
/-! E10: in; d.get; stores to dicts; slices; new lists; sorted. -/
namespace Mir
open PySem PySem.Spec PyProof.Rows L2
section
variable {X : Cx} {g : G} {E : XK} {B : Bs} {pos : Pos} {a b c e f o : Expr} {ma mb mc : EM} {es : List Expr} {mas : AM} {sa : Stmt}
def rDIn (neg : Bool) : R2 := fun x y H Q => ∃ a o, y = .ref a ∧ DGet H a x o ∧ Q (.bl (if neg then !o.isSome else o.isSome)) H
theorem op_inDct (hu : X.A.units + 1 < cLine) : OpR X (compareOp .In) (rDIn false) := by
  intro pins s σ H x y v u Q I rx ry h
  obtain ⟨a, o, rfl, hg, q⟩ := h
  cases ry
  exact d_in hu I hg rx fun s' I' => ⟨.bl o.isSome, H, I', rfl, q⟩
theorem op_notInDct (hu : X.A.units + 1 < cLine) : OpR X (compareOp .NotIn) (rDIn true) := by
  intro pins s σ H x y v u Q I rx ry h
  obtain ⟨a, o, rfl, hg, q⟩ := h
  cases ry
  exact d_notIn hu I hg rx fun s' I' => ⟨.bl (!o.isSome), H, I', rfl, q⟩
def rSg (neg : Bool) : R2 := fun x y H Q => ∃ (c : Nat) (z : Str), x = .str ⟨#[c]⟩ ∧ y = .str z ∧ Q (.bl (if neg then !decide (c ∈ z.cps.toList) else decide (c ∈ z.cps.toList))) H
def rInAll (K : PySem.W.Frag) (neg : Bool) : R2 := fun x y H Q => rDIn neg x y H Q ∨ rSg neg x y H Q ∨ rIn K neg x y H Q ∨ (if neg then rNotInD K x y H Q else rInD K x y H Q)
theorem op_inAll (hu : X.A.units + 65 < cLine) : OpR X (compareOp .In) (rInAll X.K false) := OpR.or (op_inDct (by omega)) (OpR.or op_in_sign (OpR.or op_in_seq (op_inD hu)))
theorem op_notInAll (hu : X.A.units + 65 < cLine) : OpR X (compareOp .NotIn) (rInAll X.K true) := OpR.or (op_notInDct (by omega)) (OpR.or op_notIn_sign (OpR.or op_notIn_seq (op_notInD hu)))
theorem flat_rep {F : Hp} {mu : List Addr} {d : D} {v : V} (h : scalD d d = true) (r : RepV g F mu d v) : flatV v = true := by
  cases d <;> simp only [scalD] at h <;> (try (exact absurd h (by decide))) <;> simp only [RepV] at r <;> subst r <;> rfl
theorem eqV_rep {F : Hp} {mu : List Addr} {d d' : D} {v v' : V} (h : scalD d d = true) (h' : scalD d' d' = true) (r : RepV g F mu d v) (r' : RepV g F mu d' v') : eqV v v' = eqv d d' := by
  cases d <;> simp only [scalD] at h <;> (try (exact absurd h (by decide))) <;> cases d' <;> simp only [scalD] at h' <;> (try (exact absurd h' (by decide))) <;> simp only [RepV] at r r' <;> subst r r' <;> simp [eqV, eqv, toS_beq]
theorem any_rep {F : Hp} {mu : List Addr} {d : D} {v : V} (h : scalD d d = true) (r : RepV g F mu d v) : ∀ {xs : List D} {vs : List V}, (xs.all fun z => scalD z z) = true → RepL g F mu xs vs → vs.all flatV = true ∧ inV v vs = xs.any fun z => eqv z d
  | [], vs, _, rl => by simp only [RepL] at rl; subst rl; exact ⟨rfl, rfl⟩
  | x :: xs, vs, hx, rl => by
    simp only [List.all_cons, Bool.and_eq_true] at hx
    simp only [RepL] at rl
    obtain ⟨w, rest, rfl, r1, r2⟩ := rl
    obtain ⟨i1, i2⟩ := any_rep h r hx.2 r2
    refine ⟨by simp [flat_rep hx.1 r1, i1], ?_⟩
    simp only [inV, List.any_cons] at i2 ⊢
    rw [i2, eqV_rep hx.1 h r1 r]
theorem toPs_any (k : Nat) (d : D) (hd : shap 20 d = true) : ∀ xs : List D, shapL k xs = true → ((toPs xs).any fun z => PyData.eqv z (toP d)) = xs.any fun z => eqv z d
  | [], _ => rfl
  | x :: xs, h => by
    simp only [shapL, Bool.and_eq_true] at h
    simp only [toPs, List.any_cons]
    rw [toPs_any k d hd xs h.2, eqv_toP k 20 x d h.1 hd]
theorem inCore {neg : Bool} {H F : Hp} {mu : List Addr} {st : Mir.St} {x y : Opd} {vx vy : V} {k : Bool} {Q : VK} (rh : RH g H F mu st) (rx : RepX g H F mu x vx) (ry : RepX g H F mu y vy) (h : inD st x y = some k) (q : Q (.bl (if neg then !k else k)) H) : rInAll g.K neg vx vy H Q := by
  cases x with
  | bor c => simp [inD] at h
  | val d =>
    simp only [RepX] at rx
    unfold inD at h
    dsimp only at h
    split at h
    · rename_i t ps hd
      split at h
      · rename_i hk
        cases h
        obtain ⟨p, u, rfl, h1, h2⟩ := dget_rep rh ry hd hk rx
        refine .inl ⟨p, u, rfl, h1, ?_⟩
        rw [h2.isSome, lookHas]
        exact q
      · cases h
    · have flat : ∀ (xs vs : _) (p : Addr), inFlat d xs = some k → vy = .ref p → (SqL g.K H p vs ∨ SqT g.K H p vs) → RepL g F mu xs vs → rInAll g.K neg vx vy H Q := by
        intro xs vs p hf hv h1 h2
        unfold inFlat at hf
        split at hf
        · rename_i hc
          cases hf
          obtain ⟨i1, i2⟩ := any_rep hc.1 rx hc.2 h2
          exact .inr (.inr (.inl ⟨p, vs, hv, h1, flat_rep hc.1 rx, i1, by rw [i2]; exact q⟩))
        · cases hf
      have lst : inLst st d y = some k → rInAll g.K neg vx vy H Q := by
        intro hf
        unfold inLst at hf
        split at hf
        · rename_i xs hl
          split at hf
          · rename_i hc
            cases hf
            obtain ⟨p, vs, rfl, h1, h2⟩ := listOf_rep rh ry hl
            have hs := hc.2
            have hs2 : shapL 19 xs = true := by
              simp only [shap, Bool.and_eq_true] at hs
              exact hs.2
            have hdl : Dp g.K H (V.ref p) (.list (toPs xs)) := .lst (SqL.of h1) (dps_of rh 19 xs vs hs2 h2)
            have hsl : SeqAt.shaped (.list (toPs xs)) = true := shap_shaped (d := .lst xs) hs
            have e := toPs_any 19 d hc.1 xs hs2
            refine .inr (.inr (.inr ?_))
            cases neg with
            | true => exact ⟨_, _, dp_of rh _ _ _ hc.1 rx, hdl, shap_shaped hc.1, hsl, by rw [e]; exact q⟩
            | false => exact ⟨_, _, dp_of rh _ _ _ hc.1 rx, hdl, shap_shaped hc.1, hsl, by rw [e]; exact q⟩
          · cases hf
        · cases hf
      cases y with
      | bor c => exact lst h
      | val dy =>
        cases dy with
        | str z =>
          simp only [inSeq] at h
          cases d with
          | str aa =>
            dsimp only at h
            unfold inTx at h
            split at h
            · rename_i cc
              cases h
              simp only [RepX, RepV] at rx ry
              subst rx ry
              refine .inr (.inl ⟨cc, toS z, rfl, rfl, ?_⟩)
              have e : z.contains cc = decide (cc ∈ (toS z).cps.toList) := by
                rw [toS_list]
                simp
              rw [← e]
              exact q
            · cases h
          | _ => cases h
        | tup xs =>
          simp only [RepX, RepV] at ry
          obtain ⟨p, vs, rfl, h1, h2⟩ := ry
          exact flat xs vs p h rfl (.inr (rh.seqT h1)) h2
        | ktp xs =>
          simp only [RepX, RepV] at ry
          obtain ⟨p, vs, rfl, h1, h2⟩ := ry
          exact flat xs vs p h rfl (.inr h1.seq) h2
        | _ => exact lst h
theorem sIn : OpS g (rInAll g.K false) oIn := .flat fun H F mu st x y vx vy d Q rh rx ry e q => by
  simp only [oIn, Option.map_eq_some_iff] at e
  obtain ⟨k, e, rfl⟩ := e
  exact inCore rh rx ry e (q _ (by simp only [RepV]; rfl))
theorem sNotIn : OpS g (rInAll g.K true) oNotIn := .flat fun H F mu st x y vx vy d Q rh rx ry e q => by
  simp only [oNotIn, Option.map_eq_some_iff] at e
  obtain ⟨k, e, rfl⟩ := e
  exact inCore rh rx ry e (q _ (by simp only [RepV]; rfl))

/-! ### d.get -/
theorem isD_rep {H F : Hp} {mu : List Addr} {st : Mir.St} {o : Opd} {v : V} {q : Nat × List (D × D)} (rh : RH g H F mu st) (r : RepX g H F mu o v) (h : dctOf st o = some q) : ∃ p, v = .ref p ∧ IsD H p := by
  obtain ⟨p, rfl, ⟨_, kvs, h1, _⟩ | ⟨_, kvs, h1, _⟩⟩ := dct_rep (t := q.1) (ps := q.2) rh r h
  · exact ⟨p, rfl, .inl ⟨kvs, h1⟩⟩
  · exact ⟨p, rfl, .inr ⟨kvs, h1⟩⟩
theorem getK_rep {H F : Hp} {mu : List Addr} {st : Mir.St} {x y : Opd} {vx vy vw : V} {w d : D} (rh : RH g H F mu st) (rx : RepX g H F mu x vx) (ry : RepX g H F mu y vy) (rw' : RepV g F mu w vw) (h : getK st x y w = some d) : ∃ p o, vx = .ref p ∧ DGet H p vy o ∧ RepV g F mu d (o.getD vw) := by
  unfold getK at h
  split at h
  · rename_i t ps kk hd
    split at h
    · rename_i hk
      cases h
      obtain ⟨p, u, rfl, h1, h2⟩ := dget_rep rh rx hd hk ry
      exact ⟨p, u, rfl, h1, h2.getD rw'⟩
    · cases h
  · cases h
theorem isSome_ex {α : Type} {o : Option α} (h : o.isSome = true) : ∃ q, o = some q := by
  cases o with
  | none => cases h
  | some q => exact ⟨q, rfl⟩
theorem xGet1 (h : PE X e (tDGet1 (rdE g E ma) (rdE g E mb))) : PE X e (rdE g E (eGet1 ma mb)) := PE.imp h fun s H Q k => by
  obtain ⟨r, st, F, mu, re, k⟩ := k
  refine ⟨r, st, F, mu, re, OutQ.bind k fun x st1 vx H1 F1 mu1 _ e1 re1 rx k1 => ?_⟩
  by_cases hd : (dctOf st1 x).isSome = true
  · rw [if_pos hd] at k1
    obtain ⟨q1, hd1⟩ := isSome_ex hd
    obtain ⟨p, rfl, hD⟩ := isD_rep re1.h rx hd1
    refine ⟨p, rfl, hD, r, st1, F1, mu1, re1, OutQ.bind (k1.ext e1) fun y st2 vy H2 F2 mu2 _ e2 re2 ry k2 => ?_⟩
    cases hg : getK st2 x y .non with
    | none => rw [hg] at k2; exact k2.elim
    | some d =>
      rw [hg] at k2
      obtain ⟨p', o, h1, h2, h3⟩ := getK_rep re2.h (rx.ext e2) ry (vw := .non) (by simp only [RepV]) hg
      cases h1
      exact ⟨o, h2, k2 _ H2 F2 mu2 e2 re2 h3⟩
  · rw [if_neg hd] at k1
    exact k1.elim
theorem xGet2 (h : PE X e (tDGet2 (rdE g E ma) (rdE g E mb) (rdE g E mc))) : PE X e (rdE g E (eGet2 ma mb mc)) := PE.imp h fun s H Q k => by
  obtain ⟨r, st, F, mu, re, k⟩ := k
  refine ⟨r, st, F, mu, re, OutQ.bind k fun x st1 vx H1 F1 mu1 _ e1 re1 rx k1 => ?_⟩
  by_cases hd : (dctOf st1 x).isSome = true
  · rw [if_pos hd] at k1
    obtain ⟨q1, hd1⟩ := isSome_ex hd
    obtain ⟨p, rfl, hD⟩ := isD_rep re1.h rx hd1
    refine ⟨p, rfl, hD, r, st1, F1, mu1, re1, OutQ.bind (k1.ext e1) fun y st2 vy H2 F2 mu2 _ e2 re2 ry k2 => ?_⟩
    refine ⟨r, st2, F2, mu2, re2, OutQ.bind (k2.ext e2) fun z st3 vz H3 F3 mu3 _ e3 re3 rz k3 => ?_⟩
    cases z with
    | bor c => exact k3.elim
    | val w =>
      dsimp only at k3
      cases hg : getK st3 x y w with
      | none => rw [hg] at k3; exact k3.elim
      | some d =>
        rw [hg] at k3
        obtain ⟨p', o, h1, h2, h3⟩ := getK_rep re3.h ((rx.ext e2).ext e3) (ry.ext e3) rz hg
        cases h1
        exact ⟨o, h2, k3 _ H3 F3 mu3 e3 re3 h3⟩
  · rw [if_neg hd] at k1
    exact k1.elim

/-! ### d[k] = e -/
theorem qPutDC (h : PS X sa (sDPut (rdE g E mb) (rdE g E mc) (rdE g E ma))) : PS X sa (rdS g E B (sPutDC mb mc ma)) := PS.imp h fun D s H h => by
  obtain ⟨r, st, F, mu, rb, h⟩ := h
  refine ⟨r, st, F, mu, rb.re, sbind rb h fun y st1 v H1 F1 mu1 _ e1 rb1 rx k => ?_⟩
  refine ⟨r, st1, F1, mu1, rb1.re, sbind rb1 k fun z st2 w H2 F2 mu2 _ e2 rb2 rz k2 => ?_⟩
  refine ⟨r, st2, F2, mu2, rb2.re, sbind rb2 k2 fun t st3 w3 H3 F3 mu3 _ e3 rb3 rt k3 => ?_⟩
  cases y with
  | bor c => exact k3.elim
  | val d =>
    cases z with
    | bor c => exact k3.elim
    | val d2 =>
      cases t with
      | bor c => cases d2 <;> exact k3.elim
      | val d3 =>
        cases d2 with
        | ref n =>
          dsimp only at k3
          simp only [RepX, RepV] at rz
          obtain ⟨p, hp, rfl⟩ := rz
          have hp3 := e3.mo.mu _ _ hp
          cases hn : st3[n]? with
          | none => rw [hn] at k3; exact k3.elim
          | some c0 =>
            rw [hn] at k3
            cases c0 with
            | dct tt ps =>
              dsimp only at k3
              by_cases hc : kOk tt d3 = true ∧ ps.length < lim
              · rw [if_pos hc] at k3
                obtain ⟨p', q1, q2, q3⟩ := rb3.re.h.cel n _ hn
                rw [hp3] at q1
                cases q1
                obtain ⟨o, o1, o2⟩ := dput_cell rb3.re.h q3 hc.1 hc.2 rt (RepV.mono (e2.mo.trans e3.mo) _ _ rx)
                have hno : ∀ ps, o ≠ .tbl ps := by
                  obtain ⟨w, w1, w2, _⟩ := CellAt.there o2
                  rw [upd_same] at w1
                  cases w1
                  exact w2
                have ex := Ext.put (H := H3) (F := F3) (o := o) hp3 hno
                exact ⟨p, _, rfl, o1, k3 s _ F3 mu3 (rb3.step ex (rb3.re.step ex (rb3.re.h.put hn hp3 o2))) (.refl _ _)⟩
              · rw [if_neg hc] at k3
                exact k3.elim
            | _ => exact k3.elim
        | _ => exact k3.elim
theorem qPutDV {i : Nat} (h : PS X sa (sDPut (tVar i) (rdE g E mc) (rdE g E ma))) : PS X sa (rdS g E B (sPutDV i mc ma)) := PS.imp h fun D s H h => by
  obtain ⟨r, st, F, mu, rb, h⟩ := h
  unfold sPutDV at h
  split at h
  · rename_i tt ps hr
    obtain ⟨p, p0, _⟩ := rb.re.ownGet hr
    refine ⟨r, st, F, mu, rb.re, sbind rb h fun y st1 v H1 F1 mu1 _ e1 rb1 rx k => ⟨.ref p, p0, ?_⟩⟩
    refine ⟨r, st1, F1, mu1, rb1.re, sbind rb1 k fun t st2 w3 H2 F2 mu2 _ e2 rb2 rt k3 => ?_⟩
    cases y with
    | bor c => exact k3.elim
    | val d =>
      cases t with
      | bor c => exact k3.elim
      | val d3 =>
        dsimp only at k3
        by_cases hc : kOk tt d3 = true ∧ ps.length < lim
        · rw [if_pos hc] at k3
          obtain ⟨_, _, q3⟩ := rb2.re.ownAt hr p0
          obtain ⟨o, o1, o2⟩ := dput_cell rb2.re.h q3 hc.1 hc.2 rt (RepV.mono e2.mo _ _ rx)
          exact ⟨p, _, rfl, o1, k3 s _ F2 mu2 (rb2.putOwn hr p0 o2 fun _ _ z => by cases z) (.refl _ _)⟩
        · rw [if_neg hc] at k3
          exact k3.elim
  · exact h.elim
theorem xSetDN {n : NM} (h : PE X e (tDSetd (rdE g E ma) (rdE g E mb) (rdN g E n))) : PE X e (rdE g E (eSetDN ma mb n)) := PE.imp h fun s H Q k => by
  obtain ⟨r, st, F, mu, re, k⟩ := k
  refine ⟨r, st, F, mu, re, OutQ.bind k fun x st1 vx H1 F1 mu1 _ e1 re1 rx k1 => ?_⟩
  by_cases hd : (dctOf st1 x).isSome = true
  · rw [if_pos hd] at k1
    obtain ⟨q1, hd1⟩ := isSome_ex hd
    obtain ⟨p, rfl, hD⟩ := isD_rep re1.h rx hd1
    refine ⟨p, rfl, hD, r, st1, F1, mu1, re1, OutQ.bind (k1.ext e1) fun y st2 vy H2 F2 mu2 _ e2 re2 ry k2 => ?_⟩
    refine ⟨r, st2, F2, mu2, re2, OutQ.bind (k2.ext e2) fun c st3 vz H3 F3 mu3 _ e3 re3 rz k3 => ?_⟩
    obtain ⟨z, rfl, z1, z2, z3, z4⟩ := rz
    cases x with
    | bor c => cases y <;> exact k3.elim
    | val dx =>
      cases y with
      | bor c => cases dx <;> exact k3.elim
      | val kk =>
        cases dx with
        | ref m =>
          dsimp only at k3
          have rx3 := (rx.ext e2).ext e3
          simp only [RepX, RepV] at rx3
          obtain ⟨p', hp3, hp'⟩ := rx3
          cases hp'
          unfold setDN at k3
          split at k3
          · rename_i ps hn
            by_cases hc : flatK kk = true ∧ ps.length < lim
            · rw [if_pos hc] at k3
              obtain ⟨p'', q1, q2, q3⟩ := re3.h.cel m _ hn
              rw [hp3] at q1
              cases q1
              rcases q3 with ⟨_, kvs, q3, q4⟩ | ⟨q5, _⟩
              · have ry3 : RepV g F3 mu3 kk vy := RepV.mono e3.mo _ _ ry
                obtain ⟨k', rfl, hk'⟩ := flat_key hc.1 ry3
                have hl : kvs.length < sizeLine := by
                  rw [← q4.len]
                  exact Nat.lt_of_lt_of_le hc.2 lim_line
                have hlk := lookP q4 hk'
                refine ⟨kvs, k', q3, rfl, hl, fun v hv => ?_, fun hv => ?_⟩
                · cases hq : lookD ps kk with
                  | none =>
                    rw [hq] at hlk
                    rw [show valV kvs k' = none from hlk] at hv
                    cases hv
                  | some d =>
                    rw [hq] at hlk k3
                    obtain ⟨v', h1, h2⟩ := hlk
                    rw [hv] at h1
                    cases h1
                    exact k3 v H3 F3 mu3 e3 re3 h2
                · cases hq : lookD ps kk with
                  | some d =>
                    rw [hq] at hlk
                    obtain ⟨v', h1, h2⟩ := hlk
                    rw [hv] at h1
                    cases h1
                  | none =>
                    rw [hq] at k3
                    dsimp only at k3
                    have ex1 : Ext H2 F2 mu2 H3 F3 (mu3 ++ [z]) := e3.cell z3
                    have rh1 : RH g H3 F3 (mu3 ++ [z]) (st3 ++ [c]) := re3.h.cell z1 z2 z4
                    have hml : m < st3.length := (List.getElem?_eq_some_iff.mp hn).1
                    have hn1 : (st3 ++ [c])[m]? = some (.dct 0 ps) := by rw [List.getElem?_append_left hml]; exact hn
                    have hp1 : (mu3 ++ [z])[m]? = some p := by
                      rw [List.getElem?_append_left (by rw [re3.h.len]; exact hml)]
                      exact hp3
                    have zr : RepV g F3 (mu3 ++ [z]) (.ref st3.length) (.ref z) := by
                      simp only [RepV]
                      refine ⟨z, ?_, rfl⟩
                      rw [← re3.h.len, List.getElem?_append_right (Nat.le_refl _)]
                      simp
                    have q4' : RepP g F3 (mu3 ++ [z]) ps kvs := RepP.mono Mono.cell _ _ q4
                    have rh2 : RH g (upd H3 p (.dK (putK kvs k' (.ref z)))) F3 (mu3 ++ [z]) ((st3 ++ [c]).set m (.dct 0 (putD ps kk (.ref st3.length)))) :=
                      rh1.put hn1 hp1 (.inl ⟨rfl, _, upd_same, putP q4' hk' zr⟩)
                    have ex2 := ex1.trans (Ext.put (o := .dK (putK kvs k' (.ref z))) hp1)
                    exact k3 _ _ F3 (mu3 ++ [z]) ex2 (re2.step ex2 rh2) zr
              · cases q5
            · rw [if_neg hc] at k3
              exact k3.elim
          · exact k3.elim
        | _ => exact k3.elim
  · rw [if_neg hd] at k1
    exact k1.elim

/-! ### new lists, dicts -/
theorem newCell {H F : Hp} {mu : List Addr} {st : Mir.St} {c : Cell} {o : HO} {Q : VK} (rh : RH g H F mu st) (hc : ∀ p, H p = none → CellAt g F mu (upd H p o) p c)
    (q : ∀ p H', RH g H' F mu st → Ext H F mu H' F mu → H p = none → F p = none → p ∉ mu → CellAt g F mu H' p c → Q (.ref p) H') : ∀ p, H p = none → Q (.ref p) (upd H p o) := fun p hp =>
  q p _ (rh.newOwn hp) (Ext.newOwn hp) hp (F_new rh hp) (fun z => mem_mu rh z hp) (hc p hp)
theorem newLst {H F : Hp} {mu : List Addr} {st : Mir.St} {ds : List D} {vs : List V} {Q : VK} (rh : RH g H F mu st) (rl : RepL g F mu ds vs)
    (q : ∀ p H', RH g H' F mu st → Ext H F mu H' F mu → H p = none → F p = none → p ∉ mu → CellAt g F mu H' p (.lst ds) → Q (.ref p) H') : ∀ p, H p = none → Q (.ref p) (upd H p (.lst vs)) := newCell (c := .lst ds) rh (fun p hp => ⟨_, upd_same, rl⟩) q
theorem sCat : NpS g rCat nCat := fun H F mu st x y vx vy c Q rh rx ry e q => by
  unfold nCat at e
  split at e
  · rename_i xs ys hx hy
    split at e
    · rename_i hl
      cases e
      obtain ⟨p, vs, rfl, h1, h2⟩ := listOf_rep rh rx hx
      obtain ⟨p', us, rfl, h3, h4⟩ := listOf_rep rh ry hy
      have := lim_line
      exact ⟨p, p', vs, us, rfl, rfl, h1, h3, by rw [← h2.length, ← h4.length]; omega, newLst rh (h2.append h4) q⟩
    · cases e
  · cases e
theorem RepL.rep {F : Hp} {mu : List Addr} {ds : List D} {vs : List V} (h : RepL g F mu ds vs) : ∀ k : Nat, RepL g F mu (List.replicate k ds).flatten (List.replicate k vs).flatten
  | 0 => by simp only [List.replicate_zero, List.flatten_nil]; exact .nil
  | k + 1 => by
    simp only [List.replicate_succ, List.flatten_cons]
    exact h.append (RepL.rep h k)
theorem sRep : NpS g rRep nRep := fun H F mu st x y vx vy c Q rh rx ry e q => by
  unfold nRep at e
  split at e
  · rename_i xs k hx
    split at e
    · rename_i hl
      cases e
      obtain ⟨p, vs, rfl, h1, h2⟩ := listOf_rep rh rx hx
      simp only [RepX, RepV] at ry
      have := lim_line
      exact ⟨p, k, vs, rfl, ry, h1, hl.1, hl.2.1, by rw [← h2.length]; omega, newLst rh (RepL.rep h2 k.toNat) q⟩
    · cases e
  · cases e
theorem sList : NpSN g (fun xs H Q => ∃ p ys, xs = [.ref p] ∧ (SqL g.K H p ys ∨ SqT g.K H p ys) ∧ ∀ l, H l = none → Q (.ref l) (upd H l (.lst ys))) nList := fun H F mu st xs vs c Q rh rx e q => by
  unfold nList at e
  split at e
  · simp only [Option.map_eq_some_iff] at e
    obtain ⟨ds, hd, rfl⟩ := e
    obtain ⟨v, rfl, r1⟩ := repxs1 rx
    obtain ⟨p, us, rfl, h1, h2⟩ := seqOf_rep rh r1 hd
    exact ⟨p, us, rfl, h1, newLst rh h2 q⟩
  · cases e
theorem sTuple : OpSN g (fun xs H Q => ∃ p ys, xs = [.ref p] ∧ ((SqL g.K H p ys ∧ ∀ l, H l = none → Q (.ref l) (upd H l (.tup ys))) ∨ (SqT g.K H p ys ∧ Q (.ref p) H))) oTuple := fun H F mu st xs vs d Q rh rx e q => by
  unfold oTuple at e
  split at e
  · rename_i x
    obtain ⟨v, rfl, r1⟩ := repxs1 rx
    unfold tupOf at e
    split at e
    · cases e
      simp only [RepX, RepV] at r1
      obtain ⟨p, us, rfl, h1, h2⟩ := r1
      exact ⟨p, us, rfl, .inr ⟨rh.seqT h1, q _ H F rh (.refl _ _ _) (by simp only [RepV]; exact ⟨p, us, rfl, h1, h2⟩)⟩⟩
    · cases e
      simp only [RepX, RepV] at r1
      obtain ⟨p, us, rfl, h1, h2⟩ := r1
      exact ⟨p, us, rfl, .inr ⟨h1.seq, q _ H F rh (.refl _ _ _) (by simp only [RepV]; exact ⟨p, us, rfl, h1, h2⟩)⟩⟩
    · simp only [Option.map_eq_some_iff] at e
      obtain ⟨ds, hd, rfl⟩ := e
      obtain ⟨p, us, rfl, h1, h2⟩ := listOf_rep rh r1 hd
      exact ⟨p, us, rfl, .inl ⟨SqL.of h1, fun l hl => q _ _ _ (rh.new hl) (Ext.new rh hl) (by simp only [RepV]; exact ⟨l, us, rfl, upd_same, RepL.mono (Mono.new rh hl) _ _ h2⟩)⟩⟩
  · cases e
theorem pairs_rep {H F : Hp} {mu : List Addr} {st : Mir.St} (rh : RH g H F mu st) : ∀ {ds : List D} {vs : List V} {prs : List (D × D)}, RepL g F mu ds vs → pairsOf ds = some prs → ∃ (ps : List Addr) (kvs : List (Key × V)), vs = ps.map V.ref ∧ Paired (fun p kv => SqT g.K H p [kV kv.1, kv.2]) ps kvs ∧ RepP g F mu prs kvs
  | [], vs, prs, r, e => by
    simp only [RepL] at r
    cases e
    exact ⟨[], [], r, .nil, by simp only [RepP]⟩
  | d :: ds, vs, prs, r, e => by
    simp only [RepL] at r
    obtain ⟨v, rest, rfl, r1, r2⟩ := r
    unfold pairsOf at e
    split at e
    · rename_i heq
      cases heq
    · rename_i k x r' heq
      cases heq
      split at e
      · rename_i hk
        simp only [Option.map_eq_some_iff] at e
        obtain ⟨qs, e1, rfl⟩ := e
        obtain ⟨ps, kvs, rfl, h2, h3⟩ := pairs_rep rh r2 e1
        simp only [RepV] at r1
        obtain ⟨p, us, rfl, h4, h5⟩ := r1
        simp only [RepL] at h5
        obtain ⟨vk, r3, rfl, h6, vx, r4, rfl, h7, rfl⟩ := h5
        obtain ⟨k', rfl, hk'⟩ := flat_key hk h6
        exact ⟨p :: ps, (k', vx) :: kvs, rfl, .cons (rh.seqT h4) h2, by simp only [RepP]; exact ⟨k', vx, kvs, rfl, hk', h7, h3⟩⟩
      · cases e
    · cases e
theorem mergeP {F : Hp} {mu : List Addr} : ∀ {qs ps : List (D × D)} {ls kvs : List (Key × V)}, RepP g F mu qs ls → RepP g F mu ps kvs → RepP g F mu (mergeD ps qs) (mergeK kvs ls)
  | [], ps, ls, kvs, h, k => by
    simp only [RepP] at h
    subst h
    exact k
  | (a, d) :: qs, ps, ls, kvs, h, k => by
    simp only [RepP] at h
    obtain ⟨a', v, r, rfl, h1, h2, h3⟩ := h
    have := mergeP (qs := qs) (ls := r) (ps := putD ps a d) (kvs := putK kvs a' v) h3 (putP k h1 h2)
    exact this
theorem sDict : NpSN g (fun xs H Q => ∃ (a : Addr) (ps : List Addr) (kvs : List (Key × V)), xs = [.ref a] ∧ SqL g.K H a (ps.map V.ref) ∧ Paired (fun p kv => SqT g.K H p [kV kv.1, kv.2]) ps kvs ∧ ∀ p, H p = none → Q (.ref p) (upd H p (.dK (mergeK [] kvs)))) nDict := fun H F mu st xs vs c Q rh rx e q => by
  unfold nDict at e
  split at e
  · obtain ⟨v, rfl, r1⟩ := repxs1 rx
    split at e
    · rename_i ds hd
      simp only [Option.map_eq_some_iff] at e
      obtain ⟨prs, hp, rfl⟩ := e
      obtain ⟨p, us, rfl, h1, h2⟩ := listOf_rep rh r1 hd
      obtain ⟨ps, kvs, rfl, h3, h4⟩ := pairs_rep rh h2 hp
      exact ⟨p, ps, kvs, rfl, SqL.of h1, h3, newCell (c := .dct 0 (mergeD [] prs)) rh (fun p hp => .inl ⟨rfl, _, upd_same, mergeP h4 (by simp only [RepP])⟩) q⟩
    · cases e
  · cases e
/-- list(d.items()): new pairs in a new list -/
theorem itemsL_rep {H F : Hp} {mu : List Addr} {st : Mir.St} {x : Opd} {v : V} {ps : List (D × D)} (rh : RH g H F mu st) (r : RepX g H F mu x v) (h : itemsL st x = some ps) : ∃ p kvs, v = .ref p ∧ H p = some (.dK kvs) ∧ RepP g F mu ps kvs := by
  unfold itemsL at h
  split at h
  · cases h
    simp only [RepX, RepV] at r
    obtain ⟨p, rfl, ⟨_, kvs, h1, h2⟩ | ⟨h1, _⟩⟩ := r
    · exact ⟨p, kvs, rfl, (rh.fro _ _ h1).resolve_right (fun z => z.1), h2⟩
    · cases h1
  · simp only [RepX, RepV] at r
    obtain ⟨p, hp, rfl⟩ := r
    split at h
    · rename_i hn
      cases h
      obtain ⟨p', q1, _, ⟨_, kvs, h1, h2⟩ | ⟨h1, _⟩⟩ := rh.cel _ _ hn
      · rw [hp] at q1
        cases q1
        exact ⟨p, kvs, rfl, h1, h2⟩
      · cases h1
    · cases h
  · cases h
theorem RepL.pairs {H' F F' : Hp} {mu : List Addr} (mo : Mono F mu F' mu) : ∀ {ps : List (D × D)} {kvs : List (Key × V)} {ts : List Addr}, RepP g F mu ps kvs → (∀ t ∈ ts, F' t = H' t) → Paired (fun (t : Addr) (q : Key × V) => H' t = some (.tup [kV q.1, q.2])) ts kvs → RepL g F' mu (ps.map fun p => .tup [p.1, p.2]) (ts.map V.ref)
  | [], kvs, ts, h, _, hp => by
    simp only [RepP] at h
    subst h
    cases hp
    exact .nil
  | (a, d) :: ps, kvs, ts, h, ht, hp => by
    simp only [RepP] at h
    obtain ⟨a', v, r, rfl, h1, h2, h3⟩ := h
    cases hp with
    | cons q1 q2 =>
      rename_i t ts'
      simp only [List.map_cons]
      refine .cons ?_ (RepL.pairs mo h3 (fun t h => ht t (List.mem_cons_of_mem _ h)) q2)
      simp only [RepV]
      refine ⟨t, _, rfl, (ht t List.mem_cons_self).trans q1, .cons ?_ (.one (RepV.mono mo _ _ h2))⟩
      cases a <;> simp only [RepK] at h1 <;> subst h1 <;> simp only [RepV, kV]
theorem paired_mem {α β : Type} {R : α → β → Prop} : ∀ {as : List α} {bs : List β}, Paired R as bs → ∀ {a : α}, a ∈ as → ∃ b, R a b
  | _, _, .nil, a, h => by cases h
  | _, _, .cons q1 q2, a, h => by
    rcases List.mem_cons.mp h with rfl | h
    · exact ⟨_, q1⟩
    · exact paired_mem q2 h
theorem yItems (h : PE X e (LiI.tListItems (rdE g E ma))) : PE X e (rdN g E (nItems ma)) := PE.imp h fun s H Q k => by
  obtain ⟨r, st, F, mu, re, k⟩ := k
  refine ⟨r, st, F, mu, re, OutQ.bind k fun x st1 vx H1 F1 mu1 _ e1 re1 rx k1 => ?_⟩
  cases hi : itemsL st1 x with
  | none => rw [hi] at k1; exact k1.elim
  | some ps =>
    rw [hi] at k1
    obtain ⟨p, kvs, rfl, h1, h2⟩ := itemsL_rep re1.h rx hi
    refine ⟨p, kvs, rfl, h1, fun H' l ts hk hl hts hlt hl' hp => ?_⟩
    have fresh : ∀ t, t ∈ ts → F1 t = none ∧ t ∉ mu1 := fun t ht => ⟨F_new re1.h (hts t ht), fun z => mem_mu re1.h z (hts t ht)⟩
    have mo : Mono F1 mu1 (fun b => if b ∈ ts then H' b else F1 b) mu1 := ⟨fun b o hb => by
      have : b ∉ ts := fun z => by rw [(fresh b z).1] at hb; cases hb
      simp only [this, if_false]
      exact hb, fun _ _ h => h⟩
    have rh : RH g H' (fun b => if b ∈ ts then H' b else F1 b) mu1 st1 := by
      refine ⟨fun b o hb => ?_, re1.h.len, re1.h.nd, fun n c hn => ?_, re1.h.tab.ext hk, fun b ps hb => ?_⟩
      · by_cases z : b ∈ ts
        · simp only [z, if_true] at hb
          exact .inl hb
        · simp only [z, if_false] at hb
          rcases re1.h.fro b o hb with q | ⟨q, od, q'⟩
          · exact .inl (hk _ _ q)
          · exact .inr ⟨q, od, hk _ _ q'⟩
      · obtain ⟨b, q1, q2, q3⟩ := re1.h.cel n c hn
        obtain ⟨o, q4, _⟩ := q3.there
        have : b ∉ ts := fun z => by rw [hts b z] at q4; cases q4
        exact ⟨b, q1, by simp only [this, if_false]; exact q2, (CellAt.at (by rw [q4]; exact hk _ _ q4) q3).mono mo⟩
      · by_cases z : b ∈ ts
        · simp only [z, if_true] at hb
          obtain ⟨q, hq⟩ := paired_mem hp z
          rw [hq] at hb
          cases hb
        · simp only [z, if_false] at hb
          exact re1.h.ntb _ _ hb
    have ex : Ext H1 F1 mu1 H' (fun b => if b ∈ ts then H' b else F1 b) mu1 := by
      refine ⟨mo, fun b o hb _ _ => hk _ _ hb, fun b hb => fun o q => hb o (hk _ _ q), fun b o hb => ?_, fun b hb => .inl hb⟩
      · by_cases z : b ∈ ts
        · exact .inr (.inl (Nw.of (hts b z)))
        · simp only [z, if_false] at hb
          exact .inl hb
    refine k1 _ H' _ mu1 (e1.trans ex) (re1.step ex rh) ⟨l, rfl, ?_, fun z => mem_mu re1.h z hl, dom_none e1 hl, _, hl', RepL.pairs mo h2 (fun t ht => by simp only [ht, if_true]) hp⟩
    simp only [hlt, if_false]
    exact F_new re1.h hl
end
end Mir
/-! E11: slices, empty dicts, sorted. -/
namespace Mir
open PySem PySem.Spec PyProof.Rows L2
section
variable {X : Cx} {g : G} {E : XK} {B : Bs} {pos p2 : Pos} {a b c e f o : Expr} {ma mb mc : EM} {es : List Expr} {mas : AM} {sa : Stmt} {lo hi : Option Expr} {ml mh : OM}
def rdO (g : G) (E : XK) (m : OM) : TO := fun s H Q => ∃ r st F mu, RE g s H F mu r st ∧ OutQ g s H F mu r (fun _ _ _ x v => x = v) E Q (m r st)
theorem PO.imp {t t' : TO} (h : PO X lo t) (k : ∀ s H Q, t' s H Q → t s H Q) : PO X lo t' := ⟨fun pins s σ H Q I q => h.run pins s σ H Q I (k σ H Q q)⟩
theorem oNoP : PO X none (rdO g E oNo) := PO.imp po_none fun s H Q h => by
  obtain ⟨r, st, F, mu, re, h⟩ := h
  exact h none H F mu (.refl _ _ _) re rfl
theorem oSomeP (ha : PE X e (rdE g E ma)) : PO X (some e) (rdO g E (oSome ma)) := PO.imp (po_some ha) fun s H Q h => by
  obtain ⟨r, st, F, mu, re, h⟩ := h
  refine ⟨r, st, F, mu, re, OutQ.bind h fun x st1 v H1 F1 mu1 _ e1 re1 rx k => ?_⟩
  cases x with
  | bor c => exact k.elim
  | val d =>
    cases d with
    | int i =>
      simp only [RepX, RepV] at rx
      exact ⟨i, rx, k (some i) H1 F1 mu1 e1 re1 rfl⟩
    | _ => exact k.elim
theorem sIx_eq (n d : Nat) (o : Option Int) : HT.sIx n d o = sIxD n d o := by cases o <;> rfl
theorem cut_rep {F : Hp} {mu : List Addr} {ds : List D} {vs : List V} (l h : Option Int) (r : RepL g F mu ds vs) : RepL g F mu (cutD ds l h) (cutV vs l h) := by
  unfold cutD cutV
  rw [sIx_eq, sIx_eq, r.length]
  exact RepL.take _ (RepL.drop _ r)
def rSlAll (K : PySem.W.Frag) : V → Option Int → Option Int → Hp → VK → Prop := fun x lo hi H Q => rSlL K x lo hi H Q ∨ rSlA K x lo hi H Q ∨ rSlS x lo hi H Q
theorem sl_all : SlR X (rSlAll X.K) := sl_list.or (sl_tupA.or sl_str)
theorem xSl (hK : X.K = g.K) (ha : PE X e (rdE g E ma)) (hl : PO X lo (rdO g E ml)) (hh : PO X hi (rdO g E mh)) : PE X (.Subscript e (.Slice lo hi none p2) pos) (rdE g E (eSl ma ml mh)) := PE.imp (pe_slice sl_all ha hl hh) fun s H Q h => by
  obtain ⟨r, st, F, mu, re, h⟩ := h
  rw [hK]
  refine ⟨r, st, F, mu, re, OutQ.bind h fun x st1 v H1 F1 mu1 _ e1 re1 rx k => ?_⟩
  refine ⟨r, st1, F1, mu1, re1, OutQ.bind (k.ext e1) fun l st2 v2 H2 F2 mu2 _ e2 re2 rl k2 => ?_⟩
  refine ⟨r, st2, F2, mu2, re2, OutQ.bind (k2.ext e2) fun u st3 v3 H3 F3 mu3 _ e3 re3 ru k3 => ?_⟩
  subst rl ru
  have rx3 := (rx.ext e2).ext e3
  cases x with
  | bor c => exact k3.elim
  | val d =>
    dsimp only at k3
    cases d with
    | str z =>
      simp only [cutE] at k3
      by_cases hz : z.length ≤ lim
      · rw [if_pos hz] at k3
        simp only [RepX, RepV] at rx3
        subst rx3
        refine .inr (.inr ⟨toS z, rfl, by rw [toS_len]; have := lim_line; omega, k3 _ H3 F3 mu3 e3 re3 ?_⟩)
        simp only [RepX, RepV]
        unfold cutS cutD toS
        rw [sIx_eq, sIx_eq]
        simp [Str.length]
      · rw [if_neg hz] at k3
        exact k3.elim
    | tup xs =>
      simp only [cutE] at k3
      simp only [RepX, RepV] at rx3
      obtain ⟨p, vs, rfl, h1, h2⟩ := rx3
      refine .inr (.inl ⟨p, vs, rfl, re3.h.seqT h1, fun hw => k3 _ H3 F3 mu3 e3 re3 ?_, fun _ q hq => k3 _ _ _ mu3 (e3.trans (Ext.new re3.h hq)) (re3.step (Ext.new re3.h hq) (re3.h.new hq)) ?_⟩)
      · simp only [RepX, RepV]
        refine ⟨p, vs, rfl, h1, ?_⟩
        have : cutD xs l u = xs := by
          unfold cutD
          rw [← sIx_eq, ← sIx_eq, h2.length, hw.1, hw.2]
          simp [← h2.length]
        rw [this]
        exact h2
      · simp only [RepX, RepV]
        exact ⟨q, _, rfl, upd_same, RepL.mono (Mono.new re3.h hq) _ _ (cut_rep _ _ h2)⟩
    | _ => exact k3.elim
theorem seqL_rep {H F : Hp} {mu : List Addr} {st : Mir.St} {x : Opd} {v : V} {ds : List D} (rh : RH g H F mu st) (r : RepX g H F mu x v) (h : seqL st x = some ds) : ∃ p vs, v = .ref p ∧ SqL g.K H p vs ∧ RepL g F mu ds vs := by
  unfold seqL at h
  split at h
  · cases h
    simp only [RepX, RepV] at r
    obtain ⟨p, vs, rfl, h1, h2⟩ := r
    refine ⟨p, vs, rfl, ?_, h2⟩
    rcases h1 with ⟨od, h1⟩ | h1 | h1
    · exact .inl (.inr ⟨od, rh.frz h1⟩)
    · exact SqL.of (rh.lst h1)
    · exact h1.seq
  · obtain ⟨p, vs, rfl, h1, h2⟩ := listOf_rep rh r h
    exact ⟨p, vs, rfl, SqL.of h1, h2⟩
theorem ySl (hK : X.K = g.K) (ha : PE X e (rdE g E ma)) (hl : PO X lo (rdO g E ml)) (hh : PO X hi (rdO g E mh)) : PE X (.Subscript e (.Slice lo hi none p2) pos) (rdN g E (nSl ma ml mh)) := PE.imp (pe_slice sl_all ha hl hh) fun s H Q h => by
  obtain ⟨r, st, F, mu, re, h⟩ := h
  rw [hK]
  refine ⟨r, st, F, mu, re, OutQ.bind h fun x st1 v H1 F1 mu1 _ e1 re1 rx k => ?_⟩
  refine ⟨r, st1, F1, mu1, re1, OutQ.bind (k.ext e1) fun l st2 v2 H2 F2 mu2 _ e2 re2 rl k2 => ?_⟩
  refine ⟨r, st2, F2, mu2, re2, OutQ.bind (k2.ext e2) fun u st3 v3 H3 F3 mu3 _ e3 re3 ru k3 => ?_⟩
  subst rl ru
  have rx3 := (rx.ext e2).ext e3
  cases hs : seqL st3 x with
  | none => rw [hs] at k3; exact k3.elim
  | some xs =>
    rw [hs] at k3
    obtain ⟨p, vs, hv, h1, h2⟩ := seqL_rep re3.h rx3 hs
    exact .inl ⟨p, vs, hv, h1, fun q hq => k3 _ _ F3 mu3 (e3.trans (Ext.newOwn hq)) (re3.step (Ext.newOwn hq) (re3.h.newOwn hq)) ⟨q, rfl, F_new re3.h hq, fun z => mem_mu re3.h z hq, e1.dom _ (e2.dom _ (dom_none e3 hq)), _, upd_same, cut_rep _ _ h2⟩⟩
theorem yRev {p1 p3 : Pos} {k : Nat} (hK : X.K = g.K) (ha : PE X e (rdE g E ma)) : PE X (.Subscript e (.Slice none none (some (.UnaryOp .USub (.Constant (.int 1) k p1) p2)) p3) pos) (rdN g E (nRev ma)) := PE.imp (pe_revL ha) fun s H Q h => by
  obtain ⟨r, st, F, mu, re, h⟩ := h
  rw [hK]
  refine ⟨r, st, F, mu, re, OutQ.bind h fun x st1 v H1 F1 mu1 _ e1 re1 rx k => ?_⟩
  cases hs : listOf st1 x with
  | none => rw [hs] at k; exact k.elim
  | some xs =>
    rw [hs] at k
    obtain ⟨p, vs, rfl, h1, h2⟩ := listOf_rep re1.h rx hs
    exact ⟨p, vs, rfl, SqL.of h1, fun q hq => k _ _ F1 mu1 (e1.trans (Ext.newOwn hq)) (re1.step (Ext.newOwn hq) (re1.h.newOwn hq)) ⟨q, rfl, F_new re1.h hq, fun z => mem_mu re1.h z hq, dom_none e1 hq, _, upd_same, h2.reverse⟩⟩
theorem yDct0 : PE X (.Dict [] [] pos) (rdN g E (nDct0 0)) := PE.imp pe_dnewK fun s H Q h => by
  obtain ⟨r, st, F, mu, re, h⟩ := h
  exact fun p hp => h _ _ F mu (Ext.newOwn hp) (re.step (Ext.newOwn hp) (re.h.newOwn hp)) ⟨p, rfl, F_new re.h hp, fun z => mem_mu re.h z hp, Nw.of hp, .inl ⟨rfl, [], upd_same, by simp only [RepP]⟩⟩
theorem yDct1 : PE X (.Dict [] [] pos) (rdN g E (nDct0 1)) := PE.imp pe_dnewT fun s H Q h => by
  obtain ⟨r, st, F, mu, re, h⟩ := h
  exact fun p hp => h _ _ F mu (Ext.newOwn hp) (re.step (Ext.newOwn hp) (re.h.newOwn hp)) ⟨p, rfl, F_new re.h hp, fun z => mem_mu re.h z hp, Nw.of hp, .inr ⟨rfl, [], upd_same, by simp only [RepT]⟩⟩

/-! ### sorted -/
theorem perm_insI (x : Int) : ∀ l : List Int, (insI x l).Perm (x :: l)
  | [] => .refl _
  | y :: r => by
    unfold insI
    split
    · exact ((perm_insI x r).cons y).trans (.swap x y r)
    · exact .refl _
theorem perm_sortI : ∀ l : List Int, (sortI l).Perm l
  | [] => .refl _
  | x :: r => (perm_insI x _).trans ((perm_sortI r).cons x)
theorem pw_insI (x : Int) : ∀ {l : List Int}, l.Pairwise (· ≤ ·) → (insI x l).Pairwise (· ≤ ·)
  | [], _ => by simp [insI]
  | y :: r, h => by
    unfold insI
    obtain ⟨h1, h2⟩ := List.pairwise_cons.mp h
    split
    · rename_i hl
      refine List.pairwise_cons.mpr ⟨fun z hz => ?_, pw_insI x h2⟩
      rcases List.mem_cons.mp ((perm_insI x r).mem_iff.mp hz) with rfl | hz
      · omega
      · exact h1 z hz
    · rename_i hl
      refine List.pairwise_cons.mpr ⟨fun z hz => ?_, h⟩
      rcases List.mem_cons.mp hz with rfl | hz
      · omega
      · have := h1 z hz
        omega
theorem pw_sortI : ∀ l : List Int, (sortI l).Pairwise (· ≤ ·)
  | [] => .nil
  | x :: r => pw_insI x (pw_sortI r)
theorem sortI_uniq {l m : List Int} (h : m.Perm l) (hs : m.Pairwise (· ≤ ·)) : m = sortI l :=
  List.Perm.eq_of_pairwise (fun a b _ _ h1 h2 => Int.le_antisymm h1 h2) hs (pw_sortI l) (h.trans (perm_sortI l).symm)
def leT (a b : Tx) : Prop := ltT b a = false
theorem ltT_irr : ∀ a : Tx, ltT a a = false
  | [] => rfl
  | a :: r => by simp [ltT, ltT_irr r]
theorem ltT_trans : ∀ {a b c : Tx}, ltT a b = true → ltT b c = true → ltT a c = true
  | [], [], _, h, _ => by cases h
  | [], _ :: _, [], _, h => by cases h
  | [], _ :: _, _ :: _, _, _ => rfl
  | _ :: _, [], _, h, _ => by cases h
  | _ :: _, _ :: _, [], _, h => by cases h
  | a :: r, b :: t, c :: u, h, k => by
    simp only [ltT, Bool.or_eq_true, Bool.and_eq_true, decide_eq_true_eq] at h k ⊢
    rcases h with h | ⟨h, h'⟩ <;> rcases k with k | ⟨k, k'⟩
    · exact .inl (by omega)
    · exact .inl (by omega)
    · exact .inl (by omega)
    · exact .inr ⟨by omega, ltT_trans h' k'⟩
theorem ltT_tri : ∀ {a b : Tx}, ltT a b = false → ltT b a = false → a = b
  | [], [], _, _ => rfl
  | [], _ :: _, h, _ => by cases h
  | _ :: _, [], _, h => by cases h
  | a :: r, b :: t, h, k => by
    simp only [ltT, Bool.or_eq_false_iff, Bool.and_eq_false_iff, decide_eq_false_iff_not] at h k
    obtain ⟨h1, h2⟩ := h
    obtain ⟨k1, k2⟩ := k
    have e : a = b := by omega
    subst e
    rcases h2 with h2 | h2
    · exact absurd rfl h2
    · rcases k2 with k2 | k2
      · exact absurd rfl k2
      · rw [ltT_tri h2 k2]
theorem leT_trans {a b c : Tx} (h : leT a b) (k : leT b c) : leT a c := by
  unfold leT at *
  cases e : ltT c a with
  | false => rfl
  | true =>
    cases e2 : ltT a b with
    | true => rw [ltT_trans e e2] at k; cases k
    | false =>
      rw [ltT_tri e2 h] at e
      rw [e] at k
      cases k
theorem perm_insT (x : Tx) : ∀ l : List Tx, (insT x l).Perm (x :: l)
  | [] => .refl _
  | y :: r => by
    unfold insT
    split
    · exact ((perm_insT x r).cons y).trans (.swap x y r)
    · exact .refl _
theorem perm_sortT : ∀ l : List Tx, (sortT l).Perm l
  | [] => .refl _
  | x :: r => (perm_insT x _).trans ((perm_sortT r).cons x)
theorem pw_insT (x : Tx) : ∀ {l : List Tx}, l.Pairwise leT → (insT x l).Pairwise leT
  | [], _ => by simp [insT]
  | y :: r, h => by
    unfold insT
    obtain ⟨h1, h2⟩ := List.pairwise_cons.mp h
    split
    · rename_i hl
      refine List.pairwise_cons.mpr ⟨fun z hz => ?_, pw_insT x h2⟩
      rcases List.mem_cons.mp ((perm_insT x r).mem_iff.mp hz) with rfl | hz
      · unfold leT
        cases e : ltT z y with
        | false => rfl
        | true =>
          have := ltT_trans hl e
          rw [ltT_irr] at this
          cases this
      · exact h1 z hz
    · rename_i hl
      have hxy : leT x y := by
        unfold leT
        exact Bool.not_eq_true _ ▸ hl
      refine List.pairwise_cons.mpr ⟨fun z hz => ?_, h⟩
      rcases List.mem_cons.mp hz with rfl | hz
      · exact hxy
      · exact leT_trans hxy (h1 z hz)
theorem pw_sortT : ∀ l : List Tx, (sortT l).Pairwise leT
  | [] => .nil
  | x :: r => pw_insT x (pw_sortT r)
theorem sortT_uniq {l m : List Tx} (h : m.Perm l) (hs : m.Pairwise leT) : m = sortT l :=
  List.Perm.eq_of_pairwise (fun a b _ _ h1 h2 => ltT_tri h2 h1) hs (pw_sortT l) (h.trans (perm_sortT l).symm)
theorem ltT_cps : ∀ a b : Tx, ltCps a b = ltT a b
  | [], [] => rfl
  | [], _ :: _ => rfl
  | _ :: _, [] => rfl
  | a :: r, b :: t => by
    simp only [ltCps, ltT, ltT_cps r t]
    by_cases h : a = b <;> simp [h]
theorem rising_pw : ∀ {p : Str} {l : List Str}, risingS p l = true → (p :: l).Pairwise (fun a b => leT a.cps.toList b.cps.toList)
  | p, [], _ => by simp
  | p, x :: r, h => by
    simp only [risingS, Bool.and_eq_true, Bool.not_eq_true', ltT_cps] at h
    have ih := rising_pw h.2
    refine List.pairwise_cons.mpr ⟨fun z hz => ?_, ih⟩
    rcases List.mem_cons.mp hz with rfl | hz
    · exact h.1
    · exact leT_trans h.1 ((List.pairwise_cons.mp ih).1 z hz)
theorem sortedS_pw : ∀ {l : List Str}, sortedS l = true → l.Pairwise (fun a b => leT a.cps.toList b.cps.toList)
  | [], _ => .nil
  | x :: r, h => rising_pw h
theorem sortS_uniq {ts : List Tx} {ys : List Str} (h : ys.Perm (ts.map toS)) (hs : sortedS ys = true) : ys = (sortT ts).map toS := by
  have e : ys.map (fun z => z.cps.toList) = sortT ts := by
    refine sortT_uniq ?_ ?_
    · have := h.map (fun z : Str => z.cps.toList)
      rw [List.map_map] at this
      have e2 : ts.map ((fun z : Str => z.cps.toList) ∘ toS) = ts := by
        conv => rhs; rw [← List.map_id ts]
        exact List.map_congr_left fun x _ => toS_list x
      rw [e2] at this
      exact this
    · exact List.pairwise_map.mpr (sortedS_pw hs)
  rw [← e, List.map_map]
  conv => lhs; rw [← List.map_id ys]
  exact List.map_congr_left fun x _ => (toS_of x).symm
theorem txsOf_rep {F : Hp} {mu : List Addr} : ∀ {ds : List D} {vs : List V} {ts : List Tx}, RepL g F mu ds vs → txsOf ds = some ts → vs = (ts.map toS).map V.str
  | [], vs, ts, r, e => by
    simp only [RepL] at r
    cases e
    rw [r]
    rfl
  | .str x :: ds, vs, ts, r, e => by
    simp only [RepL, RepV] at r
    obtain ⟨v, r', rfl, rfl, h3⟩ := r
    simp only [txsOf, Option.map_eq_some_iff] at e
    obtain ⟨t, e1, rfl⟩ := e
    rw [txsOf_rep h3 e1]
    rfl
  | .non :: _, _, _, _, e => by cases e
  | .bl _ :: _, _, _, _, e => by cases e
  | .int _ :: _, _, _, _, e => by cases e
  | .ref _ :: _, _, _, _, e => by cases e
  | .tup _ :: _, _, _, _, e => by cases e
  | .lst _ :: _, _, _, _, e => by cases e
  | .dct _ _ :: _, _, _, _, e => by cases e
  | .obj _ _ :: _, _, _, _, e => by cases e
  | .lam _ :: _, _, _, _, e => by cases e
  | .scr _ :: _, _, _, _, e => by cases e
  | .ktp _ :: _, _, _, _, e => by cases e
theorem txsK_rep {F : Hp} {mu : List Addr} : ∀ {ps : List (D × D)} {kvs : List (Key × V)} {ts : List Tx}, RepP g F mu ps kvs → txsOf (ps.map (·.1)) = some ts → kvs.map (·.1) = (ts.map toS).map Sum.inr
  | [], kvs, ts, r, e => by
    simp only [RepP] at r
    cases e
    rw [r]
    rfl
  | (a, d) :: ps, kvs, ts, r, e => by
    simp only [RepP] at r
    obtain ⟨a', v, r', rfl, h1, h2, h3⟩ := r
    cases a with
    | str x =>
      simp only [List.map_cons, txsOf, Option.map_eq_some_iff] at e
      obtain ⟨t, e1, rfl⟩ := e
      simp only [RepK] at h1
      subst h1
      simp only [List.map_cons]
      rw [txsK_rep h3 e1]
    | _ => cases e
theorem strL {F : Hp} {mu : List Addr} : ∀ ts : List Tx, RepL g F mu (ts.map D.str) ((ts.map toS).map V.str)
  | [] => .nil
  | t :: ts => .cons (by simp only [RepV]) (strL ts)
theorem intL {F : Hp} {mu : List Addr} : ∀ ts : List Int, RepL g F mu (ts.map D.int) (ts.map V.int)
  | [] => .nil
  | t :: ts => .cons (by simp only [RepV]) (intL ts)
def rSortAll (K : PySem.W.Frag) : List V → Hp → VK → Prop := fun vs H Q => rSorted K vs H Q ∨ rSortedS K vs H Q ∨ (∃ (a : Addr) (kvs : List (Key × V)) (ks : List Str), vs = [.ref a] ∧ Rd H a (.dK kvs) ∧ kvs.map (·.1) = ks.map Sum.inr ∧ ks.length < 64 ∧ ∀ ys p, ys.Perm ks → sortedS ys = true → H p = none → Q (.ref p) (upd H p (.lst (ys.map V.str))))
theorem cr_sortAll (hc : X.calm = true) : CallR X (.builtin "sorted") (rSortAll X.K) := cr_sorted.or (cr_sortedS.or (call_sortedD hc))
theorem sSorted : NpSN g (rSortAll g.K) nSorted := fun H F mu st xs vs c Q rh rx e q => by
  unfold nSorted at e
  split at e
  · rename_i x
    obtain ⟨v, rfl, r1⟩ := repxs1 rx
    split at e
    · rename_i ps hd
      split at e
      · rename_i ts ht
        split at e
        · rename_i h64
          cases e
          obtain ⟨p, rfl, ⟨_, kvs, h1, h2⟩ | ⟨h1, _⟩⟩ := dct_rep rh r1 hd
          · refine .inr (.inr ⟨p, kvs, ts.map toS, rfl, h1, txsK_rep h2 ht, by rw [List.length_map]; exact h64, fun ys l hp hs hl => ?_⟩)
            rw [sortS_uniq hp hs]
            exact newLst rh (strL _) q l hl
          · cases h1
        · cases e
      · cases e
    · cases e
    · split at e
      · rename_i ds hd
        split at e
        · rename_i h64
          obtain ⟨p, us, rfl, h1, h2⟩ := listOf_rep rh r1 hd
          split at e
          · rename_i ns hn
            cases e
            have := intsOf_rep h2 hn
            subst this
            refine .inl ⟨p, ns, rfl, SqL.of h1, by rw [h2.length, List.length_map] at h64; exact h64, fun ys l hp hs hl => ?_⟩
            rw [sortI_uniq hp hs]
            exact newLst rh (intL _) q l hl
          · split at e
            · rename_i ts ht
              cases e
              have := txsOf_rep h2 ht
              subst this
              refine .inr (.inl ⟨p, ts.map toS, rfl, SqL.of h1, by rw [h2.length, List.length_map] at h64; exact h64, fun ys l hp hs hl => ?_⟩)
              rw [sortS_uniq hp hs]
              exact newLst rh (strL _) q l hl
            · cases e
        · cases e
      · cases e
  · cases e
end
end Mir
/-! E12: told(lambda: e), truth, sums. -/
namespace Mir
open PySem PySem.Spec PyProof.Rows L2
section
variable {X : Cx} {g : G} {E : XK} {B : Bs} {pos p2 : Pos} {a b c e f o : Expr} {ma mb mc : EM} {es : List Expr} {mas : AM} {sa : Stmt}
section
variable {H H1 F : Hp} {mu : List Addr} {st : Mir.St} {s : L2.St} {r : Env}
theorem cell_ext {a : Addr} {c : Cell} (eN : LamX.ExtN H H1) (h : CellAt g F mu H a c) : CellAt g F mu H1 a c := by
  obtain ⟨o, h1, h2, _⟩ := h.there
  exact CellAt.at (by rw [h1]; exact eN _ _ h1 h2) h
theorem RH.lam (rh : RH g H F mu st) (eN : LamX.ExtN H H1) (T1 : LamX.Tabs g.tb H1) : RH g H1 F mu st where
  ntb := rh.ntb
  fro := fun a o h => .inl (eN a o ((rh.fro a o h).resolve_right fun z => z.1) fun ps z => rh.ntb a ps (by rw [h, z]))
  len := rh.len
  nd := rh.nd
  cel := fun n c h => by
    obtain ⟨a, h1, h2, h3⟩ := rh.cel n c h
    exact ⟨a, h1, h2, cell_ext eN h3⟩
  tab := T1
theorem Ext.lam (eN : LamX.ExtN H H1) : Ext H F mu H1 F mu where
  mo := .refl _ _
  keep := fun a o h _ n => eN a o h n
  dom := fun a h o q => by
    by_cases z : ∃ ps, o = .tbl ps
    · exact z
    · exact h o (eN a o q fun ps e => z ⟨ps, e⟩)
  frF := fun _ _ h => .inl h
  frM := fun _ h => .inl h
theorem RE.lam (re : RE g s H F mu r st) (eN : LamX.ExtN H H1) (T1 : LamX.Tabs g.tb H1) : RE g s H1 F mu r st := re.step (Ext.lam eN) (re.h.lam eN T1)
end
/-- the errors that told catches -/
def Caught (g : G) (CS : Addr) (es : List Nat) : Prop := ∀ k, es.contains k = true → ∃ C, g.ex k = some C ∧ PySem.W.exmOne g.K (.ref C) (.ref CS) = some true
theorem told_rd {CS : Addr} {ret : Tx} {es : List Nat} (hx : Caught g CS es) {s : L2.St} {H : Hp} {Q : VK} {r : Env} {st : Mir.St} {F : Hp} {mu : List Addr} (re : RE g s H F mu r st)
    (k : OutQ g s H F mu r (fun H' F' mu' x v => RepX g H' F' mu' x v) E Q (eTold es ret ma r st)) :
    LamX.TTold g.K CS (toS ret) (fun E H' Q' => rdE g E ma s H' Q') H Q := by
  refine ⟨r, st, F, mu, re, ?_⟩
  unfold eTold at k
  cases h : ma r st with
  | ok x st1 =>
    rw [h] at k
    cases x with
    | val d => exact k
    | bor c => exact k.elim
  | exc x st1 =>
    rw [h] at k
    dsimp only at k
    by_cases hc : es.contains x = true
    · rw [if_pos hc] at k
      obtain ⟨C, h1, h2⟩ := hx x hc
      exact fun H' F' mu' ex re' => ⟨C, h1, true, h2, fun _ => k (.str (toS ret)) H' F' mu' ex re' (by simp only [RepX, RepV]), fun z => by cases z⟩
    · rw [if_neg hc] at k
      exact k.elim
  | bad => rw [h] at k; exact k.elim
theorem xTold {CS : Addr} {ret : Tx} {es : List Nat} (hx : Caught g CS es) (h : PE X e (LamX.tLam g.tb (LamX.TTold g.K CS (toS ret)) (fun E => rdE g E ma))) : PE X e (rdE g E (eTold es ret ma)) := PE.imp h fun s H Q k => by
  obtain ⟨r, st, F, mu, re, k⟩ := k
  refine ⟨re.h.tab, fun H1 eN T1 => ?_⟩
  exact told_rd hx (re.lam eN T1) (k.ext (Ext.lam eN))
/-! ### truth -/
theorem emp_rep {F : Hp} {mu : List Addr} {ds : List D} {vs : List V} (h : RepL g F mu ds vs) : ds.isEmpty = vs.isEmpty := by
  have := h.length
  cases ds <;> cases vs <;> simp_all
theorem truth_rep {H F : Hp} {mu : List Addr} {st : Mir.St} {x : Opd} {v : V} {t : Bool} (rh : RH g H F mu st) (rx : RepX g H F mu x v) (h : truth st x = some t) : TruV g.K v H t := by
  unfold truth at h
  split at h
  · simp only [RepX, RepV] at rx
    subst rx
    cases h
    rfl
  · simp only [RepX, RepV] at rx
    subst rx
    cases h
    rfl
  · simp only [RepX, RepV] at rx
    subst rx
    cases h
    rfl
  · rename_i y
    simp only [RepX, RepV] at rx
    subst rx
    split at h
    · rename_i hl
      cases h
      refine ⟨by rw [toS_len]; exact Nat.le_trans hl lim_line, ?_⟩
      rw [toS_len]
      cases y with
      | nil => rfl
      | cons c y =>
        have : ((((c :: y).length : Nat) : Int) != 0) = true := by
          simp only [List.length_cons, bne_iff_ne, ne_eq]
          omega
        rw [this]
        rfl
    · cases h
  · simp only [RepX, RepV] at rx
    obtain ⟨p, vs, rfl, h1, h2⟩ := rx
    cases h
    exact .inr (.inl ⟨vs, rh.seqT h1, by rw [emp_rep h2]⟩)
  · simp only [RepX, RepV] at rx
    obtain ⟨p, vs, rfl, h1, h2⟩ := rx
    cases h
    exact .inl ⟨vs, SqL.of (rh.lst h1), by rw [emp_rep h2]⟩
  · obtain ⟨p, rfl, _, _, vs, h1, h2⟩ := rx
    cases h
    exact .inl ⟨vs, SqL.of h1, by rw [emp_rep h2]⟩
  · cases h
theorem dTru (ha : PE X a (rdE g E ma)) (hK : X.K = g.K) (he : ∀ whole, isTrue a X.env whole = (do let v ← whole; standAt a.pos; holding [v] (truthy v)) := by intro _; rfl) : PT X a (rdT g E (tTru ma)) := PT.imp (pt_truth ha he) fun s H Q h => by
  obtain ⟨r, st, F, mu, re, h⟩ := h
  refine ⟨r, st, F, mu, re, OutQ.bind h fun x st1 v H1 F1 mu1 _ e1 re1 rx k => ?_⟩
  cases ht : truth st1 x with
  | none => rw [ht] at k; exact k.elim
  | some t =>
    rw [ht] at k
    refine ⟨t, ?_, k t H1 F1 mu1 e1 re1 rfl⟩
    rw [hK]
    exact truth_rep re1.h rx ht
theorem qDead {t : TS} (h : PS X sa t) : PS X sa (rdS g E B sDead) := PS.imp h fun D s H h => by
  obtain ⟨r, st, F, mu, rb, h⟩ := h
  exact h.elim
theorem qDeads {ss : List Stmt} {t : TS} (h : PSs X ss t) : PSs X ss (rdS g E B sDead) := PSs.imp h fun D s H h => by
  obtain ⟨r, st, F, mu, rb, h⟩ := h
  exact h.elim
end
end Mir
/-! E13: the rules as a printed walk names them. -/
namespace Mir
open PySem PySem.Spec PyProof.Rows L2
section
variable {X : Cx} {g : G} {E : XK} {B : Bs} {pos p2 p3 : Pos} {a b c e f o : Expr} {ma mb mc : EM} {es : List Expr} {mas : AM} {sa : Stmt} {k : Nat}
theorem ru (hr : Room k X.A) : X.A.units + 65 < cLine := by have := hr.un; omega
theorem ru1 (hr : Room k X.A) : X.A.units + 1 < cLine := by have := hr.un; omega
theorem ru4 (hr : Room k X.A) : X.A.units + 64 < cLine := by have := hr.un; omega
/-! what a call may let out -/
theorem pF {P : Program} {w : World} {K : PySem.W.Frag} {mg : Str → Option Value} {base : Heap} {N : List Str} {q : Str} {sc : Scope} {f : Addr} {cdv : Value} {A : Around} {outer : List PySem.Env} {s : Shared} {H : Hp} {E : XK} :
    Passes (L2.CX P w) (cxOf (L2.CX P w) P w K mg base N q sc f cdv A outer s H E) E := passes_call (takes_of rfl rfl rfl rfl) fun _ _ _ _ h => h
theorem pB {P : Program} {w : World} : X.prog = P → X.w = w → Passes (L2.CX P w) X (fun _ _ _ => False) := fun h1 h2 => by
  subst h1 h2
  exact passes_call LamX.takes0 fun _ _ _ _ h => h
theorem pL {E₁ : Value → Shared → Prop} (hx : X.xe = fun e s' => wpAny (model X.prog X.w) X.A (leaving X.env e) (fun _ s'' => L2.CX X.prog X.w X.outer X.H_0 X.s_0 E e s'') E₁ s') (hs : X.stack = X.env :: X.outer) (hf : X.env.frame = some X.env.locals) (hex : X.ex = []) : Passes (L2.CX X.prog X.w) X E := passes_call (takes_of hs hf hex hx) fun _ _ _ _ h => h
/-! operators -/
theorem bAdd (ha : PE X a (rdE g E ma)) (hb : PE X b (rdE g E mb)) : PE X (.BinOp a .Add b pos) (rdE g E (eOp2 oAdd ma mb)) := dOp (op_add.or op_add_str) sAdd ha hb
theorem bSub (ha : PE X a (rdE g E ma)) (hb : PE X b (rdE g E mb)) : PE X (.BinOp a .Sub b pos) (rdE g E (eOp2 oSub ma mb)) := dOp op_sub sSub ha hb
theorem bMul (ha : PE X a (rdE g E ma)) (hb : PE X b (rdE g E mb)) : PE X (.BinOp a .Mult b pos) (rdE g E (eOp2 oMul ma mb)) := dOp op_mul sMul ha hb
theorem bFdiv (ha : PE X a (rdE g E ma)) (hb : PE X b (rdE g E mb)) : PE X (.BinOp a .FloorDiv b pos) (rdE g E (eOp2 oFdiv ma mb)) := dOp op_fdiv sFdiv ha hb
theorem bMod (ha : PE X a (rdE g E ma)) (hb : PE X b (rdE g E mb)) : PE X (.BinOp a .Mod b pos) (rdE g E (eOp2 oMod ma mb)) := dOp op_mod sMod ha hb
theorem bPow (ha : PE X a (rdE g E ma)) (hb : PE X b (rdE g E mb)) : PE X (.BinOp a .Pow b pos) (rdE g E (eOp2 oPow ma mb)) := dOp op_pow sPow ha hb
theorem bShl (ha : PE X a (rdE g E ma)) (hb : PE X b (rdE g E mb)) : PE X (.BinOp a .LShift b pos) (rdE g E (eOp2 oShl ma mb)) := dOp op_shl sShl ha hb
theorem bNeg (ha : PE X a (rdE g E ma)) : PE X (.UnaryOp .USub a pos) (rdE g E (eOp1 oNeg ma)) := dUn un_neg sNeg ha
theorem yCat (ha : PE X a (rdE g E ma)) (hb : PE X b (rdE g E mb)) : PE X (.BinOp a .Add b pos) (rdN g E (nOp2 nCat ma mb)) := yOp2 sCat (pe_op op_cat ha hb)
theorem yRep (ha : PE X a (rdE g E ma)) (hb : PE X b (rdE g E mb)) : PE X (.BinOp a .Mult b pos) (rdN g E (nOp2 nRep ma mb)) := yOp2 sRep (pe_op op_rep ha hb)
theorem cEq (hr : Room k X.A) (hK : X.K = g.K) (ha : PE X a (rdE g E ma)) (hb : PE X b (rdE g E mb)) (hm : behindInMarks .Eq b = false := by first | exact nomark _ | rfl) : PE X (.Compare a [.Eq] [b] pos) (rdE g E (eOp2 oEq ma mb)) := dCmp (hK ▸ (op_eq.or (op_eqD (ru4 hr)))) sEq ha hb hm
theorem tEq (hr : Room k X.A) (hK : X.K = g.K) (ha : PE X a (rdE g E ma)) (hb : PE X b (rdE g E mb)) (hm : behindInMarks .Eq b = false := by first | exact nomark _ | rfl) : PT X (.Compare a [.Eq] [b] pos) (rdT g E (tE (eOp2 oEq ma mb))) := dTc (hK ▸ (op_eq.or (op_eqD (ru4 hr)))) sEq ha hb hm
theorem cNotEq (hr : Room k X.A) (hK : X.K = g.K) (ha : PE X a (rdE g E ma)) (hb : PE X b (rdE g E mb)) (hm : behindInMarks .NotEq b = false := by first | exact nomark _ | rfl) : PE X (.Compare a [.NotEq] [b] pos) (rdE g E (eOp2 oNe ma mb)) := dCmp (hK ▸ (op_ne.or (op_neD (ru4 hr)))) sNe ha hb hm
theorem tNotEq (hr : Room k X.A) (hK : X.K = g.K) (ha : PE X a (rdE g E ma)) (hb : PE X b (rdE g E mb)) (hm : behindInMarks .NotEq b = false := by first | exact nomark _ | rfl) : PT X (.Compare a [.NotEq] [b] pos) (rdT g E (tE (eOp2 oNe ma mb))) := dTc (hK ▸ (op_ne.or (op_neD (ru4 hr)))) sNe ha hb hm
theorem cLt (ha : PE X a (rdE g E ma)) (hb : PE X b (rdE g E mb)) (hm : behindInMarks .Lt b = false := by first | exact nomark _ | rfl) : PE X (.Compare a [.Lt] [b] pos) (rdE g E (eOp2 oLt ma mb)) := dCmp op_lt sLt ha hb hm
theorem tLt (ha : PE X a (rdE g E ma)) (hb : PE X b (rdE g E mb)) (hm : behindInMarks .Lt b = false := by first | exact nomark _ | rfl) : PT X (.Compare a [.Lt] [b] pos) (rdT g E (tE (eOp2 oLt ma mb))) := dTc op_lt sLt ha hb hm
theorem cLtE (ha : PE X a (rdE g E ma)) (hb : PE X b (rdE g E mb)) (hm : behindInMarks .LtE b = false := by first | exact nomark _ | rfl) : PE X (.Compare a [.LtE] [b] pos) (rdE g E (eOp2 oLe ma mb)) := dCmp op_le sLe ha hb hm
theorem tLtE (ha : PE X a (rdE g E ma)) (hb : PE X b (rdE g E mb)) (hm : behindInMarks .LtE b = false := by first | exact nomark _ | rfl) : PT X (.Compare a [.LtE] [b] pos) (rdT g E (tE (eOp2 oLe ma mb))) := dTc op_le sLe ha hb hm
theorem cGt (ha : PE X a (rdE g E ma)) (hb : PE X b (rdE g E mb)) (hm : behindInMarks .Gt b = false := by first | exact nomark _ | rfl) : PE X (.Compare a [.Gt] [b] pos) (rdE g E (eOp2 oGt ma mb)) := dCmp op_gt sGt ha hb hm
theorem tGt (ha : PE X a (rdE g E ma)) (hb : PE X b (rdE g E mb)) (hm : behindInMarks .Gt b = false := by first | exact nomark _ | rfl) : PT X (.Compare a [.Gt] [b] pos) (rdT g E (tE (eOp2 oGt ma mb))) := dTc op_gt sGt ha hb hm
theorem cGtE (ha : PE X a (rdE g E ma)) (hb : PE X b (rdE g E mb)) (hm : behindInMarks .GtE b = false := by first | exact nomark _ | rfl) : PE X (.Compare a [.GtE] [b] pos) (rdE g E (eOp2 oGe ma mb)) := dCmp op_ge sGe ha hb hm
theorem tGtE (ha : PE X a (rdE g E ma)) (hb : PE X b (rdE g E mb)) (hm : behindInMarks .GtE b = false := by first | exact nomark _ | rfl) : PT X (.Compare a [.GtE] [b] pos) (rdT g E (tE (eOp2 oGe ma mb))) := dTc op_ge sGe ha hb hm
theorem cIs (ha : PE X a (rdE g E ma)) (hb : PE X b (rdE g E mb)) (hm : behindInMarks .Is b = false := by first | exact nomark _ | rfl) : PE X (.Compare a [.Is] [b] pos) (rdE g E (eOp2 oIsN ma mb)) := dCmp op_isN sIsN ha hb hm
theorem tIs (ha : PE X a (rdE g E ma)) (hb : PE X b (rdE g E mb)) (hm : behindInMarks .Is b = false := by first | exact nomark _ | rfl) : PT X (.Compare a [.Is] [b] pos) (rdT g E (tE (eOp2 oIsN ma mb))) := dTc op_isN sIsN ha hb hm
theorem cIsNot (ha : PE X a (rdE g E ma)) (hb : PE X b (rdE g E mb)) (hm : behindInMarks .IsNot b = false := by first | exact nomark _ | rfl) : PE X (.Compare a [.IsNot] [b] pos) (rdE g E (eOp2 oNotN ma mb)) := dCmp op_notN sNotN ha hb hm
theorem tIsNot (ha : PE X a (rdE g E ma)) (hb : PE X b (rdE g E mb)) (hm : behindInMarks .IsNot b = false := by first | exact nomark _ | rfl) : PT X (.Compare a [.IsNot] [b] pos) (rdT g E (tE (eOp2 oNotN ma mb))) := dTc op_notN sNotN ha hb hm
theorem cIn (hr : Room k X.A) (hK : X.K = g.K) (ha : PE X a (rdE g E ma)) (hb : PE X b (rdE g E mb)) (hm : behindInMarks .In b = false := by first | exact nomark _ | rfl) : PE X (.Compare a [.In] [b] pos) (rdE g E (eOp2 oIn ma mb)) := dCmp (hK ▸ (op_inAll (ru hr))) sIn ha hb hm
theorem tIn (hr : Room k X.A) (hK : X.K = g.K) (ha : PE X a (rdE g E ma)) (hb : PE X b (rdE g E mb)) (hm : behindInMarks .In b = false := by first | exact nomark _ | rfl) : PT X (.Compare a [.In] [b] pos) (rdT g E (tE (eOp2 oIn ma mb))) := dTc (hK ▸ (op_inAll (ru hr))) sIn ha hb hm
theorem cNotIn (hr : Room k X.A) (hK : X.K = g.K) (ha : PE X a (rdE g E ma)) (hb : PE X b (rdE g E mb)) (hm : behindInMarks .NotIn b = false := by first | exact nomark _ | rfl) : PE X (.Compare a [.NotIn] [b] pos) (rdE g E (eOp2 oNotIn ma mb)) := dCmp (hK ▸ (op_notInAll (ru hr))) sNotIn ha hb hm
theorem tNotIn (hr : Room k X.A) (hK : X.K = g.K) (ha : PE X a (rdE g E ma)) (hb : PE X b (rdE g E mb)) (hm : behindInMarks .NotIn b = false := by first | exact nomark _ | rfl) : PT X (.Compare a [.NotIn] [b] pos) (rdT g E (tE (eOp2 oNotIn ma mb))) := dTc (hK ▸ (op_notInAll (ru hr))) sNotIn ha hb hm
theorem cLeLe (ha : PE X a (rdE g E ma)) (hb : PE X b (rdE g E mb)) (hc : PE X c (rdE g E mc)) (hm : lastMarks [.LtE, .LtE] [b, c] = false := by with_unfolding_all rfl) : PE X (.Compare a [.LtE, .LtE] [b, c] pos) (rdE g E (eChain oLe oLe ma mb mc)) := dChain op_le sLe op_le sLe ha hb hc (pe_chain op_le op_le ha hb hc hm)
theorem tLeLe (ha : PE X a (rdE g E ma)) (hb : PE X b (rdE g E mb)) (hc : PE X c (rdE g E mc)) (hm : lastMarks [.LtE, .LtE] [b, c] = false := by with_unfolding_all rfl) : PT X (.Compare a [.LtE, .LtE] [b, c] pos) (rdT g E (tE (eChain oLe oLe ma mb mc))) := dTchain op_le sLe op_le sLe ha hb hc (pt_chain op_le op_le ha hb hc hm)
theorem cLtLt (ha : PE X a (rdE g E ma)) (hb : PE X b (rdE g E mb)) (hc : PE X c (rdE g E mc)) (hm : lastMarks [.Lt, .Lt] [b, c] = false := by with_unfolding_all rfl) : PE X (.Compare a [.Lt, .Lt] [b, c] pos) (rdE g E (eChain oLt oLt ma mb mc)) := dChain op_lt sLt op_lt sLt ha hb hc (pe_chain op_lt op_lt ha hb hc hm)
theorem tLtLt (ha : PE X a (rdE g E ma)) (hb : PE X b (rdE g E mb)) (hc : PE X c (rdE g E mc)) (hm : lastMarks [.Lt, .Lt] [b, c] = false := by with_unfolding_all rfl) : PT X (.Compare a [.Lt, .Lt] [b, c] pos) (rdT g E (tE (eChain oLt oLt ma mb mc))) := dTchain op_lt sLt op_lt sLt ha hb hc (pt_chain op_lt op_lt ha hb hc hm)
/-! calls of built-ins -/
theorem kLen (hg : Gl X "len") (hm : X.mg "len" = none) (hK : X.K = g.K) (ha : PA X (e :: es) (rdA g E mas)) (he : starEach (e :: es) X.env = (false, eval e X.env) :: starEach es X.env := by rfl) (hpl : (backTo pos (starEach es X.env)).any (·.1) = false := by rfl) :
    PE X (.Call (.Name "len" p2) (e :: es) [] pos) (rdE g E (eOpN oLen mas)) := xCB sLen (by have z := pe_callB (p := p2) call_len hg hm (by decide +kernel) ha (by decide +kernel) (by decide +kernel) he hpl; rw [hK] at z; exact z)
theorem kAbs (hg : Gl X "abs") (hm : X.mg "abs" = none) (ha : PA X (e :: es) (rdA g E mas)) (he : starEach (e :: es) X.env = (false, eval e X.env) :: starEach es X.env := by rfl) (hpl : (backTo pos (starEach es X.env)).any (·.1) = false := by rfl) :
    PE X (.Call (.Name "abs" p2) (e :: es) [] pos) (rdE g E (eOpN oAbs mas)) := xCB sAbs (pe_callB (p := p2) call_abs hg hm (by decide +kernel) ha (by decide +kernel) (by decide +kernel) he hpl)
theorem kMax2 (hg : Gl X "max") (hm : X.mg "max" = none) (hc : X.calm = true) (ha : PA X (e :: es) (rdA g E mas)) (he : starEach (e :: es) X.env = (false, eval e X.env) :: starEach es X.env := by rfl) (hpl : (backTo pos (starEach es X.env)).any (·.1) = false := by rfl) :
    PE X (.Call (.Name "max" p2) (e :: es) [] pos) (rdE g E (eOpN oMax2 mas)) := xCB sMax2 (pe_callB (p := p2) (call_max2 hc) hg hm (by decide +kernel) ha (by decide +kernel) (by decide +kernel) he hpl)
theorem kMin2 (hg : Gl X "min") (hm : X.mg "min" = none) (hc : X.calm = true) (ha : PA X (e :: es) (rdA g E mas)) (he : starEach (e :: es) X.env = (false, eval e X.env) :: starEach es X.env := by rfl) (hpl : (backTo pos (starEach es X.env)).any (·.1) = false := by rfl) :
    PE X (.Call (.Name "min" p2) (e :: es) [] pos) (rdE g E (eOpN oMin2 mas)) := xCB sMin2 (pe_callB (p := p2) (call_min2 hc) hg hm (by decide +kernel) ha (by decide +kernel) (by decide +kernel) he hpl)
theorem kInt (hg : Gl X "int") (hm : X.mg "int" = none) (ha : PA X (e :: es) (rdA g E mas)) (he : starEach (e :: es) X.env = (false, eval e X.env) :: starEach es X.env := by rfl) (hpl : (backTo pos (starEach es X.env)).any (·.1) = false := by rfl) :
    PE X (.Call (.Name "int" p2) (e :: es) [] pos) (rdE g E (eOpN oInt mas)) := xCB sIntB (pe_callTy (p := p2) call_int1 hg hm (by decide +kernel) ha (by decide +kernel) (by decide +kernel) he hpl)
theorem kSum (hg : Gl X "sum") (hm : X.mg "sum" = none) (hc : X.calm = true) (hK : X.K = g.K) (ha : PA X (e :: es) (rdA g E mas)) (he : starEach (e :: es) X.env = (false, eval e X.env) :: starEach es X.env := by rfl) (hpl : (backTo pos (starEach es X.env)).any (·.1) = false := by rfl) :
    PE X (.Call (.Name "sum" p2) (e :: es) [] pos) (rdE g E (eOpN oSum mas)) := xCB sSum (by have z := pe_callB (p := p2) (cr_sum hc) hg hm (by decide +kernel) ha (by decide +kernel) (by decide +kernel) he hpl; rw [hK] at z; exact z)
theorem kMaxL (hg : Gl X "max") (hm : X.mg "max" = none) (hc : X.calm = true) (hK : X.K = g.K) (ha : PA X (e :: es) (rdA g E mas)) (he : starEach (e :: es) X.env = (false, eval e X.env) :: starEach es X.env := by rfl) (hpl : (backTo pos (starEach es X.env)).any (·.1) = false := by rfl) :
    PE X (.Call (.Name "max" p2) (e :: es) [] pos) (rdE g E (eOpN oMaxL mas)) := xCB sMaxL (by have z := pe_callB (p := p2) (cr_max hc) hg hm (by decide +kernel) ha (by decide +kernel) (by decide +kernel) he hpl; rw [hK] at z; exact z)
theorem kMinL (hg : Gl X "min") (hm : X.mg "min" = none) (hc : X.calm = true) (hK : X.K = g.K) (ha : PA X (e :: es) (rdA g E mas)) (he : starEach (e :: es) X.env = (false, eval e X.env) :: starEach es X.env := by rfl) (hpl : (backTo pos (starEach es X.env)).any (·.1) = false := by rfl) :
    PE X (.Call (.Name "min" p2) (e :: es) [] pos) (rdE g E (eOpN oMinL mas)) := xCB sMinL (by have z := pe_callB (p := p2) (cr_min hc) hg hm (by decide +kernel) ha (by decide +kernel) (by decide +kernel) he hpl; rw [hK] at z; exact z)
theorem kList (hg : Gl X "list") (hm : X.mg "list" = none) (hK : X.K = g.K) (ha : PA X (e :: es) (rdA g E mas)) (he : starEach (e :: es) X.env = (false, eval e X.env) :: starEach es X.env := by rfl) (hpl : (backTo pos (starEach es X.env)).any (·.1) = false := by rfl) :
    PE X (.Call (.Name "list" p2) (e :: es) [] pos) (rdN g E (nOpN nList mas)) := yCB sList (by have z := pe_callTy (p := p2) call_list_of hg hm (by decide +kernel) ha (by decide +kernel) (by decide +kernel) he hpl; rw [hK] at z; exact z)
theorem kTuple (hg : Gl X "tuple") (hm : X.mg "tuple" = none) (hK : X.K = g.K) (ha : PA X (e :: es) (rdA g E mas)) (he : starEach (e :: es) X.env = (false, eval e X.env) :: starEach es X.env := by rfl) (hpl : (backTo pos (starEach es X.env)).any (·.1) = false := by rfl) :
    PE X (.Call (.Name "tuple" p2) (e :: es) [] pos) (rdE g E (eOpN oTuple mas)) := xCB sTuple (by have z := pe_callTy (p := p2) call_tuple_of hg hm (by decide +kernel) ha (by decide +kernel) (by decide +kernel) he hpl; rw [hK] at z; exact z)
theorem kDict (hg : Gl X "dict") (hm : X.mg "dict" = none) (hc : X.calm = true) (hK : X.K = g.K) (ha : PA X (e :: es) (rdA g E mas)) (he : starEach (e :: es) X.env = (false, eval e X.env) :: starEach es X.env := by rfl) (hpl : (backTo pos (starEach es X.env)).any (·.1) = false := by rfl) :
    PE X (.Call (.Name "dict" p2) (e :: es) [] pos) (rdN g E (nOpN nDict mas)) := yCB sDict (by have z := pe_callTy (p := p2) (call_dictP hc) hg hm (by decide +kernel) ha (by decide +kernel) (by decide +kernel) he hpl; rw [hK] at z; exact z)
theorem kSorted (hg : Gl X "sorted") (hm : X.mg "sorted" = none) (hc : X.calm = true) (hK : X.K = g.K) (ha : PA X (e :: es) (rdA g E mas)) (he : starEach (e :: es) X.env = (false, eval e X.env) :: starEach es X.env := by rfl) (hpl : (backTo pos (starEach es X.env)).any (·.1) = false := by rfl) :
    PE X (.Call (.Name "sorted" p2) (e :: es) [] pos) (rdN g E (nOpN nSorted mas)) := yCB sSorted (by have z := pe_callB (p := p2) (cr_sortAll hc) hg hm (by decide +kernel) ha (by decide +kernel) (by decide +kernel) he hpl; rw [hK] at z; exact z)
end
end Mir
/-! E14: calls of the program's own, fields, dicts, walks, as a printed walk names them. -/
namespace Mir
open PySem PySem.Spec PyProof.Rows L2
/-- a def with no defaults, ready to be called -/
structure DefOk (P : Program) (w : World) (K : PySem.W.Frag) (mg : Str → Option Value) (base : Heap) (g : G) (k : Nat) (f : Addr) (ps : List Str) (fm : FM) : Prop where
  ex : ∃ fd, FnOk P w K mg base (L2.CX P w) k f fd ps (spOf g ps.length fm) ∧ Binds K fd ps []
  kp : PySem.W.keepIn K (.ref f) = true
structure InitOk (P : Program) (w : World) (K : PySem.W.Frag) (mg : Str → Option Value) (base : Heap) (g : G) (ci k : Nat) (f : Addr) (ps : List Str) (fm : XM) : Prop where
  ex : ∃ fd, FnOk P w K mg base (L2.CX P w) k f fd ps (spInit g ci ps.length fm) ∧ Binds K fd ps []
/-- a class of the program's own -/
structure ClsOk (g : G) (ci : Nat) (C : Addr) (ns : List Str) : Prop where
  cl : Cls g.K C
  hc : g.ci ci = some (C, ns)
  nd : ns.Nodup
  sm : ns.length < 1000
  na : ∀ f ∈ ns, NoAttr g.K C f
/-- an error of the program's own -/
structure ExcOk (g : G) (mg : Str → Option Value) (k : Nat) (x : Str) (C : Addr) : Prop where
  hx : g.ex k = some C
  gC : mg x = some (.ref C)
  q : PySem.W.excIn g.K C He.veBase "ValueError.__new__" = true ∧ PySem.W.keepIn g.K (.ref C) = true ∧ PySem.W.subIn g.K (.ref C) (.type "BaseException") = some true ∧ PySem.W.typeIn g.K (.ref C) = some (.type "type")
section
variable {X : Cx} {g : G} {E : XK} {B : Bs} {pos p2 p3 apos : Pos} {a b c e f o : Expr} {ma mb mc : EM} {es : List Expr} {mas : AM} {sa : Stmt} {k k0 n : Nat} {fa C : Addr} {ps ns : List Str} {fm : FM} {xm : XM} {x m : Str} {ci j : Nat}
theorem gCall (D : DefOk X.prog X.w X.K X.mg X.base g k0 fa ps fm) (hr : Room k X.A) (hk : k0 ≤ k) (hg : Gl X x) (hm : X.mg x = some (.ref fa)) (hx : Passes (L2.CX X.prog X.w) X E) (ha : PA X (e :: es) (rdA g E mas)) (hl : AM.len mas ps.length) (hdb : (x == ("__debug__" : Str)) = false := by decide +kernel)
    (he : starEach (e :: es) X.env = (false, eval e X.env) :: starEach es X.env := by rfl) (hpl : (backTo pos (starEach es X.env)).any (·.1) = false := by rfl) : PE X (.Call (.Name x p2) (e :: es) [] pos) (rdE g E (eCall fm mas)) := by
  obtain ⟨fd, F, hb⟩ := D.ex
  exact xCallN (pe_call (p := p2) F (hr.mono hk) hg hm D.kp hb .nil hx ha hdb he hpl) hl
theorem gCall0 (D : DefOk X.prog X.w X.K X.mg X.base g k0 fa [] fm) (hr : Room k X.A) (hk : k0 ≤ k) (hg : Gl X x) (hm : X.mg x = some (.ref fa)) (hx : Passes (L2.CX X.prog X.w) X E) (hdb : (x == ("__debug__" : Str)) = false := by decide +kernel) :
    PE X (.Call (.Name x p2) [] [] pos) (rdE g E (eCall fm aNil)) := by
  obtain ⟨fd, F, hb⟩ := D.ex
  exact xCallN (tCall_nil (pe_call0 (p := p2) F (hr.mono hk) hg hm D.kp hb .nil hx hdb)) len0
theorem gMeth {pl : Sem Bool} (Q : ClsOk g ci C ns) (hK : X.K = g.K) (hM : Meth g.K C m fa) (D : DefOk X.prog X.w X.K X.mg X.base g k0 fa ps fm) (hn : m ∉ ns) (hr : Room k X.A) (hk : k0 ≤ k) (hx : Passes (L2.CX X.prog X.w) X E) (ho : PE X o (rdE g E ma)) (ha : PA X (e :: es) (rdA g E mas)) (hl : AM.len mas n) (hps : n + 1 = ps.length)
    (hst : starEach (e :: es) X.env = (false, eval e X.env) :: starEach es X.env := by rfl) (hpl : (backTo pos (starEach es X.env)).any (·.1) = false := by rfl)
    (ht : eval (.Call (.Attribute o m apos) (e :: es) [] pos) X.env = (do
      let ov ← eval o X.env; standAt apos.atName; let (f, first) ← holding [ov] (getMethod ov m pl); callWith pos f first (backTo pos (starEach (e :: es) X.env)) (backToKw pos (keywordEach [] X.env))) := by rfl) :
    PE X (.Call (.Attribute o m apos) (e :: es) [] pos) (rdE g E (eMeth ci fm ma mas)) := by
  obtain ⟨fd, F, hb⟩ := D.ex
  exact xMethN Q.hc hn (pe_meth ho (hK ▸ Q.cl) (hK ▸ hM) F (hr.mono hk) hb .nil hx ha hst hpl ht) hl hps
theorem gMeth0 {pl : Sem Bool} (Q : ClsOk g ci C ns) (hK : X.K = g.K) (hM : Meth g.K C m fa) (D : DefOk X.prog X.w X.K X.mg X.base g k0 fa ps fm) (hn : m ∉ ns) (hr : Room k X.A) (hk : k0 ≤ k) (hx : Passes (L2.CX X.prog X.w) X E) (ho : PE X o (rdE g E ma)) (hps : 1 = ps.length)
    (ht : eval (.Call (.Attribute o m apos) [] [] pos) X.env = (do
      let ov ← eval o X.env; standAt apos.atName; let (f, first) ← holding [ov] (getMethod ov m pl); callWith pos f first (backTo pos (starEach [] X.env)) (backToKw pos (keywordEach [] X.env))) := by rfl) :
    PE X (.Call (.Attribute o m apos) [] [] pos) (rdE g E (eMeth ci fm ma aNil)) := by
  obtain ⟨fd, F, hb⟩ := D.ex
  exact xMethN Q.hc hn (tMeth_nil (pe_meth0 ho (hK ▸ Q.cl) (hK ▸ hM) F (hr.mono hk) hb .nil hx ht) rdE_mono) len0 hps
theorem gMake (Q : ClsOk g ci C ns) (hK : X.K = g.K) (hM : Mk g.K C fa) (D : InitOk X.prog X.w X.K X.mg X.base g ci k0 fa ps xm) (hr : Room k X.A) (hk : k0 + 1 ≤ k) (hg : Gl X x) (hm : X.mg x = some (.ref C)) (hx : Passes (L2.CX X.prog X.w) X E) (ha : PA X (e :: es) (rdA g E mas)) (hl : AM.len mas n) (hps : n + 1 = ps.length) (hdb : (x == ("__debug__" : Str)) = false := by decide +kernel)
    (he : starEach (e :: es) X.env = (false, eval e X.env) :: starEach es X.env := by rfl) (hpl : (backTo pos (starEach es X.env)).any (·.1) = false := by rfl) : PE X (.Call (.Name x p2) (e :: es) [] pos) (rdN g E (nMake ci xm mas)) := by
  obtain ⟨fd, F, hb⟩ := D.ex
  exact yMake Q.hc (pe_make (p := p2) (hK ▸ hM) F (hr.mono hk) hg hm hb .nil hx ha hdb he hpl) hl hps
theorem gMake0 (Q : ClsOk g ci C ns) (hK : X.K = g.K) (hM : Mk g.K C fa) (D : InitOk X.prog X.w X.K X.mg X.base g ci k0 fa ps xm) (hr : Room k X.A) (hk : k0 + 1 ≤ k) (hg : Gl X x) (hm : X.mg x = some (.ref C)) (hx : Passes (L2.CX X.prog X.w) X E) (hps : 1 = ps.length) (hdb : (x == ("__debug__" : Str)) = false := by decide +kernel) :
    PE X (.Call (.Name x p2) [] [] pos) (rdN g E (nMake ci xm aNil)) := by
  obtain ⟨fd, F, hb⟩ := D.ex
  exact yMake Q.hc (tMake_nil (pe_make0 (p := p2) (hK ▸ hM) F (hr.mono hk) hg hm hb .nil hx hdb)) len0 hps
theorem gFld (Q : ClsOk g ci C ns) (hK : X.K = g.K) (hj : ns[j]? = some m) (ho : PE X o (rdE g E ma)) (hb : attributeBase o m X.env (eval o X.env) = eval o X.env := by rfl) : PE X (.Attribute o m pos) (rdE g E (eFld ci j ma)) :=
  xFld hK Q.hc Q.nd hj Q.cl (Q.na _ (List.mem_of_getElem? hj)) (pe_fld ho hb)
theorem gSetFldV {i : Nat} (Q : ClsOk g ci C ns) (hK : X.K = g.K) (hj : ns[j]? = some m) (hv : PE X o (tVar i)) (he : PE X e (rdE g E ma)) (hs : swapsWith e (some (.Attribute o m p2)) pos.line X.env = pure false := by rfl) : PS X (.Assign [.Attribute o m p2] e pos) (rdS g E B (sFldV ci i j ma)) :=
  qFldV hK Q.hc Q.nd hj Q.sm Q.cl (Q.na _ (List.mem_of_getElem? hj)) (ps_fld hv he hs)
theorem gSetFldC (Q : ClsOk g ci C ns) (hK : X.K = g.K) (hj : ns[j]? = some m) (ho : PE X o (rdE g E mb)) (he : PE X e (rdE g E ma)) (hs : swapsWith e (some (.Attribute o m p2)) pos.line X.env = pure false := by rfl) : PS X (.Assign [.Attribute o m p2] e pos) (rdS g E B (sFldC ci j mb ma)) :=
  qFldC hK Q.hc Q.nd hj Q.sm Q.cl (Q.na _ (List.mem_of_getElem? hj)) (ps_fld ho he hs)
theorem gRaise {q : Nat} {t : Str} (R : ExcOk g X.mg q x C) (hK : X.K = g.K) (hc : X.calm = true) (tk : Takes X (fun cls d _ H => E cls d H)) (hg : Gl X x) (hdb : (x == ("__debug__" : Str)) = false := by decide +kernel) : PS X (.Raise (some (.Call (.Name x p2) [.Constant (.str t) j p3] [] pos)) none apos) (rdS g E B (sRaise q)) := by
  obtain ⟨q1, q2, q3, q4⟩ := R.q
  rw [← hK] at q1 q2 q3 q4
  exact qRaise R.hx (ps_raise hc tk (pmk_own PySem.F.excBase_ValueError q1 R.gC q2 (raises_own q3 q4) hg hdb))
/-! ### dicts -/
theorem gGet1 (hr : Room k X.A) (ho : PE X o (rdE g E ma)) (he : PE X e (rdE g E mb)) (m : M1 X o "get" apos e pos) : PE X (.Call (.Attribute o "get" apos) [e] [] pos) (rdE g E (eGet1 ma mb)) := xGet1 (pe_dget1 (ru1 hr) ho he m)
theorem gGet2 (hr : Room k X.A) (ho : PE X o (rdE g E ma)) (he : PE X e (rdE g E mb)) (hf : PE X f (rdE g E mc)) (m : M2 X o "get" apos e f pos) : PE X (.Call (.Attribute o "get" apos) [e, f] [] pos) (rdE g E (eGet2 ma mb mc)) := xGet2 (pe_dget2 (ru1 hr) ho he hf m)
theorem gSetd {nm : NM} (ho : PE X o (rdE g E ma)) (he : PE X e (rdE g E mb)) (hf : PE X f (rdN g E nm)) (m : M2 X o "setdefault" apos e f pos) : PE X (.Call (.Attribute o "setdefault" apos) [e, f] [] pos) (rdE g E (eSetDN ma mb nm)) := xSetDN (pe_dsetd ho he hf m)
theorem gSub (hr : Room k X.A) (hK : X.K = g.K) (ha : PE X a (rdE g E ma)) (hb : PE X b (rdE g E mb)) (hs : PlainIx b := by intro _ _; rfl) : PE X (.Subscript a b pos) (rdE g E (eOp2 oGet ma mb)) := xSub (ru1 hr) hK ha hb hs
theorem gPutDC (hr : Room k X.A) (ho : PE X o (rdE g E mb)) (hi : PE X a (rdE g E mc)) (he : PE X e (rdE g E ma)) (hs : swapsWith e (some (.Subscript o a p2)) pos.line X.env = pure false := by rfl) : PS X (.Assign [.Subscript o a p2] e pos) (rdS g E B (sPutDC mb mc ma)) := qPutDC (ps_dput (ru1 hr) ho hi he hs)
theorem gItems (hK : X.K = g.K) (hc : X.calm = true) (he : PE X e (rdE g E ma)) (hg : Gl X "list") (hm : X.mg "list" = none) (hbase : attributeBase e "items" X.env (eval e X.env) = eval e X.env := by rfl) (hline : (apos.endLine == p3.line) = true := by rfl)
    (hs : starEach [.Call (.Attribute e "items" apos) [] [] p3] X.env = (false, eval (.Call (.Attribute e "items" apos) [] [] p3) X.env) :: starEach [] X.env := by rfl) :
    PE X (.Call (.Name "list" p2) [.Call (.Attribute e "items" apos) [] [] p3] [] pos) (rdN g E (nItems ma)) := yItems (LiI.pe_listItems (p := p2) hc he hg hm (by decide +kernel) hbase hline hs)
/-! ### walks -/
variable {tg : Expr} {it : IM} {tgm : Tg} {tr : TG} {mt : TM} {elts : List Expr} {kk : Nat} {tpos : Pos}
theorem wE (hK : X.K = g.K) (ha : PE X e (rdE g E ma)) : PI X tg e (rdI g E (iE ma)) := piE hK ha
theorem aT1 (ha : PE X a (rdE g E ma)) (na : starEach [a] X.env = [(false, eval a X.env)] := by rfl) : PA X [a] (tCons (rdE g E ma) tNil) := pa_cons ha pa_nil na
theorem aT2 (ha : PE X a (rdE g E ma)) (hb : PE X b (rdE g E mb)) (na : starEach [a, b] X.env = (false, eval a X.env) :: starEach [b] X.env := by rfl) (nb : starEach [b] X.env = [(false, eval b X.env)] := by rfl) : PA X [a, b] (tCons (rdE g E ma) (tCons (rdE g E mb) tNil)) := pa_cons ha (pa_cons hb pa_nil nb) na
theorem wR1 (hg : Gl X "range") (hm : X.mg "range" = none) (ha : PE X a (rdE g E ma)) (hs : starEach [a] X.env = [(false, eval a X.env)] := by rfl) : PI X tg (.Call (.Name "range" p2) [a] [] pos) (rdI g E (Mir.iRng1 ma)) := piR1 (pi_range1 hg hm (aT1 ha hs) hs)
theorem wR2 (hg : Gl X "range") (hm : X.mg "range" = none) (ha : PE X a (rdE g E ma)) (hb : PE X b (rdE g E mb)) (hs : starEach [a, b] X.env = [(false, eval a X.env), (false, eval b X.env)] := by rfl) (hs1 : starEach [a, b] X.env = (false, eval a X.env) :: starEach [b] X.env := by rfl) (hs2 : starEach [b] X.env = [(false, eval b X.env)] := by rfl) :
    PI X tg (.Call (.Name "range" p2) [a, b] [] pos) (rdI g E (Mir.iRng2 ma mb)) := piR2 (pi_range2 hg hm (aT2 ha hb hs1 hs2) hs hs2)
theorem wEn (hK : X.K = g.K) (hg : Gl X "enumerate") (hm : X.mg "enumerate" = none) (ha : PE X a (rdE g E ma)) (hs : starEach [a] X.env = [(false, eval a X.env)] := by rfl) : PI X (.Tuple elts kk tpos) (.Call (.Name "enumerate" p2) [a] [] pos) (rdI g E (Mir.iEnum ma)) := piEn hK (piEnumA hg hm (aT1 ha hs) hs)
theorem wZip (hK : X.K = g.K) (hg : Gl X "zip") (hm : X.mg "zip" = none) (ha : PE X a (rdE g E ma)) (hb : PE X b (rdE g E mb)) (hs1 : starEach [a, b] X.env = (false, eval a X.env) :: starEach [b] X.env := by rfl) (hs2 : starEach [b] X.env = [(false, eval b X.env)] := by rfl) (hpl : (backTo pos (starEach [b] X.env)).any (·.1) = false := by rfl) :
    PI X (.Tuple elts kk tpos) (.Call (.Name "zip" p2) [a, b] [] pos) (rdI g E (Mir.iZip ma mb)) := piZip hK (RZ.pi_zipA hg hm (aT2 ha hb hs1 hs2) hs1 hpl)
/-! ### comprehensions -/
variable {E' : XK} {elt iter c0 : Expr} {scope : Scope} {own : List (Str × Nat)}
theorem yLc0 (hc : X.calm = true) (hN : X.N.Nodup) (hi : PI X tg iter (rdI g E it)) (ok : BlkOk X.N X.env.scope scope own) (hv : ∀ i ∈ tgm.slots, i ∈ own.map (·.2)) (hT : TgS g tr tgm)
    (hg : ∀ (s : Shared) (H : Hp) (C : Addr) (cl : List (Str × Addr)) (fp : List Addr), PG (X.blk s H scope (compEnvC scope cl C X.env) fp) tg tr)
    (he : ∀ (s : Shared) (H : Hp) (C : Addr) (cl : List (Str × Addr)) (fp : List Addr), PE (X.blk s H scope (compEnvC scope cl C X.env) fp) elt (rdE g E' ma)) (hs : ∀ x, foldedSetIterable iter X.env x = pure x := by intro _; rfl) :
    PE X (.ListComp elt [⟨tg, iter, [], 0⟩] scope pos) (rdN g E (nLc it tgm Mir.tYes ma (own.map (·.2)))) := yLc (E' := E') (tt := L2.tYes) hv hT (fun s H Q h => by
      obtain ⟨r, st, F, mu, re, h⟩ := h
      exact h true H F mu (.refl _ _ _) re rfl) (pe_lc hc hN hi ok hg (fun _ _ _ _ _ => pts_nil) he hs)
theorem yLc1 (hc : X.calm = true) (hN : X.N.Nodup) (hi : PI X tg iter (rdI g E it)) (ok : BlkOk X.N X.env.scope scope own) (hv : ∀ i ∈ tgm.slots, i ∈ own.map (·.2)) (hT : TgS g tr tgm)
    (hg : ∀ (s : Shared) (H : Hp) (C : Addr) (cl : List (Str × Addr)) (fp : List Addr), PG (X.blk s H scope (compEnvC scope cl C X.env) fp) tg tr)
    (ht : ∀ (s : Shared) (H : Hp) (C : Addr) (cl : List (Str × Addr)) (fp : List Addr), PT (X.blk s H scope (compEnvC scope cl C X.env) fp) c0 (rdT g E' mt))
    (he : ∀ (s : Shared) (H : Hp) (C : Addr) (cl : List (Str × Addr)) (fp : List Addr), PE (X.blk s H scope (compEnvC scope cl C X.env) fp) elt (rdE g E' ma)) (hs : ∀ x, foldedSetIterable iter X.env x = pure x := by intro _; rfl) :
    PE X (.ListComp elt [⟨tg, iter, [c0], 0⟩] scope pos) (rdN g E (nLc it tgm mt ma (own.map (·.2)))) := yLc (E' := E') hv hT (fun s H Q h => h) (pe_lc hc hN hi ok hg (fun s H C cl fp => pts_one (ht s H C cl fp)) he hs)
/-! ### name = [..] on one line -/
theorem qSetG {i : Nat} (h : PS X sa (tAsg (rdE g E ma) (gName i))) : PS X sa (rdS g E B (sSet i ma)) := PS.imp h fun D s H h => by
  obtain ⟨r, st, F, mu, rb, h⟩ := h
  refine ⟨r, st, F, mu, rb.re, sbind rb h fun y st' v H' F' mu' _ e rb' rp h' => ?_⟩
  cases y with
  | bor c => exact h'.elim
  | val d =>
    dsimp only at h'
    by_cases hl : i < r.length
    · rw [if_pos hl] at h'
      exact h' _ H' F' mu' (rb'.setV rp hl) (.refl _ _)
    · rw [if_neg hl] at h'
      exact h'.elim
theorem qSetLc0 {i : Nat} {y : Str} (hc : X.calm = true) (hN : X.N.Nodup) (hy : X.N[i]? = some y) (hyl : X.env.scope.names.lookup y = some .local) (hsw : swapsWith (.ListComp elt [⟨tg, iter, [], 0⟩] scope pos) (some (.Name y p2)) p3.line X.env = pure true)
    (hi : PI X tg iter (rdI g E it)) (ok : BlkOk X.N X.env.scope scope own) (hv : ∀ i ∈ tgm.slots, i ∈ own.map (·.2)) (hT : TgS g tr tgm)
    (hg : ∀ (s : Shared) (H : Hp) (C : Addr) (cl : List (Str × Addr)) (fp : List Addr), PG (X.blk s H scope (compEnvC scope cl C X.env) fp) tg tr)
    (he : ∀ (s : Shared) (H : Hp) (C : Addr) (cl : List (Str × Addr)) (fp : List Addr), PE (X.blk s H scope (compEnvC scope cl C X.env) fp) elt (rdE g E' ma)) (hs : ∀ x, foldedSetIterable iter X.env x = pure x := by intro _; rfl) :
    PS X (.Assign [.Name y p2] (.ListComp elt [⟨tg, iter, [], 0⟩] scope pos) p3) (rdS g E B (sSet i (eFrz (nLc it tgm Mir.tYes ma (own.map (·.2)))))) :=
  qSetG (PS.imp (ps_setLc hc hN hy hyl hsw hi ok hg (fun _ _ _ _ _ => pts_nil) he hs) fun D s H h => yLcT (E' := E') (tt := L2.tYes) hv hT (fun s H Q h => by
      obtain ⟨r, st, F, mu, re, h⟩ := h
      exact h true H F mu (.refl _ _ _) re rfl) _ _ _ (xFrzT _ _ _ h))
end
end Mir
/-! E15: statements as a printed walk names them; told(lambda: e). -/
namespace Mir
open PySem PySem.Spec PyProof.Rows L2
section
variable {X : Cx} {g : G} {E : XK} {B : Bs} {pos p2 p3 apos : Pos} {a b c e f o : Expr} {ma mb mc : EM} {es : List Expr} {mas : AM} {sa : Stmt} {k k0 n i j : Nat} {x y m : Str}
theorem gAppV (hv : PE X o (tVar i)) (ha : PE X a (rdE g E ma)) (hbase : attributeBase o "append" X.env (eval o X.env) = eval o X.env := by rfl)
    (hfew : ((backTo pos (starEach [a] X.env)).all (fun x => !x.1) && (backToKw pos (keywordEach [] X.env)).all (fun x => x.1.isSome) && decide (([a] : List Expr).length + ([] : List Keyword).length + (if ([] : List Keyword).isEmpty then 0 else 1) < 30)) = true := by rfl)
    (hline : (apos.endLine == pos.line) = true := by rfl) (hs : starEach [a] X.env = (false, eval a X.env) :: starEach [] X.env := by rfl) (hplain : (backTo pos (starEach [] X.env)).any (·.1) = false := by rfl) (hw : swapsWith (.Call (.Attribute o "append" apos) [a] [] pos) none p3.line X.env = pure false := by rfl) :
    PS X (.Expr (.Call (.Attribute o "append" apos) [a] [] pos) p3) (rdS g E B (sAppV i ma)) :=
  qAppV (he := pa_cons ha pa_nil hs) (ps_expr (pe_bm PySem.F.plainAttrs_list PySem.F.slot_list_append PySem.F.type_list_append mt_append hv (pa_cons ha pa_nil hs) hbase hfew hline hs hplain) hw)
theorem gAppC (hv : PE X o (rdE g E mb)) (ha : PE X a (rdE g E ma)) (hbase : attributeBase o "append" X.env (eval o X.env) = eval o X.env := by rfl)
    (hfew : ((backTo pos (starEach [a] X.env)).all (fun x => !x.1) && (backToKw pos (keywordEach [] X.env)).all (fun x => x.1.isSome) && decide (([a] : List Expr).length + ([] : List Keyword).length + (if ([] : List Keyword).isEmpty then 0 else 1) < 30)) = true := by rfl)
    (hline : (apos.endLine == pos.line) = true := by rfl) (hs : starEach [a] X.env = (false, eval a X.env) :: starEach [] X.env := by rfl) (hplain : (backTo pos (starEach [] X.env)).any (·.1) = false := by rfl) (hw : swapsWith (.Call (.Attribute o "append" apos) [a] [] pos) none p3.line X.env = pure false := by rfl) :
    PS X (.Expr (.Call (.Attribute o "append" apos) [a] [] pos) p3) (rdS g E B (sAppC mb ma)) :=
  qAppC (ps_expr (pe_bm PySem.F.plainAttrs_list PySem.F.slot_list_append PySem.F.type_list_append mt_append hv (pa_cons ha pa_nil hs) hbase hfew hline hs hplain) hw)
theorem gAug {op : Operator} {ti : TIp} {f : Op2} (ho : PIp X op ti) (hs : OpS g ti f) (hN : X.N.Nodup) (hi : X.N[i]? = some x) (hx : Loc X.env.scope x) (he : PE X e (rdE g E ma)) (hf : X.fn x = true ∨ X.env.scope.names.lookup x = some .local := by first | exact .inl rfl | exact .inr rfl | assumption) :
    PS X (.AugAssign (.Name x p2) op e pos) (rdS g E B (sAug i f ma)) := qAug (x := x) (p2 := p2) (op := op) hs (ps_aug hN hi hx he ho hf)
theorem iAdd : PIp X .Add (fun x y H Q => (∃ i j, x = V.int i ∧ y = V.int j ∧ Q (V.int (i + j)) H) ∨ (∃ i j, x = V.str i ∧ y = V.str j ∧ i.length + j.length ≤ sizeLine ∧ Q (V.str (i ++ j)) H)) := iop_add.or iop_add_str
theorem iMul : PIp X .Mult (rI CMul fun i j => .int (i * j)) := iop_mul
theorem iSub : PIp X .Sub (rI0 fun i j => .int (i - j)) := iop_sub
theorem gPar {px py pt pt2 : Pos} {kt k2 : Nat} {u v : Src} (hc : X.calm = true) (hN : X.N.Nodup) (hi : X.N[i]? = some x) (hj : X.N[j]? = some y) (hij : i ≠ j) (hx : X.env.scope.names.lookup x = some .local) (hy : X.env.scope.names.lookup y = some .local) (ha : PE X a (rdSrc g E u)) (hb : PE X b (rdSrc g E v))
    (na : starEach [a, b] X.env = (false, eval a X.env) :: starEach [b] X.env := by rfl) (nb : starEach [b] X.env = [(false, eval b X.env)] := by rfl) (hw : swappedStores [.Tuple [.Name x px, .Name y py] kt pt] (.Tuple [a, b] k2 pt2) X.env = pure (some [x, y]) := by rfl)
    (hs : swapsWithSole [.Tuple [.Name x px, .Name y py] kt pt] (.Tuple [a, b] k2 pt2) pos.line X.env = pure false := by rfl) :
    PS X (.Assign [.Tuple [.Name x px, .Name y py] kt pt] (.Tuple [a, b] k2 pt2) pos) (rdS g E B (sPar i j u v)) := qPar hij (ps_par hc hN hi hj hij hx hy (pa_cons ha (pa_cons hb pa_nil nb) na) hw hs)
theorem gUnp {tg : Tg} {tr : TG} {tgt : Expr} (he : PE X e (rdE g E ma)) (hg : PG X tgt tr) (hT : TgS g tr tg) (hs : swapsWithSole [tgt] e pos.line X.env = pure false := by rfl) (hw : swappedStores [tgt] e X.env = pure none := by rfl) (h1 : (assignEach [tgt] X.env).map (·.2) = [assign tgt X.env] := by rfl) : PS X (.Assign [tgt] e pos) (rdS g E B (sUnp tg ma)) := qUnp he hg hT (ps_asg he hg (hs := hs) (hw := hw) (h1 := h1))
/-- told(lambda: e) -/
theorem gTold {E : XK} {a e : Str} {gA CS c P : Addr} {fd : FuncData} {pg : Arguments} {sg : Scope} {ret : Tx} {ret' : Str} {er : List Nat} {q1 q2 q3 q4 q5 q6 q7 q8 : Pos} {Ng : List Str} {params : Arguments} {body : Expr} {scope : Scope} {lpos : Pos}
    (F : FunD X.K x x pg [.Try [.Return (some (.Call (.Name a q1) [] [] q2)) q3] [.ExceptHandler (some (.Name e q4)) none [.Return (some (.Constant (.str ret') j q5)) q6] q7] [] [] q8] sg [] [] gA fd) (hret : ret' = toS ret) (hb : Binds X.K fd [a] []) (Sg : FnScope Ng [a] sg) (hNg : Ng[0]? = some a) (hva : Vis sg a)
    (hge : sg.names.lookup e = some .globalImplicit) (hme : X.mg e = some (.ref CS)) (h0 : ∀ f : Addr, (L2.start Ng [V.ref f])[0]? = some (some (V.ref f))) (hK : X.K = g.K) (hx : Caught g CS er)
    (hg : Gl X x) (hm : X.mg x = some (.ref gA)) (TB : LamX.TabB X.base X.mg c P) (hcode : X.env.code = .ref c) (hmT : (P, X.env.qual ++ "<lambda>") ∈ g.tb) (hu : ∀ p ∈ g.tb, p.1 = P → p.2 = X.env.qual ++ "<lambda>") (hr : Room (k + 2) X.A) (L : LamX.LamS X.env.scope scope) (hdef : defaultsOf params X.env = ([], []))
    (hbind : ∀ (q : Str) (cl : List (Str × Addr)) (pm cv ctv : Value), bindArgs (PySem.W.kla_fn "<lambda>" q params body scope cl pm cv ctv) ⟨[], []⟩ = pure [])
    (hbody : ∀ (A : Around) (outer : List PySem.Env) (s : Shared) (H : Hp) (E : XK) (f c' : Addr), Room k (A.deeper (LamX.lamEnv X scope s.heap.objs.size f c')) → PE (LamX.lamCx X A outer s H E scope f c') body (rdE g E ma))
    (hdb : (x == ("__debug__" : Str)) = false := by decide +kernel) (hd : (a == ("__debug__" : Str)) = false := by decide +kernel) (hcd : (a == ("__classdict__" : Str)) = false := by decide +kernel) (hde : (e == ("__debug__" : Str)) = false := by decide +kernel) :
    PE X (.Call (.Name x p2) [.Lambda params body scope lpos] [] pos) (rdE g E (eTold er ret ma)) := by
  obtain ⟨oc, od, dV, kV, doc, pm, an, cdv, ct, osl, rfl, lk, hcg, _, _⟩ := F.ex
  subst hret
  refine xTold hx ?_
  rw [← hK]
  exact LamX.pe_lamcall (p := p2) (T := g.tb) (TT := LamX.TTold X.K CS (toS ret)) (t := fun E => rdE g E ma) hg hm F.kp lk hcg hb Sg hNg hva (LamX.told_gives hge hme hde h0) TB hcode hmT hu hr L hdef hbind hbody hdb hd hcd
theorem aK (ha : PE X a (rdE g E ma)) (hr : PA X es (rdA g E mas)) (na : starEach (a :: es) X.env = (false, eval a X.env) :: starEach es X.env := by rfl) : PA X (a :: es) (rdA g E (aCons ma mas)) := aC ha hr (pa_cons ha hr na)
theorem gInt {z : Int} (h : ∃ t, X.mg x = some (.int z t)) (hg : Gl X x) (hdb : (x == ("__debug__" : Str)) = false := by decide +kernel) : PE X (.Name x pos) (rdE g E (eC (.int z))) := by
  obtain ⟨t, h⟩ := h
  exact dConst (pe_glob (v := .int z) hg h ⟨t, rfl⟩ hdb) fun _ _ => by simp only [RepV]
theorem gPutL (hK : X.K = g.K) (ho : PE X o (rdE g E mb)) (hi : PE X a (rdE g E mc)) (he : PE X e (rdE g E ma)) (hs : swapsWithSole [.Subscript o a p2] e pos.line X.env = pure false := by rfl) (hw : swappedStores [.Subscript o a p2] e X.env = pure none := by rfl) (h1 : (assignEach [.Subscript o a p2] X.env).map (·.2) = [assign (.Subscript o a p2) X.env] := by rfl)
    (hv : ∀ v, assign (.Subscript o a p2) X.env v = (do
      let ov ← holding [v] (eval o X.env); let iv ← holding [v, ov] (eval a X.env); standAt p2; holding [v, ov, iv] (setItem ov iv v); release [v, ov, iv] []) := by intro _; rfl) : PS X (.Assign [.Subscript o a p2] e pos) (rdS g E B (sPutL mb mc ma)) :=
  qPutL (ps_asg he (pg_sub ho hi set_list hv) (hs := hs) (hw := hw) (h1 := h1))
theorem gPutDV (hr : Room k X.A) (hv : PE X o (tVar i)) (hi : PE X a (rdE g E mc)) (he : PE X e (rdE g E ma)) (hs : swapsWith e (some (.Subscript o a p2)) pos.line X.env = pure false := by rfl) : PS X (.Assign [.Subscript o a p2] e pos) (rdS g E B (sPutDV i mc ma)) := qPutDV (ps_dput (ru1 hr) hv hi he hs)
theorem cLeLt (ha : PE X a (rdE g E ma)) (hb : PE X b (rdE g E mb)) (hc : PE X c (rdE g E mc)) (hm : lastMarks [.LtE, .Lt] [b, c] = false := by with_unfolding_all rfl) : PE X (.Compare a [.LtE, .Lt] [b, c] pos) (rdE g E (eChain oLe oLt ma mb mc)) := dChain op_le sLe op_lt sLt ha hb hc (pe_chain op_le op_lt ha hb hc hm)
theorem tLeLt (ha : PE X a (rdE g E ma)) (hb : PE X b (rdE g E mb)) (hc : PE X c (rdE g E mc)) (hm : lastMarks [.LtE, .Lt] [b, c] = false := by with_unfolding_all rfl) : PT X (.Compare a [.LtE, .Lt] [b, c] pos) (rdT g E (tE (eChain oLe oLt ma mb mc))) := dTchain op_le sLe op_lt sLt ha hb hc (pt_chain op_le op_lt ha hb hc hm)
end
end Mir
/-! E16: lambdas kept in a list. -/
namespace Mir
open PySem PySem.Spec PyProof.Rows L2
/-- the one object at f is o -/
def FnO (f : Addr) (o : Obj) : HO := .ext fun h => h.get? f = some o
theorem fnO_ok {P : Program} {w : World} {H : Hp} {h : Heap} {f : Addr} {o : Obj} (e : h.get? f = some o) : ObjOk P w H h f (FnO f o) := ⟨e, ⟨o, e⟩, fun _ _ a k => k o a⟩
abbrev lamO (X : Cx) (params : Arguments) (body : Expr) (scope : Scope) (pm : Value) (c' : Addr) (ctv : Value) : Obj := PySem.W.kla_obj "<lambda>" (X.env.qual ++ "<lambda>") params body scope (cloFrom X.env.cells scope.names []) pm c' ctv
section
variable {X : Cx} {pins : List (Addr × Obj)} {σ : L2.St} {H : Hp} {s : Shared} {T : List (Addr × Str)} {c tp : Addr} {params : Arguments} {body : Expr} {scope : Scope} {pos : Pos}
/-- a lambda is made, its object known from now on -/
theorem lamNew {E Q : Value → Shared → Prop} (I : Inv X pins σ H s) (B0 : LamX.TabB X.base X.mg c tp) (ec : X.env.code = .ref c) (eT : (tp, X.env.qual ++ "<lambda>") ∈ T) (oneT : ∀ p ∈ T, p.1 = tp → p.2 = X.env.qual ++ "<lambda>")
    (tabs : LamX.Tabs T H) (nodef : defaultsOf params X.env = ([], [])) (caps : ∀ y ∈ scope.names, y.2 = .free → ∃ z, X.env.cells.lookup y.1 = some z)
    (goal : ∀ (f c' : Addr) (pm ctv : Value) (H1 : Hp) (s1 : Shared), Inv X pins σ (upd H1 f (FnO f (lamO X params body scope pm c' ctv))) s1 → LamX.ExtN H H1 → LamX.Tabs T H1 → H1 f = none → f ∉ frs X.stack → H1 c' = some (LamX.CodeO c' (X.env.qual ++ "<lambda>")) → Q (.ref f) s1) :
    wpAny (model X.prog X.w) X.A (eval (.Lambda params body scope pos) X.env) Q E s := by
  obtain ⟨tb, at_, tok, among⟩ := tabs _ eT
  have bi := B0.bm.keeps I.bk
  have raw : s.heap.get? tp = some { cls := .none, data := .fields tb } := I.hok tp _ at_
  have nofr : ∀ f, s.heap.objs.size ≤ f → f ∉ frs X.stack := fun f big z => (List.mem_cons.mp (I.stkSub _ z)).elim
    (fun e => Nat.lt_irrefl _ (Nat.lt_of_lt_of_le (e ▸ I.lt) big)) (I.nofs big)
  refine PySem.W.kla_eval nodef ?_
  cases look : codeAmong pos tb.toList with
  | some cv =>
    obtain ⟨c', rfl, isC⟩ := among pos cv look
    refine PySem.W.kla_makeFunctionHit (mg := X.mg) (c := c) (P := tp) (ps := tb) (closure_ok caps) I.ok.glob (I.mod.glob.keeps I.bk) ec (B0.code.keeps I.bk) raw tok look bi fun ctv h' tk old big => ?_
    have J : Inv X pins σ H { s with heap := h' } := I.kept (t' := s.toks) old
    have nf : H h'.objs.size = none := J.hok.fresh (Nat.le_refl _)
    exact goal _ c' _ ctv H _ (J.laid (t' := tk) (h' := h'.push _) (fun _ _ e => Heap.get?_push_of_some _ e) (Nat.le_refl _) (fnO_ok (Heap.get?_push_size _ rfl))) (.refl H) tabs nf (nofr _ big) isC
  | none =>
    refine PySem.W.kla_makeFunction (mg := X.mg) (c := c) (P := tp) (ps := tb) (closure_ok caps) I.ok.glob (I.mod.glob.keeps I.bk) ec (B0.code.keeps I.bk) raw tok look B0.gP bi fun c' ctv h' tk but new small rec wr => ?_
    obtain ⟨c2, oc, vs, t, e0, oc1, oc2, oc3⟩ := rec
    cases e0
    have nC : H c' = none := I.hok.fresh new
    have big : s.heap.objs.size ≤ h'.objs.size := Nat.le_trans new (Nat.le_of_lt small)
    have J := LamX.inv_table (t' := tk) (h' := h') (c := c') (more := #[rawInt pos.line, rawInt pos.col, .ref c']) (q := X.env.qual ++ "<lambda>") I at_ (fun b o n e => but b o n e) wr new ⟨oc, vs, t, oc1, oc2, oc3⟩
    have nf := J.hok.fresh (a := h'.objs.size) (Nat.le_refl _)
    have up : LamX.ExtN H (upd (upd H tp (.tbl (tb ++ #[rawInt pos.line, rawInt pos.col, .ref c']))) c' (LamX.CodeO c' (X.env.qual ++ "<lambda>"))) := fun b o e n => by
      have away : b ≠ tp := fun z => by
        rw [z] at e
        exact n tb (Option.some.inj (e.symm.trans at_))
      exact (upd_ne (ne_of_none e nC)).trans ((upd_ne away).trans e)
    refine goal _ c' _ ctv _ _ (J.laid (t' := tk) (h' := h'.push _) (fun _ _ e => Heap.get?_push_of_some _ e) (Nat.le_refl _) (fnO_ok (Heap.get?_push_size _ rfl))) up (fun p hp => ?_) nf (nofr _ big) upd_same
    by_cases eb : p.1 = tp
    · have eL : (tb ++ #[rawInt pos.line, rawInt pos.col, .ref c']).toList = tb.toList ++ [rawInt pos.line, rawInt pos.col, .ref c'] := by simp
      rw [oneT p hp eb, eb]
      refine ⟨_, (upd_ne (ne_of_none at_ nC)).trans upd_same, eL ▸ PySem.TriplesOk_snoc _ _ _ _ tok, fun p' cv found => ?_⟩
      rw [eL] at found
      rcases LamX.among_app _ tok found with z | z
      · obtain ⟨d, d1, d2⟩ := among p' cv z
        exact ⟨d, d1, up _ _ d2 LamX.codeO_ne⟩
      · exact ⟨c', z, upd_same⟩
    · obtain ⟨t2, u1, u2, u3⟩ := tabs p hp
      refine ⟨t2, (upd_ne (ne_of_none u1 nC)).trans ((upd_ne eb).trans u1), u2, fun p' cv found => ?_⟩
      obtain ⟨d, d1, d2⟩ := u3 p' cv found
      exact ⟨d, d1, up _ _ d2 LamX.codeO_ne⟩
/-! ### known objects out of the abstract heap, held as pins -/
def off (H : Hp) (fs : List (Addr × Obj)) : Hp := fun b => if b ∈ fs.map (·.1) then none else H b
theorem off_in {fs : List (Addr × Obj)} {b : Addr} (h : b ∈ fs.map (·.1)) : off H fs b = none := by unfold off; rw [if_pos h]
theorem off_out {fs : List (Addr × Obj)} {b : Addr} (h : b ∉ fs.map (·.1)) : off H fs b = H b := by unfold off; rw [if_neg h]
def Known (H : Hp) (fs : List (Addr × Obj)) : Prop := ∀ p ∈ fs, H p.1 = some (FnO p.1 p.2) ∧ ∀ v, p.2.data ≠ .cell v
theorem Known.not {fs : List (Addr × Obj)} (k : Known H fs) {b : Addr} {o : HO} (h : H b = some o) (n : ∀ φ, o ≠ .ext φ) : b ∉ fs.map (·.1) := fun z => by
  obtain ⟨p, hp, rfl⟩ := List.mem_map.mp z
  rw [(k p hp).1] at h
  exact n _ (Option.some.inj h).symm
theorem Known.off {fs : List (Addr × Obj)} (k : Known H fs) {b : Addr} {o : HO} (h : H b = some o) (n : ∀ φ, o ≠ .ext φ) : off H fs b = some o := (off_out (k.not h n)).trans h
theorem inv_off {fs : List (Addr × Obj)} (I : Inv X pins σ H s) (k : Known H fs) : Inv (X.tr fs X.xe) pins σ (off H fs) s := by
  have dn : ∀ {b : Addr}, H b = none → off H fs b = none := fun {b} e => by
    unfold off
    split
    · rfl
    · exact e
  have held : ∀ {b : Addr} {o : HO}, off H fs b = some o → H b = some o := fun {b o} e => by
    unfold off at e
    split at e
    · cases e
    · exact e
  refine ⟨I.ok.toTry fs X.xe, I.os, I.bare, ⟨I.base.keep, I.base.slot, fun b o e n hx => dn (I.base.free b o e n hx), I.base.there, fun b xs e => k.off (I.base.tups b xs e) (fun _ z => by cases z), fun b o u e => k.off (I.base.frzs b o u e) (fun _ z => by cases z), fun b ps e => ?_⟩,
    I.loc, I.cell, dn I.free, fun x c e => dn (I.freeC x c e), fun p hp => ?_, fun b o e => ?_, I.len⟩
  · obtain ⟨more, z⟩ := I.base.tbls b ps e
    exact ⟨more, k.off z (fun _ z => by cases z)⟩
  · rcases List.mem_append.mp hp with hp | hp
    · obtain ⟨k1, k2⟩ := k p hp
      obtain ⟨e, _⟩ := I.hok _ _ k1
      refine ⟨e, off_in (List.mem_map.mpr ⟨p, hp, rfl⟩), fun z => ?_, fun z => ?_, k2⟩
      · have z : p.1 = X.env.locals := z
        rw [z, I.free] at k1
        cases k1
      · obtain ⟨_, o, ho, _⟩ := I.ok.funs.mem z
        rw [I.base.free _ o ho (I.ok.frf _ z) fun q => I.ok.exfs _ q z] at k1
        cases k1
    · obtain ⟨e, n, r⟩ := I.pin p (List.mem_append_right _ hp)
      exact ⟨e, dn n, r⟩
  · exact (I.hok b o (held e)).stay (fun _ _ _ e => e) (fun d e => k.off e (fun _ z => by cases z)) fun d xs e => k.off e (fun _ z => by cases z)
end
end Mir
/-! E17: a list comprehension whose test knows the def's own frame. -/
namespace Mir
open PySem PySem.Spec PyProof.Rows L2
section
variable {X : Cx}
/-- from the block's context back to the def's -/
def Back (X Y : Cx) (pins : List (Addr × Obj)) (σ : L2.St) : Prop := ∀ (pn : List (Addr × Obj)) (σ' : L2.St) (H' : Hp) (s' : Shared), Inv Y pn σ' H' s' → Inv X pins σ H' s'
theorem lcKnow {elt tg iter : Expr} {ifs : List Expr} {scope : Scope} {own : List (Str × Nat)} {pos : Pos} {wi : TI} {g : TG} {tt : L2.St → TT} {te : TE} (calm : X.calm = true) (nod : X.N.Nodup) (hi : PI X tg iter wi) (ok : BlkOk X.N X.env.scope scope own)
    (hg : ∀ (s3 : Shared) (H3 : Hp) (C : Addr) (cl : List (Str × Addr)) (fp : List Addr), PG (X.blk s3 H3 scope (compEnvC scope cl C X.env) fp) tg g)
    (ht : ∀ (pins : List (Addr × Obj)) (σ : L2.St) (s3 : Shared) (H3 : Hp) (C : Addr) (cl : List (Str × Addr)) (fp : List Addr), Back X (X.blk s3 H3 scope (compEnvC scope cl C X.env) fp) pins σ → PTs (X.blk s3 H3 scope (compEnvC scope cl C X.env) fp) ifs (tt σ))
    (he : ∀ (s3 : Shared) (H3 : Hp) (C : Addr) (cl : List (Str × Addr)) (fp : List Addr), PE (X.blk s3 H3 scope (compEnvC scope cl C X.env) fp) elt te) (hs : ∀ x, foldedSetIterable iter X.env x = pure x := by intro _; rfl) :
    PE X (.ListComp elt [⟨tg, iter, ifs, 0⟩] scope pos) (fun σ H Q => tLc wi g (tt σ) te (own.map (·.2)) σ H Q) := by
  refine ⟨fun pins s σ H Q I h => ?_⟩
  have caps : ∀ y ∈ scope.names, y.2 = .free → ∃ c, X.env.cells.lookup y.1 = some c := fun y hy e =>
    (ok.free y hy e).elim (fun k => I.ok.has _ (.inl k)) fun k => I.ok.has _ (.inr k)
  rw [eval_ListComp]
  refine wpAny_comprehension_free rfl hs (closure_ok caps) ok.kind (fun y hy e => (ok.uniq y hy).trans (congrArg some e)) (thn (hi.run pins s σ H _ I h) fun xv s1 hx => thn hx fun itv s2 h2 => ?_)
  obtain ⟨it, fp, tn, J, H2, rfl, I2, T, t2, f2, q⟩ := h2
  refine wpAny_newObj_type (newEnv_comp ?_) (by show 0 ≤ sizeLine; decide)
  have hDn : H2 s2.heap.objs.size = none := I2.hok.fresh (Nat.le_refl _)
  obtain ⟨W, ⟨m0, w0⟩, turn⟩ := q s2.heap.objs.size hDn
  generalize eD : s2.heap.objs.size = D at hDn turn w0
  generalize e3 : ({ s2 with heap := s2.heap.push { cls := .type "list", data := .seq ([] : List Value).toArray } } : Shared) = s3
  have I3 : Inv X pins σ (upd H2 D (.lst [])) s3 := by
    subst e3
    subst eD
    exact I2.laid (t' := s2.toks) (fun _ _ e => Heap.get?_push_of_some _ e) (Nat.le_refl _) ⟨Nat.zero_le _, [], 0, .nil, Heap.get?_push_size _ rfl⟩
  have grow : ∀ (b : Addr) (o : Obj), s2.heap.get? b = some o → s3.heap.get? b = some o := fun b o e => by
    subst e3
    exact Heap.get?_push_of_some _ e
  have below : ∀ b ∈ fp, b < D ∧ b < s3.heap.objs.size := fun b hb => by
    obtain ⟨o, e, _⟩ := T.obj _ _ t2 b hb
    exact ⟨eD ▸ Heap.lt_size e, Heap.lt_size (grow _ _ e)⟩
  have f3 : ∀ b ∈ fp, FpOk X pins (upd H2 D (.lst [])) b ∧ b < s3.heap.objs.size := fun b hb =>
    ⟨⟨(upd_ne (Nat.ne_of_lt (below b hb).1)).trans (f2 b hb).1, (f2 b hb).2⟩, (below b hb).2⟩
  have t3 : tn 0 s3.heap := T.keep _ _ _ t2 fun b _ o e => grow b o e
  have I4 := block_start I3 ok nod f3
  have free3 : ∀ b ∈ fp, (upd H2 D (.lst [])) b = none := fun b hb => (f3 b hb).1.1
  generalize hH3 : upd H2 D (.lst []) = H3 at I3 I4 w0 f3 free3
  have frame : ∀ b ∈ fp, (b ∈ X.ex ∨ X.s_0.heap.objs.size ≤ b) ∧ b ≠ X.env.locals ∧ (∀ x c, X.env.cells.lookup x = some c → c ≠ b) ∧ ∀ p ∈ X.pn ++ pins, p.1 ≠ b := fun b hb =>
    ⟨(f3 b hb).1.2.2.2.1, (f3 b hb).1.2.1, (f3 b hb).1.2.2.2.2.1, (f3 b hb).1.2.2.2.2.2⟩
  generalize eC : s3.heap.objs.size = C at I4
  generalize ecl : cellsFrom (C + 1) scope.names (cloFrom X.env.cells scope.names []) = cl at I4
  have back : Back X (X.blk s3 H3 scope (compEnvC scope cl C X.env) fp) pins σ := fun pn σ' H' s' J => I3.call' (ch := fp) J.os J.base J.hok J.bare frame
  have pg := hg s3 H3 C cl fp
  have pt := ht pins σ s3 H3 C cl fp back
  have pe := he s3 H3 C cl fp
  show codeAny _ _ (.compStart (.ListComp elt [⟨tg, iter, ifs, 0⟩] scope pos) 0 (.ref it) (.ref D) (compEnvC scope cl C X.env)) (compPost (model X.prog X.w) X.A X.xe none (EP X pins σ Q) (.ref D) C) { s3 with heap := pushCells (s3.heap.push { cls := .type "dict", data := .dict #[] }) scope.names }
  have cL : (compEnvC scope cl C X.env).locals = C := rfl
  generalize ece : compEnvC scope cl C X.env = ce at I4 pg pt pe back cL ⊢
  generalize e4 : ({ s3 with heap := pushCells (s3.heap.push { cls := .type "dict", data := .dict #[] }) scope.names } : Shared) = s4 at I4 ⊢
  have t4 : tn 0 s4.heap := T.keep _ _ _ t3 fun b _ o e => by
    subst e4
    exact pushCells_keeps _ _ _ _ (Heap.get?_push_of_some _ e)
  have stat : ∀ {σ' : L2.St} {H' : Hp} {s' : Shared}, Inv (X.blk s3 H3 scope ce fp) [] σ' H' s' → (∀ b ∈ fp, H' b = none) → ∀ b ∈ fp, FpOk (X.blk s3 H3 scope ce fp) [] H' b := fun {σ' H' s'} J hn b hb =>
    ⟨hn b hb, (J.ok.exf b hb).1, J.ok.exfs b hb, .inl hb, (J.ok.exf b hb).2, fun p hp => nomatch (show p ∈ ([] : List (Addr × Obj)) from hp)⟩
  have loop : codeAny (model X.prog X.w) X.A (.compLoop (.ListComp elt [⟨tg, iter, ifs, 0⟩] scope pos) 0 (.ref it) (.ref D) ce) (compPost (model X.prog X.w) X.A X.xe none (EP X pins σ Q) (.ref D) C) s4 := by
    refine compLoop_any (fun n s' => ∃ i H', Inv (X.blk s3 H3 scope ce fp) [] (wipe σ (own.map (·.2))) H' s' ∧ tn i s'.heap ∧ (∀ b ∈ fp, H' b = none) ∧ W i n H') ?_ m0 ⟨0, H3, I4, t4, free3, w0⟩
    rintro n s5 ⟨i, H5, I5, t5, n5, w5⟩
    rcases turn i n H5 w5 with ⟨stop, last⟩ | ⟨go, Nx, less, step⟩
    · refine thnF (T.done (X.blk s3 H3 scope ce fp) rfl rfl rfl calm i [] s5 _ H5 (fun _ _ => False) I5 (stat I5 n5) t5 stop) fun r s6 ⟨hr, I6⟩ => ?_
      subst hr
      have J6 : Inv X pins σ H5 s6 := back _ _ _ _ I6
      have nC : H5 C = none := cL ▸ I6.free
      obtain ⟨m, ns, _⟩ := I6.loc
      have ns : s6.heap.Ns C m := cL ▸ ns
      have fC : FpOk X pins H5 C := I3.fpOk (Nat.le_of_eq eC) nC
      refine ⟨m, ns, fun h'' sb => ?_⟩
      obtain ⟨g0, g1, g2, g3, g4, g5⟩ := fC
      exact ⟨.ref D, H5, J6.turned (t' := s6.toks) (fun b o hb e => (sb.2 b hb).trans e) g0 g1 g3 g4 g5, rfl, last⟩
    · refine thnF (T.item (X.blk s3 H3 scope ce fp) rfl rfl rfl calm i [] s5 _ H5 (fun _ _ => False) I5 (stat I5 n5) t5 go) fun r s6 ⟨u, hr, h6⟩ => ?_
      subst hr
      refine thnF h6 fun _ s7 ⟨x, H7, I7, r7, y7, t7, n7⟩ => ?_
      refine thnF (pg.run _ s7 _ H7 x u _ (I7.pinned (stat I7 n7) (T.obj _ _ t7)) r7 (step x H7 y7)) fun _ s8 ⟨σ8, H8, I8, w8, q8⟩ => thnF (pt.run _ s8 σ8 H8 _ I8 q8) fun b s9 ⟨H9, I9, q9⟩ => ?_
      have fin : ∀ {s' : Shared} {H' : Hp}, Inv (X.blk s3 H3 scope ce fp) ([] ++ pinsAt fp s7.heap) σ8 H' s' → Nx H' → ∃ m, m < n ∧ ∃ i H', Inv (X.blk s3 H3 scope ce fp) [] (wipe σ (own.map (·.2))) H' s' ∧ tn i s'.heap ∧ (∀ b ∈ fp, H' b = none) ∧ W i m H' := fun {s' H'} J nx => by
        obtain ⟨m', lt, w'⟩ := less H' nx
        have at7 : ∀ b ∈ fp, ∀ o, s7.heap.get? b = some o → s'.heap.get? b = some o ∧ H' b = none := fun b hb o e =>
          have z := J.pin (b, o) (List.mem_append_right _ (List.mem_append_right _ (mem_pinsAt hb e)))
          ⟨z.1, z.2.1⟩
        have len : (wipe σ (own.map (·.2))).length = σ8.length := by rw [← w8, wipe_length]
        exact ⟨m', lt, i + 1, H', (J.unpinned (pins := [])).weak len (fun j v e => (wipe_some (w8 ▸ e)).1), T.keep _ _ _ t7 fun b hb o e => (at7 b hb o e).1, fun b hb => let ⟨o, e, _⟩ := T.obj _ _ t7 b hb; (at7 b hb o e).2, w'⟩
      cases b with
      | true =>
        simp only [if_true] at q9 ⊢
        exact thnF (pe.run _ s9 σ8 H9 _ I9 q9) fun z s10 ⟨yv, H10, I10, r10, acc, a1, a2, nx⟩ => app_ok (X := X.blk s3 H3 scope ce fp) I10 a1 a2 r10 fun s11 I11 => fin I11 nx
      | false =>
        simp only [Bool.false_eq_true, if_false] at q9 ⊢
        exact fin I9 q9
  exact codeAny_compStart_list loop (T.self X.A 0 _ _ _ t4 loop)
end
end Mir
/-! E18: [1 for f in lambdas if told(f) != ret]. -/
namespace Mir
open PySem PySem.Spec PyProof.Rows L2
section
variable {X : Cx} {g : G}
/-- what the rules ask of a lambda with the mirror m, made in X -/
structure LamGood (X : Cx) (g : G) (k : Nat) (params : Arguments) (body : Expr) (scope : Scope) (m : EM) : Prop where
  L : LamX.LamS X.env.scope scope
  nodef : defaultsOf params X.env = ([], [])
  bind : ∀ (q : Str) (cl : List (Str × Addr)) (pm cv ctv : Value), bindArgs (PySem.W.kla_fn "<lambda>" q params body scope cl pm cv ctv) ⟨[], []⟩ = pure []
  walk : ∀ (A : Around) (outer : List PySem.Env) (s : Shared) (H : Hp) (E : XK) (f c' : Addr), Room k (A.deeper (LamX.lamEnv X scope s.heap.objs.size f c')) → PE (LamX.lamCx X A outer s H E scope f c') body (rdE g E m)
/-- f is a lambda with the mirror m, whose object is known -/
def LamIs (X : Cx) (g : G) (k : Nat) (pn : List (Addr × Obj)) (H : Hp) (f : Addr) (m : EM) : Prop :=
  ∃ params body scope pm c' ctv, (f, lamO X params body scope pm c' ctv) ∈ pn ∧ H c' = some (LamX.CodeO c' (X.env.qual ++ "<lambda>")) ∧ LamGood X g k params body scope m
theorem callKnown {x a e : Str} {gA CS : Addr} {fd : FuncData} {pg : Arguments} {sg : Scope} {ret ret' : Str} {j : Nat} {q1 q2 q3 q4 q5 q6 q7 q8 p2 p3 pos : Pos} {Ng : List Str} {k iF : Nat} {fv : Str} {s3 : Shared} {H3 : Hp} {scope2 : Scope} {C : Addr} {cl : List (Str × Addr)} {fp : List Addr} {pins : List (Addr × Obj)} {σ : L2.St}
    (back : Back X (X.blk s3 H3 scope2 (compEnvC scope2 cl C X.env) fp) pins σ)
    (F : FunD X.K x x pg [.Try [.Return (some (.Call (.Name a q1) [] [] q2)) q3] [.ExceptHandler (some (.Name e q4)) none [.Return (some (.Constant (.str ret') j q5)) q6] q7] [] [] q8] sg [] [] gA fd) (hret : ret' = ret) (hb : Binds X.K fd [a] []) (Sg : FnScope Ng [a] sg) (hNg : Ng[0]? = some a) (hva : Vis sg a)
    (hge : sg.names.lookup e = some .globalImplicit) (hme : X.mg e = some (.ref CS)) (h0 : ∀ f : Addr, (L2.start Ng [V.ref f])[0]? = some (some (V.ref f)))
    (hg : Gl (X.blk s3 H3 scope2 (compEnvC scope2 cl C X.env) fp) x) (hm : X.mg x = some (.ref gA)) (hr : Room (k + 2) X.A)
    (hN : X.N[iF]? = some fv) (hv : Vis (compEnvC scope2 cl C X.env).scope fv)
    (na : starEach [.Name fv p3] (compEnvC scope2 cl C X.env) = (false, eval (.Name fv p3) (compEnvC scope2 cl C X.env)) :: starEach [] (compEnvC scope2 cl C X.env) := by rfl) (hpl : (backTo pos (starEach [] (compEnvC scope2 cl C X.env))).any (·.1) = false := by rfl)
    (hdb : (x == ("__debug__" : Str)) = false := by decide +kernel) (hd : (a == ("__debug__" : Str)) = false := by decide +kernel) (hcd : (a == ("__classdict__" : Str)) = false := by decide +kernel) (hde : (e == ("__debug__" : Str)) = false := by decide +kernel) (hfd : (fv == ("__debug__" : Str)) = false := by decide +kernel) (hfc : (fv == ("__classdict__" : Str)) = false := by decide +kernel) :
    PE (X.blk s3 H3 scope2 (compEnvC scope2 cl C X.env) fp) (.Call (.Name x p2) [.Name fv p3] [] pos) (fun σ' H' Q => ∃ f m, σ'[iF]? = some (some (.ref f)) ∧ LamIs X g k X.pn H' f m ∧ LamX.TTold X.K CS ret (fun E H2 Q2 => rdE g E m σ H2 Q2) H' Q) := by
  subst hret
  obtain ⟨oc, od, dV, kV, doc, pm0, an, cdv, ct, osl, rfl, lk, hcg, _, _⟩ := F.ex
  refine ⟨fun pn s5 σ5 H5 Q I5 h => ?_⟩
  obtain ⟨f, m, hf, ⟨params, body, scope, pm, c', ctv, inP, isC, G0⟩, tt⟩ := h
  refine wpAny_Call_Name_kw (ld_glob I5 hg hm ?_ hdb)
  have ha : PA (X.blk s3 H3 scope2 (compEnvC scope2 cl C X.env) fp) [.Name fv p3] (tCons (tVar iF) tNil) := pa_cons (pe_var hN hv hfd hfc) pa_nil na
  refine PySem.W.callWith_K (h₀ := X.base) I5.ok.mod.kin F.kp (thn (ha.run pos pn s5 σ5 H5 (fun vs H1 => vs = [V.ref f] ∧ H1 = H5) I5 ⟨_, hf, rfl, rfl⟩) fun us s1 ⟨vs, H1, I1, r1, ev, eH⟩ => ⟨I1.kIn, ?_⟩) na hpl
  subst ev
  rw [eH] at I1
  cases r1 with
  | cons ru rn =>
    cases rn
    have eu : _ = Value.ref f := ru
    subst eu
    have J := back _ _ _ _ I1
    obtain ⟨o1, o2, o3, o4, o5⟩ := J.pin _ (List.mem_append_left _ inP)
    have nfr : f ∉ frs X.stack := fun z => (List.mem_cons.mp (J.stkSub _ z)).elim o3 o4
    have rc : codeAny (model X.prog X.w) X.A (.call (.ref gA) ⟨[.ref f], []⟩) (CR C8.CX0 X.stack X.prog X.w H5 s1 Q C8.E0) s1 := by
      refine LamX.run_ofS (N := Ng) (ps := [a]) (us := [.ref f]) (vs := [.ref f]) lk hcg Sg hr I1.env0 (hb s1 [.ref f] I1.kIn rfl) (.cons rfl .nil) rfl fun hr' => ?_
      obtain ⟨t', ht', hq'⟩ := (LamX.told_gives (X := X) (q := X.env.qual ++ "<lambda>") hge hme hde h0) f c' s1 H5 Q (fun E H2 Q2 => rdE g E m σ H2 Q2) (fun W pn2 xe E p1 p2 tk hW => LamX.pe_act (i := 0) J G0.L o1 o2 nfr (G0.bind _ _ _ _ _) tk hW hr' (fun A outer s H hr2 => G0.walk A outer s H E f c' hr2) hNg hva hd hcd) isC tt
      exact ⟨t', ht'.nox, hq'⟩
    refine wpAny_call (codeAny_mono rc fun r s2 hq => ?_)
    cases r with
    | error e => exact (show False from hq).elim
    | ok fl =>
      cases fl with
      | ret u => exact I1.after hq
      | next => exact False.elim hq
      | brk => exact False.elim hq
      | cont => exact False.elim hq
theorem cell_not {H F : Hp} {mu : List Addr} {st : Mir.St} (rh : RH g H F mu st) {a : Addr} {φ : Heap → Prop} (h : H a = some (.ext φ)) : a ∉ mu := fun z => by
  obtain ⟨n, hn⟩ := List.getElem?_of_mem z
  have hl : n < st.length := by rw [← rh.len]; exact (List.getElem?_eq_some_iff.mp hn).1
  obtain ⟨b, h1, _, h3⟩ := rh.cel n _ (List.getElem?_eq_getElem hl)
  rw [hn] at h1
  cases h1
  obtain ⟨o, o1, _, o2⟩ := h3.there
  rw [h] at o1
  exact o2 φ (Option.some.inj o1).symm
theorem LamIs.ext {k : Nat} {pn : List (Addr × Obj)} {H F H' F' : Hp} {mu mu' : List Addr} {st : Mir.St} {f : Addr} {m : EM} (rh : RH g H F mu st) (e : Ext H F mu H' F' mu') (h : LamIs X g k pn H f m) : LamIs X g k pn H' f m := by
  obtain ⟨params, body, scope, pm, c', ctv, h1, h2, h3⟩ := h
  exact ⟨params, body, scope, pm, c', ctv, h1, e.keep _ _ h2 (cell_not rh h2) (fun ps z => LamX.codeO_ne ps z), h3⟩
theorem paired_get {α β : Type} {R : α → β → Prop} : ∀ {as : List α} {bs : List β}, Paired R as bs → as.length = bs.length ∧ ∀ (i : Nat) (a : α) (b : β), as[i]? = some a → bs[i]? = some b → R a b
  | _, _, .nil => ⟨rfl, fun i a b h => by simp at h⟩
  | _, _, .cons q1 q2 => by
    obtain ⟨h1, h2⟩ := paired_get q2
    refine ⟨by simp [h1], fun i a b ha hb => ?_⟩
    cases i with
    | zero => simp at ha hb; subst ha hb; exact q1
    | succ i => exact h2 i a b (by simpa using ha) (by simpa using hb)
def tBadTest (X : Cx) (g : G) (k iF : Nat) (er : List Nat) (ret : Tx) (σ : L2.St) : TT := fun σ' H' q => ∃ f m r st F mu st1, σ'[iF]? = some (some (.ref f)) ∧ LamIs X g k X.pn H' f m ∧ RE g σ H' F mu r st ∧ eTold er ret m r st = .ok (.val (.str ret)) st1 ∧ ∀ H2 F2 mu2, Ext H' F mu H2 F2 mu2 → RE g σ H2 F2 mu2 r st1 → q false H2
def tBadLc (X : Cx) (g : G) (k ib iF : Nat) (er : List Nat) (ret : Tx) (ms : List EM) : TE := fun σ H Q => ∃ p fs r st F mu st', σ[ib]? = some (some (.ref p)) ∧ H p = some (.lst (fs.map V.ref)) ∧ p ∉ mu ∧ Paired (fun f m => LamIs X g k X.pn H f m) fs ms ∧ RE g σ H F mu r st ∧ iF < r.length ∧ badRun er ret ms r st = some st' ∧
  ∀ H' F' mu' D, Ext H F mu H' F' mu' → RE g σ H' F' mu' r st' → H D = none → H' D = some (.lst []) → F' D = none → D ∉ mu' → Q (.ref D) H'
theorem badRun_drop {er : List Nat} {ret : Tx} {ms : List EM} {i : Nat} {m : EM} {r : Env} {st st' : Mir.St} (hi : ms[i]? = some m) (h : badRun er ret (ms.drop i) r st = some st') : ∃ st1, eTold er ret m r st = .ok (.val (.str ret)) st1 ∧ badRun er ret (ms.drop (i + 1)) r st1 = some st' := by
  obtain ⟨hl, e⟩ := List.getElem?_eq_some_iff.mp hi
  rw [List.drop_eq_getElem_cons hl, e] at h
  unfold badRun at h
  split at h
  · rename_i x st1 hm
    split at h
    · rename_i hx
      subst hx
      exact ⟨st1, hm, h⟩
    · cases h
  · cases h
theorem badLc_rd {k ib iF : Nat} {er : List Nat} {ret : Tx} {ms : List EM} {te : TE} (hK : X.K = g.K) : ∀ σ H Q, tBadLc X g k ib iF er ret ms σ H Q → tLc (iList X.K (tVar ib)) (gName iF) (tBadTest X g k iF er ret σ) te [iF] σ H Q := by
  intro σ H Q h
  obtain ⟨p, fs, r, st, F, mu, st', h1, h2, h3, h4, re, hF, run, fin⟩ := h
  rw [← re.len] at hF
  obtain ⟨len, pr⟩ := paired_get h4
  refine ⟨_, h1, p, rfl, ⟨_, SqL.of h2⟩, fun D hD => ?_⟩
  have npD : p ≠ D := ne_of_none h2 hD
  have mD : D ∉ mu := fun z => mem_mu re.h z hD
  have e0 : Ext H F mu (upd H D (.lst [])) F mu := Ext.newOwn hD
  have fD : F D = none := F_new re.h hD
  refine ⟨fun i m H' => m = fs.length - i ∧ i ≤ fs.length ∧ ∃ st2 F2 mu2, RE g σ H' F2 mu2 r st2 ∧ Ext (upd H D (.lst [])) F mu H' F2 mu2 ∧ badRun er ret (ms.drop i) r st2 = some st', ⟨fs.length, by simp, Nat.zero_le _, st, F, mu, re.step e0 (re.h.newOwn hD), .refl _ _ _, by simpa using run⟩, fun i m H' w => ?_⟩
  obtain ⟨rfl, hi, st2, F2, mu2, re2, e2, run2⟩ := w
  have hp : H' p = some (.lst (fs.map V.ref)) := e2.keep p _ ((upd_ne npD).trans h2) h3 (fun ps z => by cases z)
  have hd : H' D = some (.lst []) := e2.keep D _ upd_same mD (fun ps z => by cases z)
  have e02 := e0.trans e2
  by_cases hlt : i < fs.length
  · have gi : (fs.map V.ref)[i]? = some (.ref fs[i]) := by rw [List.getElem?_map, List.getElem?_eq_getElem hlt]; rfl
    refine .inr ⟨⟨_, _, SqL.of hp, gi⟩, fun H'' => ∃ st3 F3 mu3, RE g σ H'' F3 mu3 r st3 ∧ Ext (upd H D (.lst [])) F mu H'' F3 mu3 ∧ badRun er ret (ms.drop (i + 1)) r st3 = some st', fun H'' nx => ⟨fs.length - (i + 1), by omega, rfl, hlt, nx⟩, fun x H'' yl => ?_⟩
    obtain ⟨rfl, yx⟩ := yl
    have ex := yx _ (SqL.of hp)
    rw [gi] at ex
    cases ex
    have gm : ms[i]? = some (ms[i]'(by omega)) := List.getElem?_eq_getElem _
    obtain ⟨st3, t1, t2⟩ := badRun_drop gm run2
    have wl : (wipe σ [iF]).length = σ.length := wipe_length _ _
    refine ⟨?_, ?_⟩
    · show ((σ.set iF none).set iF (some (V.ref fs[i]))).set iF none = σ.set iF none
      rw [List.set_set, List.set_set]
    · refine ⟨fs[i], ms[i]'(by omega), r, st2, F2, mu2, st3, ?_, (pr i _ _ (List.getElem?_eq_getElem hlt) gm).ext re.h e02, re2, t1, fun H3 F3 mu3 e3 re3 => ?_⟩
      · show ((σ.set iF none).set iF (some (V.ref fs[i])))[iF]? = _
        rw [List.set_set]
        simp [hF]
      · simp only [Bool.false_eq_true, if_false]
        exact ⟨st3, F3, mu3, re3, e2.trans e3, t2⟩
  · have he : i = fs.length := by omega
    subst he
    have hms : ms.drop fs.length = [] := by rw [len]; simp
    rw [hms] at run2
    cases run2
    refine .inl ⟨⟨_, SqL.of hp, by simp⟩, fin H' F2 mu2 D e02 re2 hD hd ?_ fun z => ?_⟩
    · cases q : F2 D with
      | none => rfl
      | some z => exact (e2.frF D z q).elim (fun y => by rw [fD] at y; cases y) fun y => y.elim (fun y => (y.no upd_same (fun ps z => by cases z)).elim) fun y => absurd y mD
    · exact (e2.frM D z).elim mD fun y => y.no upd_same (fun ps z => by cases z)
end
end Mir
/-! E19: bad = [lambdas]; [1 for f in bad if told(f) != ret] == []. -/
namespace Mir
open PySem PySem.Spec PyProof.Rows L2
section
variable {X : Cx} {g : G} {E : XK} {B : Bs}
theorem lcBad {x a e : Str} {gA CS : Addr} {fd : FuncData} {pg : Arguments} {sg : Scope} {ret : Tx} {ret' ret2 : Str} {er : List Nat} {j j0 j1 : Nat} {q1 q2 q3 q4 q5 q6 q7 q8 p2 p3 p4 p5 p6 p7 p8 p9 pos : Pos} {Ng : List Str} {k ib iF : Nat} {fv bv : Str} {scope2 : Scope} {ms : List EM}
    (F : FunD X.K x x pg [.Try [.Return (some (.Call (.Name a q1) [] [] q2)) q3] [.ExceptHandler (some (.Name e q4)) none [.Return (some (.Constant (.str ret') j q5)) q6] q7] [] [] q8] sg [] [] gA fd) (hret : ret' = toS ret) (hret2 : ret2 = toS ret) (hb : Binds X.K fd [a] []) (Sg : FnScope Ng [a] sg) (hNg : Ng[0]? = some a) (hva : Vis sg a)
    (hge : sg.names.lookup e = some .globalImplicit) (hme : X.mg e = some (.ref CS)) (h0 : ∀ f : Addr, (L2.start Ng [V.ref f])[0]? = some (some (V.ref f))) (hK : X.K = g.K) (hx : Caught g CS er) (calm : X.calm = true) (nod : X.N.Nodup)
    (hg : scope2.names.lookup x = some .globalImplicit) (hgR : ∀ C cl, Gl (X.blk X.s_0 X.H_0 scope2 (compEnvC scope2 cl C X.env) []) x) (hm : X.mg x = some (.ref gA)) (hr : Room (k + 2) X.A) (ok : BlkOk X.N X.env.scope scope2 [(fv, iF)])
    (hN : X.N[iF]? = some fv) (hv : ∀ C cl, (compEnvC scope2 cl C X.env).scope.names.lookup fv = some .local) (hNb : X.N[ib]? = some bv) (hvb : Vis X.env.scope bv)
    (na : ∀ C cl, starEach [.Name fv p3] (compEnvC scope2 cl C X.env) = (false, eval (.Name fv p3) (compEnvC scope2 cl C X.env)) :: starEach [] (compEnvC scope2 cl C X.env) := by intro _ _; rfl) (hpl : ∀ C cl, (backTo pos (starEach [] (compEnvC scope2 cl C X.env))).any (·.1) = false := by intro _ _; rfl)
    (hdb : (x == ("__debug__" : Str)) = false := by decide +kernel) (hd : (a == ("__debug__" : Str)) = false := by decide +kernel) (hcd : (a == ("__classdict__" : Str)) = false := by decide +kernel) (hde : (e == ("__debug__" : Str)) = false := by decide +kernel) (hfd : (fv == ("__debug__" : Str)) = false := by decide +kernel) (hfc : (fv == ("__classdict__" : Str)) = false := by decide +kernel) (hbd : (bv == ("__debug__" : Str)) = false := by decide +kernel) (hbc : (bv == ("__classdict__" : Str)) = false := by decide +kernel)
    (hs : ∀ z, foldedSetIterable (.Name bv p4) X.env z = pure z := by intro _; rfl) :
    PE X (.ListComp (.Constant (.int 1) j0 p5) [⟨.Name fv p6, .Name bv p4, [.Compare (.Call (.Name x p2) [.Name fv p3] [] pos) [.NotEq] [.Constant (.str ret2) j1 p7] p8], 0⟩] scope2 p9) (tBadLc X g k ib iF er ret ms) := by
  subst hret hret2
  refine PE.imp (lcKnow (own := [(fv, iF)]) (g := gName iF) (wi := iList X.K (tVar ib)) (tt := tBadTest X g k iF er ret) (te := tC (.int 1)) calm nod (pi_list (pe_var hNb hvb hbd hbc)) ok (fun s3 H3 C cl fp => pg_name nod hN (.inl (hv C cl)) (.inr (hv C cl))) (fun pins σ s3 H3 C cl fp back => pts_one ?_) (fun _ _ _ _ _ => pe_int) hs) (badLc_rd hK)
  refine PT.imp (pt_cmpR op_ne (callKnown (g := g) (k := k) back F rfl hb Sg hNg hva hge hme h0 (hgR C cl) hm hr hN (.inl (hv C cl)) (na C cl) (hpl C cl) hdb hd hcd hde hfd hfc) pe_str (nomark _)) fun σ' H' q h => ?_
  obtain ⟨f, m, r, st, F1, mu, st1, h1, h2, re, t1, fin⟩ := h
  refine ⟨f, m, h1, h2, ?_⟩
  rw [hK]
  refine told_rd (E := fun _ _ _ => False) hx re ?_
  rw [t1]
  intro v H2 F2 mu2 e2 re2 rv
  simp only [RepX, RepV] at rv
  subst rv
  refine ⟨rfl, _, rfl, ?_⟩
  rw [show (!decide (V.str (toS ret) = V.str (toS ret))) = false by simp]
  exact fin H2 F2 mu2 e2 re2
end
end Mir
/-! E20: bad = [lambdas], then the rest with the lambdas known. -/
namespace Mir
open PySem PySem.Spec PyProof.Rows L2
section
variable {X : Cx} {g : G} {E : XK} {B : Bs} {k : Nat}
/-- the object p.2 at p.1 is a lambda with the mirror m -/
def LamF (X : Cx) (g : G) (k : Nat) (H : Hp) (p : Addr × Obj) (m : EM) : Prop := ∃ params body scope pm c' ctv, p.2 = lamO X params body scope pm c' ctv ∧ H c' = some (LamX.CodeO c' (X.env.qual ++ "<lambda>")) ∧ LamGood X g k params body scope m
def LamE (X : Cx) (g : G) (k : Nat) (e : Expr) (m : EM) : Prop := ∃ params body scope pos, e = .Lambda params body scope pos ∧ LamGood X g k params body scope m
/-- what stands known: functions -/
def Funs (H : Hp) (fs : List (Addr × Obj)) : Prop := ∀ p ∈ fs, H p.1 = some (FnO p.1 p.2) ∧ ∃ fd, p.2.data = .func fd
theorem Funs.known {H : Hp} {fs : List (Addr × Obj)} (h : Funs H fs) : Known H fs := fun p hp => ⟨(h p hp).1, fun v z => by
  obtain ⟨fd, e⟩ := (h p hp).2
  rw [e] at z
  cases z⟩
theorem LamF.ext {H H1 : Hp} {p : Addr × Obj} {m : EM} (e : LamX.ExtN H H1) (h : LamF X g k H p m) : LamF X g k H1 p m := by
  obtain ⟨a, b, c, d, c', ctv, h1, h2, h3⟩ := h
  exact ⟨a, b, c, d, c', ctv, h1, e _ _ h2 (fun ps => LamX.codeO_ne ps), h3⟩
def tLam1 (X : Cx) (g : G) (k : Nat) (m : EM) : TE := fun σ H Q => LamX.Tabs g.tb H ∧ ∀ (p : Addr × Obj) (H1 : Hp), LamX.ExtN H H1 → LamX.Tabs g.tb H1 → Nw H p.1 → Funs H1 [p] → LamF X g k H1 p m → Q (.ref p.1) H1
def tLams (X : Cx) (g : G) (k : Nat) (ms : List EM) : TA := fun σ H Q => LamX.Tabs g.tb H ∧ ∀ (fs : List (Addr × Obj)) (H1 : Hp), LamX.ExtN H H1 → LamX.Tabs g.tb H1 → (∀ p ∈ fs, Nw H p.1) → Funs H1 fs → Paired (LamF X g k H1) fs ms → Q (fs.map fun p => .ref p.1) H1
theorem peLam {c tp : Addr} {e : Expr} {m : EM} (B0 : LamX.TabB X.base X.mg c tp) (ec : X.env.code = .ref c) (eT : (tp, X.env.qual ++ "<lambda>") ∈ g.tb) (oneT : ∀ p ∈ g.tb, p.1 = tp → p.2 = X.env.qual ++ "<lambda>") (h : LamE X g k e m) : PE X e (tLam1 X g k m) := by
  obtain ⟨params, body, scope, pos, rfl, G0⟩ := h
  refine ⟨fun pins s σ H Q I h => lamNew I B0 ec eT oneT h.1 G0.nodef (G0.L.has I.ok) fun f c' pm ctv H1 s1 I1 eN T1 nf _ isC => ⟨.ref f, _, I1, rfl, ?_⟩⟩
  have up : ∀ b o, H1 b = some o → upd H1 f (FnO f (lamO X params body scope pm c' ctv)) b = some o := fun b o e => (upd_ne (ne_of_none e nf)).trans e
  refine h.2 (f, lamO X params body scope pm c' ctv) _ (eN.trans (LamX.ExtN.of up)) (T1.ext up) (fun o ho => ?_) (fun p hp => ?_) ⟨params, body, scope, pm, c', ctv, rfl, up _ _ isC, G0⟩
  · by_cases z : ∃ ps, o = .tbl ps
    · exact z
    · have := eN f o ho fun ps q => z ⟨ps, q⟩
      rw [nf] at this
      cases this
  · cases List.mem_singleton.mp hp
    exact ⟨upd_same, _, rfl⟩
theorem paLams {c tp : Addr} (B0 : LamX.TabB X.base X.mg c tp) (ec : X.env.code = .ref c) (eT : (tp, X.env.qual ++ "<lambda>") ∈ g.tb) (oneT : ∀ p ∈ g.tb, p.1 = tp → p.2 = X.env.qual ++ "<lambda>") : ∀ {es : List Expr} {ms : List EM}, Paired (LamE X g k) es ms → PA X es (tLams X g k ms)
  | _, _, .nil => PA.imp pa_nil fun σ H Q h => h.2 [] H (.refl H) h.1 (fun _ z => nomatch z) (fun _ z => nomatch z) .nil
  | _, _, .cons q1 q2 => PA.imp (pa_cons (peLam B0 ec eT oneT q1) (paLams B0 ec eT oneT q2) (by obtain ⟨_, _, _, _, rfl, _⟩ := q1; rfl)) fun σ H Q h => by
    refine ⟨h.1, fun p H1 eN T1 nw fn lam => ⟨T1, fun fs H2 eN2 T2 nw2 fn2 lam2 => ?_⟩⟩
    refine h.2 (p :: fs) H2 (eN.trans eN2) T2 (fun q hq => ?_) (fun q hq => ?_) (.cons (lam.ext eN2) lam2)
    · rcases List.mem_cons.mp hq with rfl | hq
      · exact nw
      · intro o ho
        by_cases z : ∃ ps, o = .tbl ps
        · exact z
        · exact nw2 q hq o (eN _ _ ho fun ps w => z ⟨ps, w⟩)
    · rcases List.mem_cons.mp hq with rfl | hq
      · obtain ⟨f1, f2⟩ := fn q (List.mem_singleton.mpr rfl)
        exact ⟨eN2 _ _ f1 (fun ps z => by cases z), f2⟩
      · exact fn2 q hq
theorem LamF.is {H : Hp} {fs : List (Addr × Obj)} {p : Addr × Obj} {m : EM} (hp : p ∈ fs) (nc : ∀ c q, H c = some (LamX.CodeO c q) → c ∉ fs.map (·.1)) (h : LamF X g k H p m) : LamIs (X.tr fs X.xe) g k fs (off H fs) p.1 m := by
  obtain ⟨a, b, c, d, c', ctv, h1, h2, h3⟩ := h
  obtain ⟨f, o⟩ := p
  subst h1
  exact ⟨a, b, c, d, c', ctv, hp, (off_out (nc _ _ h2)).trans h2, h3.L, h3.nodef, h3.bind, h3.walk⟩
theorem pairedIs {H : Hp} {fs0 : List (Addr × Obj)} (nc : ∀ c q, H c = some (LamX.CodeO c q) → c ∉ fs0.map (·.1)) : ∀ {fs : List (Addr × Obj)} {ms : List EM}, (∀ p ∈ fs, p ∈ fs0) → Paired (LamF X g k H) fs ms → Paired (fun f m => LamIs (X.tr fs0 X.xe) g k fs0 (off H fs0) f m) (fs.map (·.1)) ms
  | _, _, _, .nil => .nil
  | _, _, hs, .cons q1 q2 => .cons (q1.is (hs _ List.mem_cons_self) nc) (pairedIs nc (fun p hp => hs p (List.mem_cons_of_mem _ hp)) q2)
theorem pairedImp {α β : Type} {R S : α → β → Prop} (h : ∀ a b, R a b → S a b) : ∀ {as : List α} {bs : List β}, Paired R as bs → Paired S as bs
  | _, _, .nil => .nil
  | _, _, .cons q1 q2 => .cons (h _ _ q1) (pairedImp h q2)
/-- behind bad = [lambdas]: the list stands in the slot ib -/
def rdBad (Y : Cx) (g : G) (E : XK) (B : Bs) (k ib : Nat) (ms : List EM) (m : SM) : TS := fun D σ H => ∃ p fs r st F mu, σ[ib]? = some (some (.ref p)) ∧ H p = some (.lst (fs.map V.ref)) ∧ p ∉ mu ∧ Paired (fun f m => LamIs Y g k Y.pn H f m) fs ms ∧ RB g B σ H F mu r st ∧ PostS g E B F mu D (m r st)
theorem inv_on {fs pins : List (Addr × Obj)} {σ : L2.St} {H : Hp} {s : Shared} {xe : Value → Shared → Prop} (ok : X.Ok) (h0 : X.pn = []) (I : Inv (X.tr fs xe) pins σ H s) : Inv X pins σ H s :=
  ⟨ok, I.os, I.bare, I.base, I.loc, I.cell, I.free, I.freeC, fun p hp => I.pin p (List.mem_append_right _ (by rw [h0] at hp; exact hp)), I.hok, I.len⟩
theorem code_not {fs pins : List (Addr × Obj)} {σ : L2.St} {H : Hp} {s : Shared} (I : Inv X pins σ H s) (kn : Funs H fs) : ∀ c q, H c = some (LamX.CodeO c q) → c ∉ fs.map (·.1) := fun c q h z => by
  obtain ⟨p, hp, rfl⟩ := List.mem_map.mp z
  obtain ⟨k1, fd, k2⟩ := kn p hp
  obtain ⟨⟨oc, vs, t, a1, a2, _⟩, _, _⟩ := I.hok _ _ h
  obtain ⟨b1, _, _⟩ := I.hok _ _ k1
  rw [b1] at a1
  cases a1
  rw [k2] at a2
  cases a2
theorem RB.setNo {s : L2.St} {H F : Hp} {mu : List Addr} {r : Env} {st : Mir.St} (x : RB g B s H F mu r st) {i : Nat} {v : Option V} (hi : i < r.length) : RB g B (s.set i v) H F mu (r.set i .no) st := by
  have hi' : i < s.length := by rw [x.re.len]; exact hi
  refine ⟨⟨x.re.h, by simp [x.re.len], fun j y hy => ?_, fun j l c c' a b h1 h2 h3 h4 ne => ?_⟩, x.ext, fun j c a h1 h2 => ?_, fun j ci fs a h1 h2 => ?_⟩
  · rw [get_set hi] at hy
    by_cases e : i = j
    · subst e
      rw [if_pos rfl] at hy
      cases hy
      exact ⟨v, by rw [get_set hi', if_pos rfl], trivial⟩
    · rw [if_neg e] at hy
      obtain ⟨o, h1, h2⟩ := x.re.slot j y hy
      exact ⟨o, by rw [get_set hi', if_neg e]; exact h1, h2⟩
  · rw [get_set hi] at h1 h2
    rw [get_set hi'] at h3 h4
    by_cases e : i = j
    · rw [if_pos e] at h1; cases h1
    · by_cases e2 : i = l
      · rw [if_pos e2] at h2; cases h2
      · rw [if_neg e] at h1 h3
        rw [if_neg e2] at h2 h4
        exact x.re.own j l c c' a b h1 h2 h3 h4 ne
  · rw [get_set hi] at h1
    rw [get_set hi'] at h2
    by_cases e : i = j
    · rw [if_pos e] at h1; cases h1
    · rw [if_neg e] at h1 h2
      exact x.own j c a h1 h2
  · rw [get_set hi] at h1
    rw [get_set hi'] at h2
    by_cases e : i = j
    · rw [if_pos e] at h1; cases h1
    · rw [if_neg e] at h1 h2
      exact x.slf j ci fs a h1 h2
theorem pssBad {c tp : Addr} {lams : List Expr} {ms : List EM} {mr : SM} {rest : List Stmt} {ib : Nat} {bv : Str} {p1 p2 p3 : Pos} (B0 : LamX.TabB X.base X.mg c tp) (ec : X.env.code = .ref c) (eT : (tp, X.env.qual ++ "<lambda>") ∈ g.tb) (oneT : ∀ p ∈ g.tb, p.1 = tp → p.2 = X.env.qual ++ "<lambda>")
    (h0 : X.pn = []) (nod : X.N.Nodup) (hi : X.N[ib]? = some bv) (hl : L2.Loc X.env.scope bv) (hf : X.fn bv = true) (hlen : ms.length ≤ lim) (hs : swapsWith (.List lams p2) (some (.Name bv p1)) p3.line X.env = pure false) (hp : Paired (LamE X g k) lams ms)
    (hrest : ∀ fs : List (Addr × Obj), PSs (X.tr fs X.xe) rest (rdBad (X.tr fs X.xe) g E B k ib ms mr)) : PSs X (.Assign [.Name bv p1] (.List lams p2) p3 :: rest) (rdS g E B (sBad ib mr)) := by
  have second : PSs X rest (fun D σ H => ∃ fs, Funs H fs ∧ ((∀ c q, H c = some (LamX.CodeO c q) → c ∉ fs.map (·.1)) → rdBad (X.tr fs X.xe) g E B k ib ms mr D σ (off H fs))) := by
    refine ⟨fun pins s σ H D I h => ?_⟩
    obtain ⟨fs, kn, h⟩ := h
    refine thn ((hrest fs).run pins s σ (off H fs) D (inv_off I kn.known) (h (code_not I kn))) fun f s' q => ?_
    cases f with
    | next => obtain ⟨σ', H', J, d⟩ := q; exact ⟨σ', H', inv_on I.ok h0 J, d⟩
    | brk => obtain ⟨σ', H', J, d⟩ := q; exact ⟨σ', H', inv_on I.ok h0 J, d⟩
    | cont => obtain ⟨σ', H', J, d⟩ := q; exact ⟨σ', H', inv_on I.ok h0 J, d⟩
    | ret u => obtain ⟨v, σ', H', J, rv, d⟩ := q; exact ⟨v, σ', H', inv_on I.ok h0 J, rv, d⟩
  refine PSs.imp (pss_cons (ps_set nod hi hl (pe_lst (paLams B0 ec eT oneT hp)) hs (.inl hf)) second) fun D σ H h => ?_
  obtain ⟨r, st, F, mu, rb, h⟩ := h
  unfold sBad at h
  split at h
  · rename_i hir
    refine ⟨rb.re.h.tab, fun fs H1 eN T1 nw fn lam => ⟨?_, fun p hpn => ?_⟩⟩
    · rw [List.length_map, (paired_get lam).1]
      exact Nat.le_trans hlen lim_line
    · have up : ∀ b o, H1 b = some o → upd H1 p (.lst (fs.map fun q => V.ref q.1)) b = some o := fun b o e => (upd_ne (ne_of_none e hpn)).trans e
      refine ⟨fs, fun q hq => ⟨up _ _ (fn q hq).1, (fn q hq).2⟩, fun nc => ?_⟩
      have npf : p ∉ fs.map (·.1) := fun z => by
        obtain ⟨q, hq, e⟩ := List.mem_map.mp z
        have := (fn q hq).1
        rw [e, hpn] at this
        cases this
      have rh1 := rb.re.h.lam eN T1
      have stay : ∀ b o, H b = some o → (∀ ps, o ≠ .tbl ps) → off (upd H1 p (.lst (fs.map fun q => V.ref q.1))) fs b = some o := fun b o e n => by
        refine (off_out fun z => ?_).trans (up _ _ (eN _ _ e n))
        obtain ⟨q, hq, eq⟩ := List.mem_map.mp z
        exact (nw q hq).no (eq ▸ e) n
      have rhO : RH g (off (upd H1 p (.lst (fs.map fun q => V.ref q.1))) fs) F mu st := by
        refine ⟨fun a o e => .inl (stay a o ((rb.re.h.fro a o e).resolve_right fun z => z.1) fun ps z => rb.re.h.ntb a ps (by rw [e, z])), rb.re.h.len, rb.re.h.nd, fun n c e => ?_, fun q hq => ?_, rb.re.h.ntb⟩
        · obtain ⟨b, b1, b2, b3⟩ := rb.re.h.cel n c e
          obtain ⟨o, o1, o2, _⟩ := b3.there
          exact ⟨b, b1, b2, CellAt.at ((stay b o o1 o2).trans o1.symm) b3⟩
        · obtain ⟨ps, t1, t2, t3⟩ := (T1.ext up) q hq
          have kn2 : Known (upd H1 p (.lst (fs.map fun q => V.ref q.1))) fs := Funs.known fun q hq => ⟨up _ _ (fn q hq).1, (fn q hq).2⟩
          refine ⟨ps, kn2.off t1 (fun _ z => by cases z), t2, fun pos cv hcv => ?_⟩
          obtain ⟨d, d1, d2⟩ := t3 pos cv hcv
          exact ⟨d, d1, (off_out (nc _ _ d2)).trans d2⟩
      have exO : Ext H F mu (off (upd H1 p (.lst (fs.map fun q => V.ref q.1))) fs) F mu := by
        refine ⟨.refl _ _, fun a o e _ n => stay a o e n, fun a n o e => ?_, fun _ _ e => .inl e, fun _ e => .inl e⟩
        by_cases z : ∃ ps, o = .tbl ps
        · exact z
        · exact n o (stay a o e fun ps w => z ⟨ps, w⟩)
      refine ⟨p, fs.map (·.1), r.set ib .no, st, F, mu, ?_, ?_, fun z => mem_mu rh1 z hpn, pairedIs nc (fun _ h => h) (pairedImp (fun a b h => h.ext (LamX.ExtN.of up)) lam), (rb.step exO (rb.re.step exO rhO)).setNo hir, h⟩
      · rw [get_set (by rw [rb.re.len]; exact hir), if_pos rfl]
      · refine (off_out npf).trans (upd_same.trans ?_)
        rw [List.map_map]
        rfl
  · exact h.elim
/-! ### all were told -/
theorem badEq {ib iF : Nat} {er : List Nat} {ret : Tx} {ms : List EM} {m : SM} {D : Ends} {σ : L2.St} {H : Hp} {T : V → Hp → Prop} {rr : R2}
    (h : rdBad X g E B k ib ms (sBadThen iF er ret ms m) D σ H)
    (fin : ∀ (a b : Addr) (r : Env) (st' : Mir.St) (H' F' : Hp) (mu' : List Addr), RB g B σ H' F' mu' r st' → PostS g E B F' mu' D (m r st') → H' a = some (.lst []) → H' b = some (.lst []) → rr (.ref a) (.ref b) H' T) :
    tOp rr (tBadLc X g k ib iF er ret ms) (tLst tNil) σ H T := by
  obtain ⟨p, fs, r, st, F, mu, h1, h2, h3, h4, rb, post⟩ := h
  unfold sBadThen at post
  split at post
  · rename_i st' run
    split at post
    · rename_i hF
      refine ⟨p, fs, r, st, F, mu, st', h1, h2, h3, h4, rb.re, hF, run, fun H' F' mu' D0 e' re' hD hD' fD mD => ⟨Nat.zero_le _, fun q hq => ?_⟩⟩
      have ex := Ext.newOwn (H := H') (F := F') (mu := mu') (o := .lst []) hq
      exact fin D0 q r st' _ F' mu' ((rb.step e' re').step ex (re'.step ex (re'.h.newOwn hq))) (post.mono e'.mo) ((upd_ne (ne_of_none hD' hq)).trans hD') upd_same
    · exact post.elim
  · exact post.elim
theorem eqv_nil : PyData.eqv (.list []) (.list []) = true := by rfl
theorem badRet {ib iF k1 : Nat} {er : List Nat} {ret : Tx} {ms : List EM} {m2 : EM} {lc e2 : Expr} {es : List Expr} {p1 p2 p3 p4 : Pos} (hr : Room k1 X.A) (hK : X.K = g.K) (hL : PE X lc (tBadLc X g k ib iF er ret ms)) (h2 : PE X (.BoolOp .And (e2 :: es) p3) (rdE g E m2))
    (hm : behindInMarks .Eq (.List [] p1) = false := by first | exact nomark _ | rfl) : PSs X [.Return (some (.BoolOp .And (.Compare lc [.Eq] [.List [] p1] p2 :: e2 :: es) p3)) p4] (rdBad X g E B k ib ms (sBadThen iF er ret ms (sRet m2))) := PSs.imp (pss_one (ps_ret (pe_and (pe_cmpR (op_eqD (ru4 hr)) hL (pe_lst pa_nil) hm) h2))) fun D σ H h => by
  refine badEq h fun a b r st' H' F' mu' rb post ha hb => ?_
  refine ⟨.list [], .list [], .lst (SqL.of ha) .nil, .lst (SqL.of hb) .nil, rfl, rfl, true, by rw [eqv_nil], ?_⟩
  rw [if_pos rfl]
  refine ⟨r, st', F', mu', rb.re, sbind rb post fun y st2 v H2 F2 mu2 _ e2 rb2 rp h' => ?_⟩
  cases y with
  | bor c => exact h'.elim
  | val d => exact h' v H2 F2 mu2 rb2.re.h rb2.ext (.refl _ _) rp
theorem badIf {ib iF k1 : Nat} {er : List Nat} {ret : Tx} {ms : List EM} {mt : TM} {m1 m3 : SM} {lc e2 : Expr} {es : List Expr} {b1 more : List Stmt} {p1 p2 p3 p4 : Pos} (hr : Room k1 X.A) (hK : X.K = g.K) (hL : PE X lc (tBadLc X g k ib iF er ret ms)) (h2 : PW X (.BoolOp .Or (e2 :: es) p3) (rdT g E mt)) (h3 : PSs X b1 (rdS g E B m1)) (h4 : PSs X more (rdS g E B m3))
    (hm : behindInMarks .NotEq (.List [] p1) = false := by first | exact nomark _ | rfl) : PSs X (.If (.BoolOp .Or (.Compare lc [.NotEq] [.List [] p1] p2 :: e2 :: es) p3) b1 [] p4 :: more) (rdBad X g E B k ib ms (sBadThen iF er ret ms (sSeq (sIf mt m1 sNext) m3))) := by
  have test : PT X (.BoolOp .Or (.Compare lc [.NotEq] [.List [] p1] p2 :: e2 :: es) p3) (L2.tOr (tTest (tOp (rNeD X.K) (tBadLc X g k ib iF er ret ms) (tLst tNil))) (rdT g E mt)) := PW.pt (pw_or (pt_cmpR (op_neD (ru4 hr)) hL (pe_lst pa_nil) hm) h2)
  refine PSs.imp (pss_cons (ps_if test h3 (qNil (g := g) (E := E) (B := B))) h4) fun D σ H h => ?_
  refine badEq h fun a b r st' H' F' mu' rb post ha hb => ?_
  refine ⟨.list [], .list [], .lst (SqL.of ha) .nil, .lst (SqL.of hb) .nil, rfl, rfl, false, by rw [eqv_nil]; rfl, ?_⟩
  show rdT g E mt σ H' fun b H1 => if b = true then rdS g E B m1 { D with nx := rdS g E B m3 D } σ H1 else rdS g E B sNext { D with nx := rdS g E B m3 D } σ H1
  have post2 : PostS g E B F' mu' { D with nx := rdS g E B m3 D } (sIf mt m1 sNext r st') := by
    unfold sSeq at post
    cases hmm : sIf mt m1 sNext r st' with
    | nx r1 st1 =>
      rw [hmm] at post
      exact fun s' H' F' mu' rb' k => ⟨r1, st1, F', mu', rb', post.mono k⟩
    | rt d st1 => rw [hmm] at post; exact post
    | bk r1 st1 => rw [hmm] at post; exact post
    | ct r1 st1 => rw [hmm] at post; exact post
    | exc e r1 st1 => rw [hmm] at post; exact post
    | bad => rw [hmm] at post; exact post
  refine ⟨r, st', F', mu', rb.re, sbind rb post2 fun y st2 v H2 F2 mu2 _ e2 rb2 rp h' => ?_⟩
  subst rp
  cases y with
  | true => rw [if_pos rfl] at h' ⊢; exact ⟨r, st2, F2, mu2, rb2, h'⟩
  | false => rw [if_neg Bool.false_ne_true] at h' ⊢; exact ⟨r, st2, F2, mu2, rb2, h'⟩
end
end Mir
/-! H0: the head's facts with the tables of code objects of some defs; the end of a law. -/
namespace Hd
open PySem PySem.Spec PyProof.Rows L2 Mir
/-- the code object of the def at p, its table -/
def cdAt (K : PySem.W.Frag) (p : Str × Option Str) : Addr := match K.lookup (He.fAd K p) with
  | some ⟨_, _, .func fd, _⟩ => (match fd.code with
    | .ref c => c
    | _ => 0)
  | _ => 0
def tbAt (K : PySem.W.Frag) (p : Str × Option Str) : Addr := match K.lookup (cdAt K p) with
  | some ⟨_, _, .fields vs, _⟩ => (match (vs[11]? : Option Value) with
    | some (.ref t) => t
    | _ => 0)
  | _ => 0
def cdIs (K : PySem.W.Frag) (p : Str × Option Str) : Bool := match K.lookup (He.fAd K p) with
  | some ⟨_, _, .func fd, _⟩ => (match fd.code with
    | .ref c => decide (c = cdAt K p)
    | _ => false)
  | _ => false
theorem cdIs_ok {K : PySem.W.Frag} {p : Str × Option Str} (h : cdIs K p = true) {x q : Str} {params : Arguments} {body : List Stmt} {scope : Scope} {dvs : List V} {kws : List (Str × V)} {fd : FuncData} (F : FunD K x q params body scope dvs kws (He.fAd K p) fd) : fd.code = .ref (cdAt K p) := by
  obtain ⟨oc, od, dV, kV, doc, pm, an, cdv, ct, osl, rfl, lk, _⟩ := F.ex
  unfold cdIs at h
  rw [lk] at h
  dsimp only at h
  cases cdv with
  | ref c => exact congrArg Value.ref (of_decide_eq_true h)
  | _ => cases h
/-- all but the tables that are still empty -/
def noTab (g : Addr → Option Obj) (a : Addr) : Bool := match g a with
  | some ⟨.none, _, .fields vs, _⟩ => vs.size != 0
  | _ => true
def asT (g : Addr → Option Obj) (n : Nat) : List Addr := (He.asD g n).filter (noTab g)
abbrev AlT : Type := He.AlD × Bool × List (Option Obj)
def chk (cp : List (Str × Option Str)) (ex : PySem.W.Frag → Bool) (K : PySem.W.Frag) : Bool := (cp.all fun p => cdIs K p && (PySem.W.codeHdIn K (cdAt K p) (tbAt K p) && (K.lookup (tbAt K p)).isNone)) && ex K
def obsT (n : Nat) (fa : List He.Fa) (fn : List He.DefD) (cp : List (Str × Option Str)) (ex : PySem.W.Frag → Bool) (g : Addr → Option Obj) : AlT :=
  (He.obsD fa fn (He.frG g (asT g n)), chk cp ex (He.frG g (asT g n)), cp.map fun p => g (tbAt (He.frG g (asT g n)) p))
def valT (fn : List He.DefD) (cp : List (Str × Option Str)) : AlT := (He.valD fn, true, cp.map fun _ => some (PySem.W.tabObj #[]))
structure Says (fa : List He.Fa) (fn : List He.DefD) (cp : List (Str × Option Str)) (ex : PySem.W.Frag → Bool) (K : PySem.W.Frag) (h : Heap) : Prop where
  hK : K.In h
  says : He.SaysD fa fn K
  chk : chk cp ex K = true
  tab : ∀ p ∈ cp, h.get? (tbAt K p) = some (PySem.W.tabObj #[])
def hookT (n : Nat) (fa : List He.Fa) (fn : List He.DefD) (cp : List (Str × Option Str)) (ex : PySem.W.Frag → Bool) : PySem.W.Hook where
  α := AlT
  obs := fun s => obsT n fa fn cp ex s.heap.get?
  val := fun _ => valT fn cp
  says := fun _ h => ∃ K : PySem.W.Frag, Says fa fn cp ex K h
  of := fun _ s e => by
    have e1 : He.obsD fa fn (He.frG s.heap.get? (asT s.heap.get? n)) = He.valD fn := congrArg (fun z : AlT => z.1) e
    have e2 : chk cp ex (He.frG s.heap.get? (asT s.heap.get? n)) = true := congrArg (fun z : AlT => z.2.1) e
    have e3 : (cp.map fun p => s.heap.get? (tbAt (He.frG s.heap.get? (asT s.heap.get? n)) p)) = cp.map fun _ => some (PySem.W.tabObj #[]) := congrArg (fun z : AlT => z.2.2) e
    exact ⟨_, He.frG_in, e1, e2, fun p hp => List.map_inj_left.mp e3 p hp⟩
  keeps := fun _ _ _ ⟨K, c⟩ k => ⟨K, PySem.W.Frag.In.keeps c.hK k, c.says, c.chk, fun p hp => k _ _ (c.tab p hp)⟩
theorem obsT_eq {n : Nat} {fa : List He.Fa} {fn : List He.DefD} {cp : List (Str × Option Str)} {ex : PySem.W.Frag → Bool} {g : Addr → Option Obj} {s : Shared} (h : ∀ a, g a = s.heap.get? a) : obsT n fa fn cp ex g = (hookT n fa fn cp ex).obs s := by
  have e : g = s.heap.get? := funext h
  rw [e]
  rfl
section
variable {fa : List He.Fa} {fn : List He.DefD} {cp : List (Str × Option Str)} {ex : PySem.W.Frag → Bool} {K : PySem.W.Frag} {h : Heap}
theorem Says.ex_ (c : Says fa fn cp ex K h) : ex K = true := (He.ba c.chk).2
theorem Says.one (c : Says fa fn cp ex K h) {p : Str × Option Str} (hp : p ∈ cp) : cdIs K p = true ∧ PySem.W.CodeHd h (cdAt K p) (tbAt K p) ∧ K.lookup (tbAt K p) = none := by
  have h1 := List.all_eq_true.mp (He.ba c.chk).1 p hp
  obtain ⟨a, b⟩ := He.ba h1
  obtain ⟨b1, b2⟩ := He.ba b
  exact ⟨a, PySem.W.codeHd_of_K c.hK b1, Option.isNone_iff_eq_none.mp b2⟩
end
/-- the promise of a law whose mirror is always True -/
theorem lawSp {g : G} {f : FM} {H : Hp} {a : Addr} {ns : List Int} (ht : ∀ p ∈ g.tb, H p.1 = some (.tbl #[])) (hS : SqL g.K H a (ns.map V.int)) (hf : ∃ st, f [.scr (ns.map D.int)] [] = .ok (.bl true) st) :
    spOf g 1 f [.ref a] H (fun v _ => v = .bl true) fun _ _ _ => False := by
  have intRep : ∀ (F : Hp) (ns : List Int), RepL g F [] (ns.map D.int) (ns.map V.int) := fun F ns => by
    induction ns with
    | nil => exact .nil
    | cons n ns ih => exact .cons rfl ih
  obtain ⟨st, e⟩ := hf
  have key : ∀ F : Hp, (∀ b o, F b = some o → H b = some o) → (∀ b ps, F b ≠ some (.tbl ps)) → RepV g F [] (.scr (ns.map D.int)) (.ref a) → spOf g 1 f [.ref a] H (fun v _ => v = .bl true) fun _ _ _ => False := fun F h1 h2 h3 => by
    refine ⟨rfl, [.scr (ns.map D.int)], [], F, [], ⟨fun b o q => .inl (h1 b o q), rfl, .nil, fun n c q => ?_, fun p hp => ⟨#[], ht p hp, ?_, fun pos cv q => ?_⟩, h2⟩, .one h3, ?_⟩
    · cases q
    · exact trivial
    · cases q
    · rw [e]
      intro v H' F' mu' _ _ rp
      exact rp
  rcases hS with (hS | ⟨od, hS⟩) | hS
  · refine key (fun b => if b = a then H a else none) (fun b o q => ?_) (fun b ps q => ?_) ⟨a, ns.map V.int, rfl, .inr (.inl ?_), intRep _ ns⟩
    · by_cases c : b = a
      · subst c; simpa using q
      · rw [if_neg c] at q; cases q
    · by_cases c : b = a
      · subst c; rw [if_pos rfl, hS] at q; cases q
      · rw [if_neg c] at q; cases q
    · exact (if_pos rfl).trans hS
  · refine key (fun b => if b = a then H a else none) (fun b o q => ?_) (fun b ps q => ?_) ⟨a, ns.map V.int, rfl, .inl ⟨od, ?_⟩, intRep _ ns⟩
    · by_cases c : b = a
      · subst c; simpa using q
      · rw [if_neg c] at q; cases q
    · by_cases c : b = a
      · subst c; rw [if_pos rfl, hS] at q; cases q
      · rw [if_neg c] at q; cases q
    · exact (if_pos rfl).trans hS
  · exact key (fun _ => none) (fun b o q => by cases q) (fun b ps q => by cases q) ⟨a, ns.map V.int, rfl, .inr (.inr hS), intRep _ ns⟩
/-- one class is caught: the i-th -/
theorem caught1 {g : G} {i : Nat} {C : Addr} (h : g.ex i = some C) (x : PySem.W.exmOne g.K (.ref C) (.ref C) = some true) : Caught g C [i] := fun k hk => by
  have e : k = i := by simpa using hk
  subst e
  exact ⟨C, h, x⟩
theorem noLeave {P : Program} {w : World} (H : Hp) (s : Shared) (u : Value) (s' : Shared) : L2.CX P w [] H s (fun _ _ _ => False) u s' → False := fun ⟨_, _, _, _, _, _, _, _, _, _, _, _, q⟩ => q
end Hd
/-! E21: generator expressions: their own frame, the walk over them. -/
namespace GX
open PySem PySem.Spec PyProof.Rows L2 GenW
/-- the generator expression's scope -/
structure GeS (N : List Str) (sc scope : Scope) (own : List (Str × Nat)) : Prop where
  kind : scope.kind = .function
  co : scope.isCoroutine = false
  cell : ∀ y ∈ scope.names, y.2 ≠ .cell
  dot : scope.names.lookup (".0" : Str) = some NameKind.local
  dotN : (".0" : Str) ∉ N
  ix : ∀ p ∈ own, N[p.2]? = some p.1
  loc : ∀ y ∈ scope.names, y.2 = .local → y.1 = (".0" : Str) ∨ y.1 ∈ own.map (·.1)
  free : ∀ y ∈ scope.names, y.2 = .free → sc.names.lookup y.1 = some .cell ∨ sc.names.lookup y.1 = some .free
def geSB (N : List Str) (sc scope : Scope) (own : List (Str × Nat)) : Bool :=
  decide (scope.kind = .function) && !scope.isCoroutine && (scope.names.all fun y => !decide (y.2 = .cell)) && decide (scope.names.lookup (".0" : Str) = some NameKind.local) && decide ((".0" : Str) ∉ N) && (own.all fun p => decide (N[p.2]? = some p.1)) &&
    (scope.names.all fun y => !decide (y.2 = .local) || (decide (y.1 = (".0" : Str)) || decide (y.1 ∈ own.map (·.1)))) && (scope.names.all fun y => !decide (y.2 = .free) || (decide (sc.names.lookup y.1 = some .cell) || decide (sc.names.lookup y.1 = some .free)))
theorem geS_by {N : List Str} {sc scope : Scope} {own : List (Str × Nat)} (h : geSB N sc scope own = true) : GeS N sc scope own := by
  unfold geSB at h
  simp only [Bool.and_eq_true, Bool.or_eq_true, Bool.not_eq_true', decide_eq_true_eq, decide_eq_false_iff_not, List.all_eq_true] at h
  obtain ⟨⟨⟨⟨⟨⟨⟨h1, h2⟩, h3⟩, h4⟩, h5⟩, h6⟩, h7⟩, h8⟩ := h
  exact ⟨h1, h2, h3, h4, h5, h6, fun y hy e => (h7 y hy).resolve_left fun z => z e, fun y hy e => (h8 y hy).resolve_left fun z => z e⟩
/-- the context of its frame; the iterator's objects at fp -/
abbrev genCx (X : Cx) (A : Around) (s : Shared) (H : Hp) (fp : List Addr) (scope : Scope) (code : Value) (pn : List (Addr × Obj)) : Cx where
  prog := X.prog
  w := X.w
  K := X.K
  mg := X.mg
  base := X.base
  A := A.deeper (genEnv scope (cloFrom X.env.cells scope.names []) s.heap.objs.size code builtinsNs X.env)
  N := X.N
  s_0 := s
  H_0 := H
  env := genEnv scope (cloFrom X.env.cells scope.names []) s.heap.objs.size code builtinsNs X.env
  outer := X.stack
  stack := genEnv scope (cloFrom X.env.cells scope.names []) s.heap.objs.size code builtinsNs X.env :: X.stack
  ex := fp
  fn := fun _ => false
  calm := true
  pn := pn
  xe := fun _ _ => False
section
variable {X : Cx} {pins : List (Addr × Obj)} {σ : L2.St} {H : Hp} {s : Shared} {A : Around} {scope : Scope} {own : List (Str × Nat)} {fp : List Addr} {code : Value} {a : Addr} {go : Obj}
theorem nfr (I : Inv X pins σ H s) {b : Addr} (hb : s.heap.objs.size ≤ b) : b ∉ frs X.stack := fun z => by
  rcases List.mem_cons.mp (I.stkSub b z) with q | q
  · have := I.lt
    rw [← q] at this
    exact absurd (Nat.lt_of_lt_of_le this hb) (Nat.lt_irrefl _)
  · exact I.nofs hb q
/-- the frame as it begins -/
theorem gen_inv (hN : X.N.Nodup) (I : Inv X pins σ H s) (S : GeS X.N X.env.scope scope own) (hh : A.handled = none) (hfr : A.frames = some X.stack) (hfp : ∀ b ∈ fp, FpOk X pins H b ∧ b < s.heap.objs.size) {h5 : Heap} {tk : Nat} {dr : Drawn} {gs : Array GenState} {it : Value}
    (hns : h5.Ns s.heap.objs.size (fun y => if y = ".0" then some it else none)) (kp : ∀ b o, s.heap.get? b = some o → h5.get? b = some o) (hb : AllBare gs) (hgo : h5.get? a = some go) (ha : s.heap.objs.size < a) (hgd : ∀ v, go.data ≠ .cell v) :
    Inv (genCx X A s H fp scope code [(a, go)]) [] (wipe σ (own.map (·.2))) H { s with heap := h5, gens := gs, drawn := dr, toks := tk } := by
  have hfree : ∀ y ∈ scope.names, y.2 = .free → ∃ c, X.env.cells.lookup y.1 = some c := fun y hy e => by
    rcases S.free y hy e with k | k
    · exact I.ok.has _ (.inl k)
    · exact I.ok.has _ (.inr k)
  have cm : ∀ {y c}, (cloFrom X.env.cells scope.names []).lookup y = some c → X.env.cells.lookup y = some c := fun {y c} e => by
    rcases cloFrom_mem (PySem.mem_of_lookup e) with hm | ⟨h1, h2⟩
    · cases hm
    · obtain ⟨c1, hc⟩ := hfree _ h1 rfl
      have hc : X.env.cells.lookup y = some c1 := hc
      have e2 : c = c1 := by
        rw [h2, hc] <;> rfl
      rw [e2]
      exact hc
  have look : ∀ {y}, scope.names.lookup y = some .free → ∃ c, (cloFrom X.env.cells scope.names []).lookup y = some c := fun {y} hl => by
    have hy : (y, NameKind.free) ∈ scope.names := PySem.mem_of_lookup hl
    exact mem_lookup (cloFrom_has (cells := X.env.cells) (acc := []) hy)
  have cellLt : ∀ {y c}, (cloFrom X.env.cells scope.names []).lookup y = some c → c < s.heap.objs.size := fun {y c} e => by
    obtain ⟨v, z⟩ := I.cell y c (cm e)
    exact z.lt
  have cellK : ∀ {c : Addr} {v : Option Value}, s.heap.IsCell c v → h5.IsCell c v := fun {c v} ⟨o, ho, hd⟩ => ⟨o, kp _ _ ho, hd⟩
  have eN := I.env0
  refine ⟨⟨I.ok.mod, S.kind, I.ok.glob, rfl, Nat.le_refl _, fun y z c e1 e2 => I.ok.inj y z c (cm e1) (cm e2), fun y hy => ?_, fun y c z _ => ?_, fun _ => hh, Around.frames_deeper hfr, .inr ⟨rfl, rfl⟩,
      fun b hb => ⟨Nat.ne_of_lt (hfp b hb).2, fun y c e => (hfp b hb).1.2.2.2.2.1 y c (cm e)⟩, eN.bs, eN.bsz, fun b o e z => ?_, fun b hb z => ?_, eN.funs, eN.frf⟩,
    rfl, hb, Un.kept kp, ⟨_, hns, fun i y v e1 e2 e3 => ?_⟩, fun y c e => ?_, I.hok.fresh (Nat.le_refl _), fun y c e => ?_, fun q hq => ?_, I.hok.kept kp, by rw [wipe_length]; exact I.len⟩
  · have hy : scope.names.lookup y = some .cell ∨ scope.names.lookup y = some .free := hy
    rcases hy with hy | hy
    · exact absurd rfl (S.cell _ (PySem.mem_of_lookup hy))
    · exact look hy
  · have z : false = true := z
    cases z
  · obtain ⟨h1, _⟩ := hfp b z
    rcases h1.2.2.2.1 with q | q
    · exact I.ok.noex b o e q
    · have h2 := Heap.lt_size e
      exact absurd (Nat.lt_of_lt_of_le h2 (Nat.le_trans I.ok.bsz q)) (Nat.lt_irrefl _)
  · have z : b ∈ frs X.stack := z
    obtain ⟨h1, _⟩ := hfp b hb
    rcases List.mem_cons.mp (I.stkSub b z) with q | q
    · exact h1.2.1 q
    · exact h1.2.2.1 q
  · have e3 : Vis scope y := e3
    rcases e3 with k | k | k
    · rcases S.loc _ (PySem.mem_of_lookup k) rfl with q | q
      · exact absurd (List.mem_of_getElem? e1) (by rw [show y = (".0" : Str) from q]; exact S.dotN)
      · obtain ⟨p, hp, hp1⟩ := List.mem_map.mp q
        obtain ⟨_, e4⟩ := wipe_some e2
        have hx := S.ix p hp
        have : i = p.2 := by
          rw [hp1] at hx
          exact nodup_ix hN e1 hx
        exact absurd (List.mem_map.mpr ⟨p, hp, this.symm⟩) e4
    · exact absurd rfl (S.cell _ (PySem.mem_of_lookup k))
    · obtain ⟨m, hn, hl⟩ := I.loc
      have hvis : Vis X.env.scope y := (S.free _ (PySem.mem_of_lookup k) rfl).elim (fun k => .inr (.inl k)) (fun k => .inr (.inr k))
      obtain ⟨w', r, q⟩ := hl i y v e1 (wipe_some e2).1 hvis
      obtain ⟨c2, h2⟩ := look k
      refine ⟨w', r, .inr ⟨.inr k, c2, h2, ?_⟩⟩
      have c1 := cm h2
      rcases q with ⟨k', _⟩ | ⟨_, c3, e', z⟩
      · have k' : X.env.scope.names.lookup y = some .local := k'
        rcases S.free _ (PySem.mem_of_lookup k) rfl with k2 | k2 <;> rw [show X.env.scope.names.lookup y = _ from k2] at k' <;> cases k'
      · rw [c1] at e'
        cases e'
        exact cellK z
  · obtain ⟨w', z⟩ := I.cell y c (cm e)
    exact ⟨w', cellK z⟩
  · exact I.freeC y c (cm e)
  · have hq : q ∈ [(a, go)] ++ ([] : List (Addr × Obj)) := hq
    have e : q = (a, go) := by simpa using hq
    subst e
    refine ⟨hgo, I.hok.fresh (Nat.le_of_lt ha), Nat.ne_of_gt ha, nfr I (Nat.le_of_lt ha), hgd⟩
end
/-! ### the consumer: its own objects at cs, what it has got so far -/
structure Con (C : Type) where
  cs : List Addr
  enc : C → Heap → Prop
  loc : ∀ c h h', (∀ b ∈ cs, h'.get? b = h.get? b) → enc c h → enc c h'
  obj : ∀ c h, enc c h → ∀ b ∈ cs, ∃ o, h.get? b = some o ∧ ∀ v, o.data ≠ .cell v
/-- while the generator sleeps only the consumer's objects change -/
structure Slp (cs : List Addr) (s s' : Shared) : Prop where
  os : s'.os = s.os
  bare : AllBare s'.gens
  keep : ∀ b o, b ∉ cs → s.heap.get? b = some o → s'.heap.get? b = some o
/-- the objects at cs -/
def objsAt (cs : List Addr) (h : Heap) : List (Addr × Obj) := cs.filterMap fun b => (h.get? b).map fun o => (b, o)
theorem of_objsAt {cs : List Addr} {h : Heap} {p : Addr × Obj} (hp : p ∈ objsAt cs h) : p.1 ∈ cs ∧ h.get? p.1 = some p.2 := by
  obtain ⟨b, hb, e⟩ := List.mem_filterMap.mp hp
  cases q : h.get? b with
  | none => rw [q] at e; cases e
  | some o => rw [q] at e; cases e; exact ⟨hb, q⟩
theorem objsAt_eq {h h' : Heap} : ∀ {cs : List Addr}, (∀ b ∈ cs, h'.get? b = h.get? b) → objsAt cs h' = objsAt cs h
  | [], _ => rfl
  | b :: cs, e => by
    have ih := objsAt_eq (cs := cs) fun b hb => e b (List.mem_cons_of_mem _ hb)
    unfold objsAt at ih ⊢
    simp only [List.filterMap_cons, e b List.mem_cons_self, ih]
theorem mem_objsAt {cs : List Addr} {h : Heap} {b : Addr} {o : Obj} (hb : b ∈ cs) (e : h.get? b = some o) : (b, o) ∈ objsAt cs h := List.mem_filterMap.mpr ⟨b, hb, by rw [e]; rfl⟩
section
variable {Y : Cx} {rest : List (Addr × Obj)} {σ : L2.St} {H : Hp} {s s' : Shared} {cs : List Addr}
/-- woken again -/
theorem woken (I : Inv Y (objsAt cs s.heap ++ rest) σ H s) (hcs : ∀ b ∈ cs, (b ∈ Y.ex ∨ Y.s_0.heap.objs.size ≤ b) ∧ b ≠ Y.env.locals ∧ b ∉ Y.fs ∧ (∀ x c, Y.env.cells.lookup x = some c → c ≠ b) ∧ (∀ p ∈ Y.pn ++ rest, p.1 ≠ b) ∧ H b = none) (z : Slp cs s s') (ho : ∀ b ∈ cs, ∃ o, s'.heap.get? b = some o ∧ ∀ v, o.data ≠ .cell v) :
    Inv Y (objsAt cs s'.heap ++ rest) σ H s' := by
  have I0 : Inv Y rest σ H s := I.pins_of fun p hp => I.pin p (List.mem_append_right _ (List.mem_append_right _ hp))
  obtain ⟨z1, z2, z3⟩ := z
  have nt : ∀ b u, H b = some u → b ∉ cs := fun b u q hb => by
    have := (hcs b hb).2.2.2.2.2
    rw [q] at this
    cases this
  obtain ⟨hh, g, d, t, o⟩ := s'
  have ho' : o = s.os := z1
  subst ho'
  have J : Inv Y rest σ H { s with heap := hh, gens := g, drawn := d, toks := t } := by
    refine I0.step (g' := g) (t' := t) (d' := d) (ch := cs) (fun b hb => ?_)
      (fun b ob _ _ hc q _ => z3 b ob hc q) (fun b ob _ _ hc q _ => ⟨ob.slots, z3 b ob hc q⟩) (fun _ _ _ _ n => n) (fun b ob hc q => ⟨ob, z3 b ob hc q⟩)
      (fun _ _ q => q) (fun _ _ _ q => q) (fun b ps q => ⟨#[], by rw [q]; simp⟩) (fun m hm => ?_) (fun b u q => ?_) z2
    · obtain ⟨h1, h2, h3, h4, h5, _⟩ := hcs b hb
      exact ⟨h1, h2, h4, h5⟩
    · obtain ⟨ob, es, ep, ho, r⟩ := hm
      exact ⟨ob, es, ep, z3 _ ob (fun hc => (hcs _ hc).2.1 rfl) ho, r⟩
    · refine (I0.hok b u q).stay (fun c v hc y => z3 c v ?_ y) (fun _ y => y) fun _ _ y => y
      rcases hc with y | y
      · rw [y]; exact nt b u q
      · exact nt c _ y
  refine J.pins_of fun p hp => ?_
  rcases List.mem_append.mp hp with hp | hp
  · obtain ⟨h1, h2⟩ := of_objsAt hp
    obtain ⟨_, g2, g3, _, _, g6⟩ := hcs p.1 h1
    obtain ⟨o, e, d⟩ := ho p.1 h1
    have h2' : hh.get? p.1 = some p.2 := h2
    have e' : hh.get? p.1 = some o := e
    rw [h2'] at e'
    cases e'
    exact ⟨h2, g6, g2, g3, d⟩
  · exact J.pin p (List.mem_append_right _ hp)
end
/-! ### the run -/
/-- an item is handed out -/
def YG (X : Cx) (pins : List (Addr × Obj)) (σ : L2.St) {C : Type} (K : Con C) (em : C → V → Hp → (C → Hp → Prop) → Prop) (a : Addr) (g : Nat) : Protocol := fun n s₀ v s1 kap =>
  ∃ c y H' Nx, K.enc c s₀.heap ∧ (∀ b ∈ K.cs, s1.heap.get? b = s₀.heap.get? b) ∧ Inv X pins σ H' s1 ∧ s1.heap.IsGen a g ∧ (∀ b ∈ K.cs, H' b = none) ∧ RelV y v ∧ em c y H' Nx ∧
    ∀ c' s', Nx c' H' → Slp K.cs s1 s' → K.enc c' s'.heap → kap (.send .none) s'
/-- it ends -/
def RG (X : Cx) (pins : List (Addr × Obj)) (σ : L2.St) {C : Type} (K : Con C) (fin : C → Hp → Prop) (a : Addr) (g : Nat) : GenEnd := fun n s₀ r s1 =>
  r = .ok .next ∧ ∃ c H', K.enc c s₀.heap ∧ (∀ b ∈ K.cs, s1.heap.get? b = s₀.heap.get? b) ∧ Inv X pins σ H' s1 ∧ s1.heap.IsGen a g ∧ (∀ b ∈ K.cs, H' b = none) ∧ fin c H'
theorem over_gen {A : Around} {elt : Expr} {gens : List Comprehension} {scope : Scope} {pos : Pos} {it acc : Value} {env : Env} : A.over (.compLoop (.GeneratorExp elt gens scope pos) 0 it acc env) [] = A.deeper env := by
  first
    | rfl
    | (obtain ⟨hd, d, fr, gs, u⟩ := A; simp [Around.over, Around.deeper, marksOver, frameCount, unitsOf, envsOf, guardsOf, pushEnvs, pushGuards, Code.envs, Code.env?, Code.isFrame, Code.guards, Code.isGuard, Code.weight, Code.frames, Code.isCreation, Code.isCaller, Code.cUnits])
theorem over_genS {A : Around} {elt : Expr} {gens : List Comprehension} {scope : Scope} {pos : Pos} {it acc : Value} {env : Env} : A.over (.compStart (.GeneratorExp elt gens scope pos) 0 it acc env) [] = A.deeper env := by
  first
    | rfl
    | (obtain ⟨hd, d, fr, gs, u⟩ := A; simp [Around.over, Around.deeper, marksOver, frameCount, unitsOf, envsOf, guardsOf, pushEnvs, pushGuards, Code.envs, Code.env?, Code.isFrame, Code.guards, Code.isGuard, Code.weight, Code.frames, Code.isCreation, Code.isCaller, Code.cUnits])
/-- what a turn of the walk is to bring -/
def Turns {C : Type} (J : It) (gq : TG) (tt : TT) (te : TE) (vs : List Nat) (σ : L2.St) (em : C → V → Hp → (C → Hp → Prop) → Prop) (fin : C → Hp → Prop) (W : Nat → C → Nat → Hp → Prop) : Prop :=
  ∀ i c m H, W i c m H → (J.stop i H ∧ fin c H) ∨ (J.go i H ∧ ∃ Nx : C → Hp → Prop, (∀ c' H', Nx c' H' → ∃ m', m' < m ∧ W (i + 1) c' m' H') ∧ ∀ x H', J.yld i H x H' → gq x (wipe σ vs) H' fun σ2 H2 => wipe σ2 vs = wipe σ vs ∧ tt σ2 H2 fun b H3 =>
    if b = true then te σ2 H3 fun y H4 => em c y H4 Nx else Nx c H3)
section
variable {C : Type} {X : Cx} {pins : List (Addr × Obj)} {σ : L2.St} {Hc : Hp} {sc : Shared} {A : Around} {scope : Scope} {own : List (Str × Nat)} {fp : List Addr} {code : Value} {a it : Addr} {go : Obj} {g : Nat} {tg elt iter : Expr} {ifs : List Expr} {pos : Pos} {tn : Nat → Heap → Prop} {J : It} {gq : TG} {tt : TT} {te : TE}
  {em : C → V → Hp → (C → Hp → Prop) → Prop} {fin : C → Hp → Prop} {W : Nat → C → Nat → Hp → Prop}
theorem seg_gen (K : Con C) (Ic : Inv X pins σ Hc sc) (hfp : ∀ b ∈ fp, FpOk X pins Hc b ∧ b < sc.heap.objs.size) (hgen : ∀ h : Heap, h.get? a = some go → h.IsGen a g) (ha : sc.heap.objs.size < a) (hcs : ∀ b ∈ K.cs, a < b) (hco : scope.isCoroutine = false)
    (T : Turn X.prog X.w X.K tg J fp it tn) (hg : PG (genCx X A sc Hc fp scope code [(a, go)]) tg gq) (ht : PTs (genCx X A sc Hc fp scope code [(a, go)]) ifs tt) (he : PE (genCx X A sc Hc fp scope code [(a, go)]) elt te) (turn : Turns J gq tt te (own.map (·.2)) σ em fin W) :
    ∀ (m n i : Nat) (c : C) (s₀ s : Shared) (H : Hp), m < n → Inv (genCx X A sc Hc fp scope code [(a, go)]) (objsAt K.cs s.heap ++ []) (wipe σ (own.map (·.2))) H s → tn i s.heap → (∀ b ∈ fp, H b = none) → (∀ b ∈ K.cs, H b = none) → W i c m H → K.enc c s.heap → (∀ b ∈ K.cs, s.heap.get? b = s₀.heap.get? b) →
      Seg (model X.prog X.w) A (RG X pins σ K fin a g) (YG X pins σ K em a g) n s₀ (.compLoop (.GeneratorExp elt [⟨tg, iter, ifs, 0⟩] scope pos) 0 (.ref it) .none (genEnv scope (cloFrom X.env.cells scope.names []) sc.heap.objs.size code builtinsNs X.env))
        ((model X.prog X.w).den (.compLoop (.GeneratorExp elt [⟨tg, iter, ifs, 0⟩] scope pos) 0 (.ref it) .none (genEnv scope (cloFrom X.env.cells scope.names []) sc.heap.objs.size code builtinsNs X.env))) [] s := by
  have cells : ∀ x c, (cloFrom X.env.cells scope.names []).lookup x = some c → True := fun _ _ _ => trivial
  intro m
  induction m using Nat.strongRecOn with
  | ind m ih =>
    intro n i c s₀ s H hmn I st nfp ncs w hen hsame
    have okY := I.ok
    have hpl : ∀ p ∈ objsAt K.cs s.heap ++ ([] : List (Addr × Obj)), p.1 ∈ K.cs := fun p hp => by
      rcases List.mem_append.mp hp with hp | hp
      · exact (of_objsAt hp).1
      · cases hp
    have stat : ∀ {H' : Hp}, (∀ b ∈ fp, H' b = none) → ∀ b ∈ fp, FpOk (genCx X A sc Hc fp scope code [(a, go)]) (objsAt K.cs s.heap ++ []) H' b := fun {H'} hn b hb =>
      ⟨hn b hb, (okY.exf b hb).1, okY.exfs b hb, .inl hb, fun x c e => (okY.exf b hb).2 x c e, fun p hp => by
        have hlt := (hfp b hb).2
        rcases List.mem_append.mp hp with hp | hp
        · have e : p = (a, go) := by simpa using hp
          subst e
          intro z
          have z : a = b := z
          rw [← z] at hlt
          exact Nat.lt_irrefl _ (Nat.lt_trans hlt ha)
        · intro z
          have h2 := hcs p.1 (hpl p hp)
          rw [z] at h2
          exact Nat.lt_irrefl _ (Nat.lt_trans (Nat.lt_trans hlt ha) h2)⟩
    have outer : ∀ {pl : List (Addr × Obj)} {σ' : L2.St} {H' : Hp} {s' : Shared}, Inv (genCx X A sc Hc fp scope code [(a, go)]) pl σ' H' s' → Inv X pins σ H' s' ∧ s'.heap.IsGen a g := fun {pl σ' H' s'} I' => by
      refine ⟨Ic.call' (ch := fp) I'.os I'.base I'.hok I'.bare fun b hb => ?_, hgen _ (I'.pin (a, go) (List.mem_append_left _ (List.mem_singleton.mpr rfl))).1⟩
      obtain ⟨f0, f1, f2, f3, f4, f5⟩ := (hfp b hb).1
      exact ⟨f3, f1, f4, f5⟩
    have same : ∀ {rest : List (Addr × Obj)} {σ' : L2.St} {H' : Hp} {s' : Shared}, Inv (genCx X A sc Hc fp scope code [(a, go)]) (objsAt K.cs s.heap ++ [] ++ rest) σ' H' s' → (∀ b ∈ K.cs, s'.heap.get? b = s.heap.get? b ∧ H' b = none) := fun {rest σ' H' s'} I' b hb => by
      obtain ⟨o, e, _⟩ := K.obj c _ hen b hb
      have p := I'.pin (b, o) (List.mem_append_right _ (List.mem_append_left _ (List.mem_append_left _ (mem_objsAt hb e))))
      exact ⟨by rw [e]; exact p.1, p.2.1⟩
    have hen0 : K.enc c s₀.heap := K.loc c _ _ (fun b hb => (hsame b hb).symm) hen
    show Seg _ A _ _ n s₀ _ ((compTurn (.GeneratorExp elt [⟨tg, iter, ifs, 0⟩] scope pos) 0 (.ref it) .none (genEnv scope (cloFrom X.env.cells scope.names []) sc.heap.objs.size code builtinsNs X.env)).onRaise (leaving (genEnv scope (cloFrom X.env.cells scope.names []) sc.heap.objs.size code builtinsNs X.env))) [] s
    rw [compTurn_gen, Sem.onRaise_eq_wrap]
    refine seg_bind_wrap (wpAny_standAt ?_)
    refine seg_bind_wrap ?_
    rw [over_gen]
    rcases turn i c m H w with ⟨stop, qf⟩ | ⟨hgo, Nx, hNx, step⟩
    · refine thnF (T.done (genCx X A sc Hc fp scope code [(a, go)]) rfl rfl rfl rfl i _ s _ H (fun _ _ => False) I (stat nfp) st stop) fun r s1 ⟨hr, I1⟩ => ?_
      subst hr
      have I1' : Inv (genCx X A sc Hc fp scope code [(a, go)]) (objsAt K.cs s.heap ++ [] ++ []) (wipe σ (own.map (·.2))) H s1 := by rw [List.append_nil]; exact I1
      obtain ⟨o1, o2⟩ := outer I1
      exact seg_end (.ok .next) ⟨rfl, c, H, hen0, fun b hb => ((same I1' b hb).1).trans (hsame b hb), o1, o2, ncs, qf⟩
    · refine thnF (T.item (genCx X A sc Hc fp scope code [(a, go)]) rfl rfl rfl rfl i _ s _ H (fun _ _ => False) I (stat nfp) st hgo) fun r s1 ⟨u, hr, h1⟩ => ?_
      subst hr
      refine seg_bind_wrap ?_
      rw [over_gen]
      refine thnF h1 fun _ s2 ⟨x, H2, I2, r2, y2, st2, n2⟩ => ?_
      have I2' := I2.pinned (stat n2) (T.obj _ _ st2)
      refine seg_bind_wrap ?_
      rw [over_gen]
      refine thnF (hg.run _ s2 _ H2 x u _ I2' r2 (step x H2 y2)) fun _ s3 ⟨σ3, H3, I3, hw3, q3⟩ => ?_
      refine seg_bind_wrap ?_
      rw [over_gen]
      refine thnF (ht.run _ s3 σ3 H3 _ I3 q3) fun b s4 ⟨H4, I4, q4⟩ => ?_
      have pinFp : ∀ {σ' : L2.St} {H' : Hp} {s' : Shared} {pl : List (Addr × Obj)}, Inv (genCx X A sc Hc fp scope code [(a, go)]) (pl ++ pinsAt fp s2.heap) σ' H' s' → ∀ b ∈ fp, ∀ o, s2.heap.get? b = some o → s'.heap.get? b = some o ∧ H' b = none := fun {σ' H' s' pl} I' b hb o e =>
        let z := I'.pin (b, o) (List.mem_append_right _ (List.mem_append_right _ (mem_pinsAt hb e)))
        ⟨z.1, z.2.1⟩
      have hl : (wipe σ (own.map (·.2))).length = σ3.length := by rw [← hw3, wipe_length]
      have weak : ∀ {pl : List (Addr × Obj)} {H' : Hp} {s' : Shared}, Inv (genCx X A sc Hc fp scope code [(a, go)]) (pl ++ pinsAt fp s2.heap) σ3 H' s' → Inv (genCx X A sc Hc fp scope code [(a, go)]) pl (wipe σ (own.map (·.2))) H' s' := fun {pl H' s'} I' => (I'.unpinned (pins := pl)).weak hl fun j v e => by
        rw [← hw3] at e
        exact (wipe_some e).1
      have fpNone : ∀ {σ' : L2.St} {H' : Hp} {s' : Shared} {pl : List (Addr × Obj)}, Inv (genCx X A sc Hc fp scope code [(a, go)]) (pl ++ pinsAt fp s2.heap) σ' H' s' → tn (i + 1) s'.heap ∧ ∀ b ∈ fp, H' b = none := fun {σ' H' s' pl} I' =>
        ⟨T.keep _ _ _ st2 fun b hb o e => (pinFp I' b hb o e).1, fun b hb => by
          obtain ⟨o, e, _⟩ := T.obj _ _ st2 b hb
          exact (pinFp I' b hb o e).2⟩
      cases b with
      | false =>
        simp only [Bool.false_eq_true, if_false] at q4 ⊢
        obtain ⟨m', hm', w'⟩ := hNx c H4 q4
        have sm := same I4
        obtain ⟨t1, t2⟩ := fpNone I4
        have hsm : objsAt K.cs s4.heap = objsAt K.cs s.heap := by
          exact objsAt_eq fun b hb => (sm b hb).1
        refine seg_again rfl (ih m' hm' n (i + 1) c s₀ s4 H4 (by omega) ?_ t1 t2 (fun b hb => (sm b hb).2) w' (K.loc c _ _ (fun b hb => (sm b hb).1) hen) fun b hb => ((sm b hb).1).trans (hsame b hb))
        rw [hsm]
        exact weak I4
      | true =>
        simp only [if_true] at q4 ⊢
        have hy : ∀ v, yieldOut (genEnv scope (cloFrom X.env.cells scope.names []) sc.heap.objs.size code builtinsNs X.env) v = yieldValue v := fun v => by
          have : (genEnv scope (cloFrom X.env.cells scope.names []) sc.heap.objs.size code builtinsNs X.env).scope.isCoroutine = false := hco
          simp only [yieldOut, this, Bool.false_eq_true, if_false]
        simp only [hy]
        rw [Sem.bind_eq_wrap', Sem.bind_eq_wrap', Sem.wrap_wrap, Sem.wrap_wrap]
        refine seg_wrap ?_
        rw [over_gen]
        refine thnF (he.run _ s4 σ3 H4 _ I4 q4) fun z s5 ⟨y, H5, I5, r5, q5⟩ => ?_
        obtain ⟨n', rfl⟩ : ∃ n', n = n' + 1 := ⟨n - 1, by omega⟩
        have sm := same I5
        obtain ⟨t1, t2⟩ := fpNone I5
        obtain ⟨o1, o2⟩ := outer I5
        refine seg_at (seg_yield rfl rfl rfl ⟨c, y, H5, Nx, hen0, fun b hb => ((sm b hb).1).trans (hsame b hb), o1, o2, fun b hb => (sm b hb).2, r5, q5, fun c' s' nx sl en' => ?_⟩)
        obtain ⟨m', hm', w'⟩ := hNx c' H5 nx
        have hsm : objsAt K.cs s5.heap = objsAt K.cs s.heap := by
          exact objsAt_eq fun b hb => (sm b hb).1
        have I5' : Inv (genCx X A sc Hc fp scope code [(a, go)]) (objsAt K.cs s5.heap ++ ([] ++ pinsAt fp s2.heap)) σ3 H5 s5 := by
          rw [hsm, ← List.append_assoc]; exact I5
        have I6 := woken I5' (fun b hb => by
          have hb' := hcs b hb
          have hlt : sc.heap.objs.size < b := Nat.lt_trans ha hb'
          refine ⟨.inr (Nat.le_of_lt hlt), Nat.ne_of_gt hlt, nfr Ic (Nat.le_of_lt hlt), fun x cc e => ?_, fun p hp => ?_, (sm b hb).2⟩
          · have e1 : (genCx X A sc Hc fp scope code [(a, go)]).env.cells.lookup x = some cc := e
            obtain ⟨v, o, ho, hd⟩ := I5.cell x cc e1
            intro z
            rw [z] at ho
            obtain ⟨o', e', d'⟩ := K.obj c _ hen b hb
            rw [(sm b hb).1, e'] at ho
            cases ho
            exact d' v hd
          · rcases List.mem_append.mp hp with hp | hp
            · have e : p = (a, go) := by simpa using hp
              subst e
              exact Nat.ne_of_lt hb'
            · rw [List.nil_append] at hp
              have h3 := (of_pinsAt hp).1
              exact Nat.ne_of_lt (Nat.lt_trans (hfp p.1 h3).2 hlt)) sl (K.obj c' _ en')
        obtain ⟨t3, t4⟩ := fpNone (pl := objsAt K.cs s'.heap ++ []) (by rw [List.append_assoc]; exact I6)
        refine seg_again rfl (ih m' hm' n' (i + 1) c' s' s' H5 (by omega) (weak (by rw [List.append_assoc]; exact I6)) t3 t4 (fun b hb => (sm b hb).2) w' en' fun b hb => rfl)
end
/-- a generator that has not begun -/
structure GFresh (X : Cx) (pins : List (Addr × Obj)) (σ : L2.St) (gq : TG) (tt : TT) (te : TE) (vs : List Nat) (k : Nat) (J : It) (H : Hp) (a : Addr) (g : Nat) (s : Shared) : Prop where
  inv : Inv X pins σ H s
  gen : s.heap.IsGen a g
  lt : a < s.heap.objs.size
  wake : ∃ c, s.gens[g]? = some (.fresh c) ∧ ∀ {C : Type} (K : Con C) (em : C → V → Hp → (C → Hp → Prop) → Prop) (fin : C → Hp → Prop) (W : Nat → C → Nat → Hp → Prop) (A : Around) (n m : Nat) (c0 : C) (s' : Shared), Room k A → A.frames = some X.stack → Turns J gq tt te vs σ em fin W →
    W 0 c0 m H → m < n → (∀ b ∈ K.cs, s.heap.objs.size ≤ b) → (∀ b o, s.heap.get? b = some o → s'.heap.get? b = some o) → s'.os = s.os → AllBare s'.gens → K.enc c0 s'.heap →
    Seg (model X.prog X.w) A (RG X pins σ K fin a g) (YG X pins σ K em a g) n s' c ((model X.prog X.w).den c) [] s'
section
variable {X : Cx} {pins : List (Addr × Obj)} {σ : L2.St} {H : Hp} {s : Shared} {scope : Scope} {own : List (Str × Nat)} {tg elt iter : Expr} {ifs : List Expr} {gpos : Pos} {gq : TG} {tt : TT} {te : TE} {wi : TI} {k : Nat}
/-- the generator expression is made -/
theorem gen_make {T : List (Addr × Str)} {c P : Addr} {R : It → Hp → Prop} {Q' : Value → Shared → Prop} (hN : X.N.Nodup) (hr : Room k X.A) (I : Inv X pins σ H s) (S : GeS X.N X.env.scope scope own) (TB : LamX.TabB X.base X.mg c P) (hcode : X.env.code = .ref c)
    (hm : (P, X.env.qual ++ ("<genexpr>" : Str)) ∈ T) (hu : ∀ p ∈ T, p.1 = P → p.2 = X.env.qual ++ ("<genexpr>" : Str)) (hi : PI X tg iter wi)
    (hg : ∀ (A : Around) (s : Shared) (H : Hp) (fp : List Addr) (code : Value) (pn : List (Addr × Obj)), PG (genCx X A s H fp scope code pn) tg gq)
    (ht : ∀ (A : Around) (s : Shared) (H : Hp) (fp : List Addr) (code : Value) (pn : List (Addr × Obj)), Room k (genCx X A s H fp scope code pn).A → PTs (genCx X A s H fp scope code pn) ifs tt)
    (he : ∀ (A : Around) (s : Shared) (H : Hp) (fp : List Addr) (code : Value) (pn : List (Addr × Obj)), Room k (genCx X A s H fp scope code pn).A → PE (genCx X A s H fp scope code pn) elt te)
    (h : wi σ H fun J H1 => LamX.Tabs T H1 ∧ ∀ H2, LamX.ExtN H1 H2 → LamX.Tabs T H2 → R J H2) (hs : ∀ v, genFold iter X.env v = pure v)
    (hQ : ∀ J H2 a g s5, R J H2 → GFresh X pins σ gq tt te (own.map (·.2)) (k + 1) J H2 a g s5 → Q' (.ref a) s5) :
    wpAny (model X.prog X.w) X.A (eval (.GeneratorExp elt [⟨tg, iter, ifs, 0⟩] scope gpos) X.env) Q' X.xe s := by
  have hfree : ∀ y ∈ scope.names, y.2 = .free → ∃ c, X.env.cells.lookup y.1 = some c := fun y hy e => by
    rcases S.free y hy e with k | k
    · exact I.ok.has _ (.inl k)
    · exact I.ok.has _ (.inr k)
  refine wpAny_GeneratorExp_make S.co (closure_ok hfree) S.cell S.dot S.kind (by have := hr.dp; omega) (thn (hi.run pins s σ H _ I h) fun xv s1 h1 => thn h1 fun itv s2 h2 => ?_) hs
  obtain ⟨it, fp, tn, J, H2, e, I2, Tn, st2, f2, hT, q⟩ := h2
  subst e
  have sz2 : ∀ b ∈ fp, b < s2.heap.objs.size := fun b hb => by
    obtain ⟨o, e, _⟩ := Tn.obj _ _ st2 b hb
    exact Heap.lt_size e
  obtain ⟨ps, hP, htr, hamong⟩ := hT _ hm
  have hP' : s2.heap.get? P = some { cls := .none, data := .fields ps } := I2.hok P _ hP
  have cd : PySem.W.CodeHd s2.heap c P := TB.code.keeps I2.bk
  -- behind the code object
  have cont : ∀ (code : Value) (H3 : Hp) (s3 : Shared), Inv X pins σ H3 s3 → (∀ b o, b ≠ P → s2.heap.get? b = some o → s3.heap.get? b = some o) → s2.heap.objs.size ≤ s3.heap.objs.size → (∀ b ∈ fp, H3 b = none) → R J H3 →
      wpAny (model X.prog X.w) X.A (builtinsFor X.env.globals X.env.builtins) (fun bi s₄ => ∀ h', h'.Ns s₄.heap.objs.size (fun y => if y = ".0" then some (Value.ref it) else none) → Heap.SameBut s₄.heap.objs.size (s₄.heap.push { cls := .type "frame", data := .dict #[] }) h' →
        Q' (.ref h'.objs.size) { s₄ with
            gens := s₄.gens.push (.fresh (.compStart (.GeneratorExp elt [⟨tg, iter, ifs, 0⟩] scope gpos) 0 (.ref it) .none (genEnv scope (cloFrom X.env.cells scope.names []) s₄.heap.objs.size code bi X.env))),
            toks := s₄.toks + 1 + 1 + 1,
            heap := h'.push { cls := .type "generator", data := .fields #[.int s₄.gens.size 0, .str "<genexpr>" (s₄.toks + 1), .str (X.env.qual ++ "<genexpr>") (s₄.toks + 1 + 1)] } }) X.xe s3 := by
    intro code H3 s3 I3 kp23 sz23 n3 hR
    obtain ⟨bm, ob, e1, e2, e3, e4, e5, e6, e7, e8⟩ := TB.bm
    refine wpAny_builtinsFor (m := X.mg) (by rw [I3.ok.glob]; exact I3.mod.glob.keeps I3.bk) e1 e2 (I3.bk _ _ e5) e6 e7 e8 ?_
    intro h' hns hsb
    have hsz : h'.objs.size = s3.heap.objs.size + 1 := by rw [hsb.1, Heap.size_push]
    have kp3 : ∀ b o, s3.heap.get? b = some o → h'.get? b = some o := fun b o e => hsb.extBut b o (Nat.ne_of_lt (Heap.lt_size e)) (Heap.get?_push_of_some _ e)
    have f3 : ∀ b ∈ fp, FpOk X pins H3 b ∧ b < s3.heap.objs.size := fun b hb => ⟨⟨n3 b hb, (f2 b hb).2⟩, Nat.lt_of_lt_of_le (sz2 b hb) sz23⟩
    have nfpP : ∀ b ∈ fp, b ≠ P := fun b hb z => by
      have := (f2 b hb).1
      rw [z, hP] at this
      cases this
    have st3 : tn 0 s3.heap := Tn.keep _ _ _ st2 fun b hb o e => kp23 b o (nfpP b hb) e
    obtain ⟨go, hgo⟩ : ∃ go : Obj, go = { cls := .type "generator", data := .fields #[.int s3.gens.size 0, .str "<genexpr>" (s3.toks + 1), .str (X.env.qual ++ "<genexpr>") (s3.toks + 1 + 1)] } := ⟨_, rfl⟩
    rw [← hgo]
    have hgp : (h'.push go).get? h'.objs.size = some go := by rw [hgo]; exact Heap.get?_push_size _ rfl
    have hgen : ∀ h : Heap, h.get? h'.objs.size = some go → h.IsGen h'.objs.size s3.gens.size := fun h e => ⟨go, _, _, e, by rw [hgo], by rw [hgo], by rw [hgo]⟩
    have hgd : ∀ v, go.data ≠ .cell v := fun v z => by rw [hgo] at z; cases z
    have kp5 : ∀ b o, s3.heap.get? b = some o → (h'.push go).get? b = some o := fun b o e => Heap.get?_push_of_some _ (kp3 b o e)
    have I5 : Inv X pins σ H3 { s3 with gens := s3.gens.push (.fresh (.compStart (.GeneratorExp elt [⟨tg, iter, ifs, 0⟩] scope gpos) 0 (.ref it) .none (genEnv scope (cloFrom X.env.cells scope.names []) s3.heap.objs.size code builtinsNs X.env))), toks := s3.toks + 1 + 1 + 1, heap := h'.push go } :=
      I3.call' (ch := []) rfl (Un.kept kp5) (I3.hok.kept kp5) (AllBare.push I3.bare rfl) fun b z => by cases z
    refine hQ J H3 _ s3.gens.size _ hR ⟨I5, hgen _ hgp, by show _ < (h'.push go).objs.size; rw [Heap.size_push]; exact Nat.lt_succ_self _, _, Array.getElem?_push_size .., ?_⟩
    intro C K em fin W A n m c0 s' hrA hfr turn w0 hmn hcs hk hos hbare hen
    have hcs' : ∀ b ∈ K.cs, h'.objs.size < b := fun b hb => by
      have h1 : (h'.push go).objs.size ≤ b := hcs b hb
      rw [Heap.size_push] at h1
      exact h1
    have haC : s3.heap.objs.size < h'.objs.size := by omega
    have kp' : ∀ b o, s3.heap.get? b = some o → s'.heap.get? b = some o := fun b o e => hk b o (kp5 b o e)
    have hgo' : s'.heap.get? h'.objs.size = some go := hk _ _ hgp
    have hns' : s'.heap.Ns s3.heap.objs.size (fun y => if y = ".0" then some (Value.ref it) else none) := hns.keeps fun b o e => hk b o (Heap.get?_push_of_some _ e)
    have IY : Inv (genCx X A s3 H3 fp scope code [(h'.objs.size, go)]) [] (wipe σ (own.map (·.2))) H3 s' := by
      obtain ⟨sh, sg, sd, stk, so⟩ := s'
      have hos : so = s3.os := hos
      subst hos
      exact gen_inv hN I3 S hrA.hd hfr f3 hns' kp' hbare hgo' haC hgd
    have IY' : Inv (genCx X A s3 H3 fp scope code [(h'.objs.size, go)]) (objsAt K.cs s'.heap ++ []) (wipe σ (own.map (·.2))) H3 s' := IY.pins_of fun p hp => by
      rcases List.mem_append.mp hp with hp | hp
      · obtain ⟨h1, h2⟩ := of_objsAt hp
        obtain ⟨o, e, d⟩ := K.obj c0 _ hen p.1 h1
        rw [h2] at e
        cases e
        have hlt := Nat.lt_trans haC (hcs' p.1 h1)
        exact ⟨h2, I3.hok.fresh (Nat.le_of_lt hlt), Nat.ne_of_gt hlt, nfr I3 (Nat.le_of_lt hlt), d⟩
      · cases hp
    have st' : tn 0 s'.heap := Tn.keep _ _ _ st3 fun b _ o e => kp' b o e
    have hrG : Room k (genCx X A s3 H3 fp scope code [(h'.objs.size, go)]).A := hrA.deeper _
    have loop := seg_gen (elt := elt) (iter := iter) (ifs := ifs) (pos := gpos) (own := own) K I3 f3 hgen haC hcs' S.co Tn (hg A s3 H3 fp code _) (ht A s3 H3 fp code _ hrG) (he A s3 H3 fp code _ hrG) turn m n 0 c0 s' s' H3 hmn IY' st' n3 (fun b hb => I3.hok.fresh (Nat.le_of_lt (Nat.lt_trans haC (hcs' b hb)))) w0 hen fun _ _ => rfl
    show Seg _ A _ _ n s' _ ((compStart (.GeneratorExp elt [⟨tg, iter, ifs, 0⟩] scope gpos) 0 (.ref it) .none (genEnv scope (cloFrom X.env.cells scope.names []) s3.heap.objs.size code builtinsNs X.env)).onRaise (leaving _)) [] s'
    unfold compStart
    rw [Sem.onRaise_eq_wrap]
    show Seg _ A _ _ n s' _ ((ask >>= _).wrap _ _ _ _) [] s'
    refine seg_bind_wrap (wpAny_askSetting ?_)
    split
    · exact seg_again rfl loop
    · first
        | exact seg_bind_wrap (wpAny_rule (seg_bind_wrap (wpAny_standAt (seg_bind_wrap (Tn.self _ 0 s' _ _ st' (seg_again rfl loop))))))
        | (refine seg_bind_wrap (wpAny_rule ?_); show Seg _ A _ _ n s' _ ((standAt iter.pos >>= _).wrap _ _ _ _) [] s'; exact seg_bind_wrap (wpAny_standAt (seg_bind_wrap (Tn.self _ 0 s' _ _ st' (seg_again rfl loop)))))
  refine ⟨I2.nolimit, ?_⟩
  cases hf : codeAmong gpos ps.toList with
  | none =>
    refine wpAny_genexprCodeX hcode (cd.code hP' htr) (cd.tab hP') hf fun c' h' tk hx hge hlt hco' hrec htab' _ => ?_
    obtain ⟨c2, oc, vs, t, e2, hoc, hd, hv⟩ := hrec
    cases e2
    have nC : H2 c' = none := I2.hok.fresh hge
    have I3 := LamX.inv_table (t' := tk) (more := #[rawInt gpos.line, rawInt gpos.col, .ref c']) (h' := h') I2 hP (fun b o hb e => hx b o hb e) htab'.2 hge ⟨oc, vs, t, hoc, hd, hv⟩
    have hE : LamX.ExtN H2 (upd (upd H2 P (.tbl (ps ++ #[rawInt gpos.line, rawInt gpos.col, .ref c']))) c' (LamX.CodeO c' (X.env.qual ++ ("<genexpr>" : Str)))) := fun b o e n => by
      rw [upd_ne (ne_of_none e nC), upd_ne (fun z => n ps (Option.some.inj (e.symm.trans (by rw [z]; exact hP))))]
      exact e
    have eL : (ps ++ #[rawInt gpos.line, rawInt gpos.col, .ref c']).toList = ps.toList ++ [rawInt gpos.line, rawInt gpos.col, .ref c'] := by simp
    refine cont _ _ _ I3 (fun b o hb e => hx b o hb e) (Nat.le_trans hge (Nat.le_of_lt hlt)) (fun b hb => ?_) (q _ hE fun p hp => ?_)
    · have n1 := (f2 b hb).1
      have h1 : b ≠ c' := fun z => by
        have h3 : c' < s2.heap.objs.size := by rw [← z]; exact sz2 b hb
        exact Nat.lt_irrefl _ (Nat.lt_of_lt_of_le h3 hge)
      rw [upd_ne h1, upd_ne (fun z => by rw [z, hP] at n1; cases n1)]
      exact n1
    · by_cases hb : p.1 = P
      · rw [hu p hp hb, hb]
        refine ⟨_, by rw [upd_ne (ne_of_none hP nC), upd_same], by rw [eL]; exact PySem.TriplesOk_snoc _ _ _ _ htr, fun p' cv hcv => ?_⟩
        rw [eL] at hcv
        rcases LamX.among_app _ htr hcv with z | z
        · obtain ⟨c0, e1, e2⟩ := hamong p' cv z
          exact ⟨c0, e1, hE _ _ e2 LamX.codeO_ne⟩
        · exact ⟨c', z, upd_same⟩
      · obtain ⟨ps', a1, a2, a3⟩ := hT p hp
        refine ⟨ps', by rw [upd_ne (ne_of_none a1 nC), upd_ne hb]; exact a1, a2, fun p' cv hcv => ?_⟩
        obtain ⟨c0, e1, e2⟩ := a3 p' cv hcv
        exact ⟨c0, e1, hE _ _ e2 LamX.codeO_ne⟩
  | some cv =>
    refine wpAny_genexprCode_hit hcode (cd.code hP' htr) hf ?_
    exact cont cv H2 s2 I2 (fun _ _ _ e => e) (Nat.le_refl _) (fun b hb => (f2 b hb).1) (q H2 (LamX.ExtN.refl _) hT)
end
end GX
/-! E1g: generator expressions, plain. -/
namespace Mir
/-- what a consumer makes of an item: its state from then on, whether it stops; none: nothing is said -/
def genLoop {C : Type} (cons : C → D → Option (C × Bool)) (tg : Tg) (t : TM) (e : EM) (vs : List Nat) (w : Watch) (r : Env) : List D → C → St → Out C
  | [], c, s => .ok c s
  | d :: ds, c, s => match bindT tg d (wipeE vs r) with
    | none => .bad
    | some r1 => match t r1 s with
      | .ok true s1 => match e r1 s1 with
        | .ok (.val y) s2 => match cons c y with
          | some (c', true) => .ok c' s2
          | some (c', false) => if w.ok s2 = true then genLoop cons tg t e vs w r ds c' s2 else .bad
          | none => .bad
        | _ => .bad
      | .ok false s1 => if w.ok s1 = true then genLoop cons tg t e vs w r ds c s1 else .bad
      | _ => .bad
def genK {C : Type} (fin : C → Option D) : Out C → Out Opd
  | .ok c s => orBad s ((fin c).map Opd.val)
  | _ => .bad
def eGen {C : Type} (cons : C → D → Option (C × Bool)) (c0 : C) (fin : C → Option D) (it : IM) (tg : Tg) (t : TM) (e : EM) (vs : List Nat) : EM := fun r s => (it r s).bind fun p s1 => if p.2.ok s1 = true then genK fin (genLoop cons tg t e vs p.2 r p.1 c0 s1) else .bad
def cAny : Bool → D → Option (Bool × Bool)
  | _, .bl b => some (b, b)
  | _, _ => none
def cAll : Bool → D → Option (Bool × Bool)
  | _, .bl b => some (b, !b)
  | _, _ => none
def long63 (i : Int) : Bool := decide (-(2 ^ 63) ≤ i) && decide (i < 2 ^ 63)
def cSum : Int → D → Option (Int × Bool)
  | c, .int k => if long63 k = true ∧ long63 (c + k) = true then some (c + k, false) else none
  | _, _ => none
def eAny (it : IM) (tg : Tg) (t : TM) (e : EM) (vs : List Nat) : EM := eGen cAny false (fun b => some (.bl b)) it tg t e vs
def eAll (it : IM) (tg : Tg) (t : TM) (e : EM) (vs : List Nat) : EM := eGen cAll true (fun b => some (.bl b)) it tg t e vs
def eSumG (it : IM) (tg : Tg) (t : TM) (e : EM) (vs : List Nat) : EM := eGen cSum 0 (fun c => some (.int c)) it tg t e vs
end Mir
/-! E22: what consumes a generator expression: any, all, sum. -/
namespace GX
open PySem PySem.Spec PyProof.Rows L2 GenW
/-- it sleeps, or has not begun: at A's next -/
structure GSusp (X : Cx) (pins : List (Addr × Obj)) (σ : L2.St) {C : Type} (K : Con C) (em : C → V → Hp → (C → Hp → Prop) → Prop) (fin : C → Hp → Prop) (A : Around) (a : Addr) (g n : Nat) (s : Shared) : Prop where
  gen : s.heap.IsGen a g
  lim : s.heap.NoLimit
  goes : ∃ gs, s.gens[g]? = some gs ∧ gs.Goes (model X.prog X.w) A.in1 (RG X pins σ K fin a g) (YG X pins σ K em a g) n (.send .none) (s.setGen g .running)
section
variable {X : Cx} {pins : List (Addr × Obj)} {σ : L2.St} {C : Type} {K : Con C} {em : C → V → Hp → (C → Hp → Prop) → Prop} {fin : C → Hp → Prop} {A : Around} {a : Addr} {g n : Nat} {s : Shared}
theorem inv_gens {H : Hp} {s s' : Shared} (I : Inv X pins σ H s) (os : s'.os = s.os) (hb : AllBare s'.gens) (k : ∀ b o, s.heap.get? b = some o → s'.heap.get? b = some o) : Inv X pins σ H s' :=
  I.call' (ch := []) os (Un.kept k) (I.hok.kept k) hb fun b z => by cases z
theorem gnext {E : Value → Shared → Prop} {Q : Option Value → Shared → Prop} (hh : A.handled = none) (hroom : A.depth < recursionLimit) (hac : a ∉ K.cs) (hst : cStatics ∉ K.cs) (S : GSusp X pins σ K em fin A a g n s)
    (hY : ∀ c y H' Nx v s1, K.enc c s.heap → (∀ b ∈ K.cs, s1.heap.get? b = s.heap.get? b) → Inv X pins σ H' s1 → (∀ b ∈ K.cs, H' b = none) → RelV y v → em c y H' Nx →
      (∀ c' s'', Nx c' H' → s''.gens = s1.gens → s''.os = s1.os → (∀ b o, b ∉ K.cs → s1.heap.get? b = some o → s''.heap.get? b = some o) → K.enc c' s''.heap → 0 < n ∧ GSusp X pins σ K em fin A a g (n - 1) s'') → Q (some v) s1)
    (hP : ∀ c H' s1, K.enc c s.heap → (∀ b ∈ K.cs, s1.heap.get? b = s.heap.get? b) → Inv X pins σ H' s1 → (∀ b ∈ K.cs, H' b = none) → fin c H' → Q none s1) :
    wpAny (model X.prog X.w) A (pyNext (.ref a)) Q E s := by
  obtain ⟨hg, hl, gs, hgs, hgo⟩ := S
  have hgl : g < s.gens.size := (Array.getElem?_eq_some_iff.mp hgs).1
  refine wpAny_gsz (n := g + 1) hgl ?_
  refine wpAny_pyNext_genexpQ (P := fun n s₀ s1 => ∃ c H', K.enc c s₀.heap ∧ (∀ b ∈ K.cs, s1.heap.get? b = s₀.heap.get? b) ∧ Inv X pins σ H' s1 ∧ s1.heap.IsGen a g ∧ (∀ b ∈ K.cs, H' b = none) ∧ fin c H') (Y := YG X pins σ K em a g) hh hl hroom hg hgs hgo (fun v s₁ gs' hb hv => ?_) (fun s₁ hp h' hk => ?_)
  · intro hsz
    obtain ⟨c, y, H', Nx, h1, h2, h3, h4, h5, h6, h7, h8⟩ := hv
    have hb1 : AllBare (s₁.setGen g gs').gens := allBare_setGen h3.bare hb
    have hsz1 : g < s₁.gens.size := by
      have q : (s₁.setGen g gs').gens.size = s₁.gens.size := setGen_size _ _ _
      have hsz' : g + 1 ≤ (s₁.setGen g gs').gens.size := hsz
      omega
    refine hY c y H' Nx v _ h1 h2 (inv_gens h3 rfl hb1 fun _ _ e => e) h5 h6 h7 fun c' s'' nx eg eo kp en' => ?_
    have hz := h8 c' (s''.setGen g .running) nx ⟨eo, allBare_setGen (by rw [eg]; exact hb1) rfl, kp⟩ en'
    cases n with
    | zero => exact False.elim hz
    | succ m =>
      refine ⟨Nat.succ_pos _, ?_, ?_, gs', ?_, hz⟩
      · obtain ⟨o, nm, qn, ho, r⟩ := h4
        exact ⟨o, nm, qn, kp a o hac ho, r⟩
      · obtain ⟨mc, hns, hnn⟩ := h3.nolimit
        exact ⟨mc, hns.at' fun o e => kp _ o hst e, hnn⟩
      · rw [eg]; exact setGen_at hsz1
  · intro _
    obtain ⟨c, H', h1, h2, h3, h4, h5, h6⟩ := hp
    have hb1 : AllBare (s₁.setGen g .finished).gens := allBare_setGen h3.bare rfl
    have hk' : ∀ b ∈ K.cs, h'.get? b = s.heap.get? b := fun b hb => by
      obtain ⟨o, e, _⟩ := K.obj c _ h1 b hb
      have e0 : s.heap.get? b = some o := e
      have e1 : s₁.heap.get? b = some o := (h2 b hb).trans e
      rw [e0]
      exact hk b o e1
    exact hP c H' _ h1 hk' (inv_gens h3 rfl hb1 fun b o e => hk b o e) h5 h6
/-- as it has just been made -/
theorem GFresh.susp {gq : TG} {tt : TT} {te : TE} {vs : List Nat} {k : Nat} {J : It} {H : Hp} {W : Nat → C → Nat → Hp → Prop} {m : Nat} {c0 : C} {s' : Shared} (F : GFresh X pins σ gq tt te vs k J H a g s) (hr : Room k A.in1) (hfr : A.frames = some X.stack) (turn : Turns J gq tt te vs σ em fin W) (w0 : W 0 c0 m H)
    (hcs : ∀ b ∈ K.cs, s.heap.objs.size ≤ b) (hst : cStatics ∉ K.cs) (hk : ∀ b o, s.heap.get? b = some o → s'.heap.get? b = some o) (hg : s'.gens = s.gens) (hos : s'.os = s.os) (hen : K.enc c0 s'.heap) : GSusp X pins σ K em fin A a g (m + 1) s' := by
  obtain ⟨c, e, wk⟩ := F.wake
  obtain ⟨o, nm, qn, ho, r⟩ := F.gen
  exact ⟨⟨o, nm, qn, hk a o ho, r⟩, F.inv.nolimit.keeps hk, .fresh c, by rw [hg]; exact e, rfl, wk K em fin W A.in1 (m + 1) m c0 (s'.setGen g .running) hr hfr turn w0 (Nat.lt_succ_self _) hcs hk hos (allBare_setGen (by rw [hg]; exact F.inv.bare) rfl) hen⟩
/-! ### all, any -/
def conNo : Con Unit := ⟨[], fun _ _ => True, fun _ _ _ _ h => h, fun _ _ _ b hb => by cases hb⟩
theorem all_loop {R : Result → Shared → Prop} {Q : VK} (hh : A.handled = none) (hroom : A.depth < recursionLimit) (hR : ∀ b H' s', Inv X pins σ H' s' → Q (.bl b) H' → R (.ok (.ret (.bool b))) s') :
    ∀ (n : Nat) (s : Shared), GSusp X pins σ conNo (fun c y H Nx => ∃ b, y = .bl b ∧ if b = true then Nx c H else Q (.bl false) H) (fun _ H => Q (.bl true) H) A.in1 a g n s → codeAny (model X.prog X.w) A (.builtin "all.loop" ⟨[.ref a], []⟩) R s := by
  intro n
  induction n with
  | zero =>
    intro s S
    refine codeAny_builtin F.entry_all_loop ?_
    rw [Around.under_plainId F.plain_all_loop _]
    show wpAny _ A.in1 (pyNext (.ref a) >>= _) _ _ s
    refine wpAny_bind (gnext (A := A.in1) hh hroom (by simp [conNo]) (by simp [conNo]) S (fun c y H' Nx v s1 _ _ I _ r em go => ?_) (fun c H' s1 _ _ I _ f => ?_))
    · obtain ⟨b, rfl, hq⟩ := em
      obtain rfl : v = .bool b := r
      refine wpAny_bind (wpAny_holding (wpAny_truthy_bool ?_))
      refine wpAny_bind (wpAny_letGo ?_)
      cases b with
      | true =>
        have := go c s1 hq rfl rfl (fun _ _ _ e => e) trivial
        omega
      | false =>
        simp only [Bool.false_eq_true, if_false] at hq ⊢
        exact wpAny_bind (wpAny_rule (wpAny_pure (hR false H' s1 I hq)))
    · exact wpAny_bind (wpAny_rule (wpAny_pure (hR true H' s1 I f)))
  | succ n ih =>
    intro s S
    refine codeAny_builtin F.entry_all_loop ?_
    rw [Around.under_plainId F.plain_all_loop _]
    show wpAny _ A.in1 (pyNext (.ref a) >>= _) _ _ s
    refine wpAny_bind (gnext (A := A.in1) hh hroom (by simp [conNo]) (by simp [conNo]) S (fun c y H' Nx v s1 _ _ I _ r em go => ?_) (fun c H' s1 _ _ I _ f => ?_))
    · obtain ⟨b, rfl, hq⟩ := em
      obtain rfl : v = .bool b := r
      refine wpAny_bind (wpAny_holding (wpAny_truthy_bool ?_))
      refine wpAny_bind (wpAny_letGo ?_)
      cases b with
      | true =>
        simp only [if_true] at hq ⊢
        exact wpAny_pure ⟨plainId_quiet F.plain_all_loop _, ih s1 (go c s1 hq rfl rfl (fun _ _ _ e => e) trivial).2⟩
      | false =>
        simp only [Bool.false_eq_true, if_false] at hq ⊢
        exact wpAny_bind (wpAny_rule (wpAny_pure (hR false H' s1 I hq)))
    · exact wpAny_bind (wpAny_rule (wpAny_pure (hR true H' s1 I f)))
theorem any_loop {R : Result → Shared → Prop} {Q : VK} (hh : A.handled = none) (hroom : A.depth < recursionLimit) (hR : ∀ b H' s', Inv X pins σ H' s' → Q (.bl b) H' → R (.ok (.ret (.bool b))) s') :
    ∀ (n : Nat) (s : Shared), GSusp X pins σ conNo (fun c y H Nx => ∃ b, y = .bl b ∧ if b = true then Q (.bl true) H else Nx c H) (fun _ H => Q (.bl false) H) A.in1 a g n s → codeAny (model X.prog X.w) A (.builtin "any.loop" ⟨[.ref a], []⟩) R s := by
  intro n
  induction n with
  | zero =>
    intro s S
    refine codeAny_builtin F.entry_any_loop ?_
    rw [Around.under_plainId F.plain_any_loop _]
    show wpAny _ A.in1 (pyNext (.ref a) >>= _) _ _ s
    refine wpAny_bind (gnext (A := A.in1) hh hroom (by simp [conNo]) (by simp [conNo]) S (fun c y H' Nx v s1 _ _ I _ r em go => ?_) (fun c H' s1 _ _ I _ f => ?_))
    · obtain ⟨b, rfl, hq⟩ := em
      obtain rfl : v = .bool b := r
      refine wpAny_bind (wpAny_holding (wpAny_truthy_bool ?_))
      refine wpAny_bind (wpAny_letGo ?_)
      cases b with
      | false =>
        have := go c s1 hq rfl rfl (fun _ _ _ e => e) trivial
        omega
      | true =>
        simp only [if_true] at hq ⊢
        exact wpAny_bind (wpAny_rule (wpAny_pure (hR true H' s1 I hq)))
    · exact wpAny_bind (wpAny_rule (wpAny_pure (hR false H' s1 I f)))
  | succ n ih =>
    intro s S
    refine codeAny_builtin F.entry_any_loop ?_
    rw [Around.under_plainId F.plain_any_loop _]
    show wpAny _ A.in1 (pyNext (.ref a) >>= _) _ _ s
    refine wpAny_bind (gnext (A := A.in1) hh hroom (by simp [conNo]) (by simp [conNo]) S (fun c y H' Nx v s1 _ _ I _ r em go => ?_) (fun c H' s1 _ _ I _ f => ?_))
    · obtain ⟨b, rfl, hq⟩ := em
      obtain rfl : v = .bool b := r
      refine wpAny_bind (wpAny_holding (wpAny_truthy_bool ?_))
      refine wpAny_bind (wpAny_letGo ?_)
      cases b with
      | false =>
        simp only [Bool.false_eq_true, if_false] at hq ⊢
        exact wpAny_pure ⟨plainId_quiet F.plain_any_loop _, ih s1 (go c s1 hq rfl rfl (fun _ _ _ e => e) trivial).2⟩
      | true =>
        simp only [if_true] at hq ⊢
        exact wpAny_bind (wpAny_rule (wpAny_pure (hR true H' s1 I hq)))
    · exact wpAny_bind (wpAny_rule (wpAny_pure (hR false H' s1 I f)))
theorem call_all_gen {H : Hp} {Q : VK} {E : Value → Shared → Prop} {gq : TG} {tt : TT} {te : TE} {vs : List Nat} {k : Nat} {J : It} {W : Nat → Unit → Nat → Hp → Prop} {m : Nat} (hr : Room (k + 1) X.A) (F0 : GFresh X pins σ gq tt te vs k J H a g s)
    (turn : Turns J gq tt te vs σ (fun c y H Nx => ∃ b, y = .bl b ∧ if b = true then Nx c H else Q (.bl false) H) (fun _ H => Q (.bl true) H) W) (w0 : W 0 () m H) : wpAny (model X.prog X.w) X.A (call (.builtin "all") [.ref a]) (EP X pins σ Q) E s := by
  refine call_function_tree F.kind_all F.plain_all F.entry_all (F.args_all1 _) ?_
  unfold Builtin.«all»
  refine wpAny_bind (m := oneArg "all" _) (wpAny_pure ?_)
  refine wpAny_bind (wpAny_pyIter_gen F0.gen ?_)
  refine wpAny_pure ⟨plainId_quiet F.plain_all_loop _, all_loop (A := X.A) (Q := Q) hr.hd (by have := hr.dp; omega) (fun b H' s' I q => ⟨.bl b, H', I, rfl, q⟩) (m + 1) s (F0.susp (A := X.A.in1) ⟨hr.hd, ?_, ?_⟩ (F0.inv.env0.frames) turn w0 (fun b hb => by simp [conNo] at hb) (by simp [conNo]) (fun _ _ e => e) rfl rfl trivial)⟩
  · have := hr.dp; show X.A.depth + 3 * k + 5 < _; omega
  · have := hr.un; show X.A.units + 1 + 1 + 16 * k + 200 < _; omega
theorem call_any_gen {H : Hp} {Q : VK} {E : Value → Shared → Prop} {gq : TG} {tt : TT} {te : TE} {vs : List Nat} {k : Nat} {J : It} {W : Nat → Unit → Nat → Hp → Prop} {m : Nat} (hr : Room (k + 1) X.A) (F0 : GFresh X pins σ gq tt te vs k J H a g s)
    (turn : Turns J gq tt te vs σ (fun c y H Nx => ∃ b, y = .bl b ∧ if b = true then Q (.bl true) H else Nx c H) (fun _ H => Q (.bl false) H) W) (w0 : W 0 () m H) : wpAny (model X.prog X.w) X.A (call (.builtin "any") [.ref a]) (EP X pins σ Q) E s := by
  refine call_function_tree F.kind_any F.plain_any F.entry_any (F.args_any1 _) ?_
  unfold Builtin.«any»
  refine wpAny_bind (m := oneArg "any" _) (wpAny_pure ?_)
  refine wpAny_bind (wpAny_pyIter_gen F0.gen ?_)
  refine wpAny_pure ⟨plainId_quiet F.plain_any_loop _, any_loop (A := X.A) (Q := Q) hr.hd (by have := hr.dp; omega) (fun b H' s' I q => ⟨.bl b, H', I, rfl, q⟩) (m + 1) s (F0.susp (A := X.A.in1) ⟨hr.hd, ?_, ?_⟩ (F0.inv.env0.frames) turn w0 (fun b hb => by simp [conNo] at hb) (by simp [conNo]) (fun _ _ e => e) rfl rfl trivial)⟩
  · have := hr.dp; show X.A.depth + 3 * k + 5 < _; omega
  · have := hr.un; show X.A.units + 1 + 1 + 16 * k + 200 < _; omega
/-! ### sum -/
def conSum (S : Addr) : Con Int := ⟨[S], fun c h => ∃ t cap, h.get? S = some { cls := .type "list", dict := none, data := .seq #[.int c t] cap, slots := #[] },
  fun c h h' e ⟨t, cap, q⟩ => ⟨t, cap, by rw [e S (List.mem_singleton.mpr rfl)]; exact q⟩,
  fun c h ⟨t, cap, q⟩ b hb => by rw [List.mem_singleton.mp hb]; exact ⟨_, q, fun v z => by cases z⟩⟩
def emSum (c : Int) (y : V) (H : Hp) (Nx : Int → Hp → Prop) : Prop := ∃ k, y = .int k ∧ ((-(2 ^ 63) ≤ k ∧ k < 2 ^ 63) ∧ (-(2 ^ 63) ≤ c + k ∧ c + k < 2 ^ 63)) ∧ Nx (c + k) H
theorem sum_loop {S : Addr} {R : Result → Shared → Prop} {Q : VK} (hh : A.handled = none) (hroom : A.depth < recursionLimit) (haS : a ≠ S) (hS : S ≠ cStatics) (hR : ∀ c t H' s', Inv X pins σ H' s' → Q (.int c) H' → R (.ok (.ret (.int c t))) s') :
    ∀ (n : Nat) (c0 : Int) (s : Shared), (conSum S).enc c0 s.heap → GSusp X pins σ (conSum S) emSum (fun c H => Q (.int c) H) A.in1 a g n s → codeAny (model X.prog X.w) A (.builtin "sum.loop" ⟨[.ref a, .ref S, rawInt 0, rawInt 0], []⟩) R s := by
  have step : ∀ (n : Nat), (∀ c0 s'', 0 < n → (conSum S).enc c0 s''.heap → GSusp X pins σ (conSum S) emSum (fun c H => Q (.int c) H) A.in1 a g (n - 1) s'' → codeAny (model X.prog X.w) A (.builtin "sum.loop" ⟨[.ref a, .ref S, rawInt 0, rawInt 0], []⟩) R s'') →
      ∀ (c0 : Int) (s : Shared), (conSum S).enc c0 s.heap → GSusp X pins σ (conSum S) emSum (fun c H => Q (.int c) H) A.in1 a g n s → codeAny (model X.prog X.w) A (.builtin "sum.loop" ⟨[.ref a, .ref S, rawInt 0, rawInt 0], []⟩) R s := by
    intro n ih c0 s hen G
    obtain ⟨t0, cap0, eS⟩ := id hen
    refine codeAny_builtin F.entry_sum_loop ?_
    rw [Around.under_plainId F.plain_sum_loop _]
    show wpAny _ A.in1 (seqItems? (.ref S) >>= _) _ _ s
    refine wpAny_bind (wpAny_seqItems eS rfl ?_)
    show wpAny _ A.in1 (tryCatch (pyNext (.ref a)) _ >>= _) _ _ s
    refine wpAny_bind (wpAny_tryCatch (gnext (A := A.in1) hh hroom (by simp [conSum, haS]) (by simp [conSum]; exact Ne.symm hS) G (fun c y H' Nx v s1 hc hsame I hn r em go => ?_) (fun c H' s1 hc hsame I hn f => ?_)))
    · obtain ⟨t1, cap1, eS1⟩ := hc
      rw [eS] at eS1
      have hcc : c0 = c := by
        have := Option.some.inj eS1
        simp only [Obj.mk.injEq, Data.seq.injEq] at this
        have h2 := congrArg (fun z : Array Value => z.toList) this.2.2.1.1
        simp at h2
        exact h2.1
      subst hcc
      obtain ⟨k, rfl, hb, nx⟩ := em
      obtain ⟨tk, rfl⟩ := _root_.id r
      have eS' : s1.heap.get? S = some { cls := .type "list", dict := none, data := .seq #[.int c0 t0] cap0, slots := #[] } := (hsame S (by simp [conSum])).trans eS
      have hc : ((decide (-(2 ^ 63) ≤ k) && decide (k < 2 ^ 63)) && (decide (-(2 ^ 63) ≤ c0 + k) && decide (c0 + k < 2 ^ 63))) = true := by
        simp only [Bool.and_eq_true, decide_eq_true_eq]
        exact hb
      show wpAny _ A.in1 (if (_ : Bool) = true then (mkInt (c0 + k) >>= _) else _) _ _ _
      split
      · refine wpAny_bind (wpAny_mkInt ?_)
        show wpAny _ A.in1 (updateSeq S (fun _ => #[.int (c0 + k) s1.toks]) >>= _) _ _ _
        refine wpAny_bind ?_
        refine wpAny_updateSeq eS' rfl ?_
        have eS2 := Heap.get?_update_self (Obj.mapSeq (fun _ => (#[.int (c0 + k) s1.toks] : Array Value))) eS' rfl
        have en2 : (conSum S).enc (c0 + k) (s1.heap.update S (Obj.mapSeq (fun _ => #[.int (c0 + k) s1.toks]))) := ⟨_, _, eS2⟩
        obtain ⟨hn0, G2⟩ := go (c0 + k) { s1 with heap := s1.heap.update S (Obj.mapSeq (fun _ => #[.int (c0 + k) s1.toks])), toks := s1.toks + 1 } nx rfl rfl
          (fun b o hb e => (Heap.get?_update_other _ _ (fun h : S = b => hb (by simp [conSum, h]))).trans e) en2
        exact wpAny_pure ⟨plainId_quiet F.plain_sum_loop _, ih (c0 + k) _ hn0 en2 G2⟩
      · rename_i hneg
        exact absurd hc hneg
    · obtain ⟨t1, cap1, eS1⟩ := hc
      rw [eS] at eS1
      have hcc : c0 = c := by
        have := Option.some.inj eS1
        simp only [Obj.mk.injEq, Data.seq.injEq] at this
        have h2 := congrArg (fun z : Array Value => z.toList) this.2.2.1.1
        simp at h2
        exact h2.1
      subst hcc
      exact wpAny_pure (hR c0 t0 H' s1 I f)
  intro n
  induction n with
  | zero => exact step 0 fun _ _ h => absurd h (Nat.lt_irrefl _)
  | succ n ih => exact step (n + 1) fun c0 s'' _ h1 h2 => ih c0 s'' h1 h2
theorem call_sum_gen {H : Hp} {Q : VK} {E : Value → Shared → Prop} {gq : TG} {tt : TT} {te : TE} {vs : List Nat} {k : Nat} {J : It} {W : Nat → Int → Nat → Hp → Prop} {m : Nat} (hr : Room (k + 1) X.A) (F0 : GFresh X pins σ gq tt te vs k J H a g s)
    (turn : Turns J gq tt te vs σ emSum (fun c H => Q (.int c) H) W) (w0 : W 0 0 m H) : wpAny (model X.prog X.w) X.A (call (.builtin "sum") [.ref a]) (EP X pins σ Q) E s := by
  refine call_function_tree F.kind_sum F.plain_sum F.entry_sum (F.args_sum1 _) ?_
  unfold Builtin.«sum»
  simp only [List.length_cons, List.length_nil]
  rw [if_neg (by decide)]
  refine wpAny_bind (wpAny_of_eq (show Builtin.Builtins.bindParams "sum" ["start"] 0 { } = pure [none] from rfl) ?_)
  refine wpAny_bind (wpAny_pyIter_gen F0.gen ?_)
  refine wpAny_bind (wpAny_mkInt ?_)
  refine wpAny_bind (wpAny_pure ?_)
  simp only [List.forIn_cons, List.forIn_nil]
  refine wpAny_bind (wpAny_bind (wpAny_bind (wpAny_isInstance (T := "int") (b := false) (typeIs_int _ _ _) PySem.sub_int_str ?_)))
  simp only [Bool.false_eq_true, if_false]
  refine wpAny_pure (wpAny_bind (wpAny_bind (wpAny_isInstance (T := "int") (b := false) (typeIs_int _ _ _) PySem.sub_int_bytes ?_)))
  simp only [Bool.false_eq_true, if_false]
  refine wpAny_pure (wpAny_bind (wpAny_bind (wpAny_isInstance (T := "int") (b := false) (typeIs_int _ _ _) PySem.sub_int_bytearray ?_)))
  simp only [Bool.false_eq_true, if_false]
  refine wpAny_pure (wpAny_pure ?_)
  refine wpAny_bind (wpAny_newObj_type ?_)
  have hst : s.heap.objs.size ≠ cStatics := by
    obtain ⟨mc, hn, _⟩ := F0.inv.nolimit
    exact Nat.ne_of_gt hn.lt
  have en : (conSum s.heap.objs.size).enc 0 (s.heap.push { cls := .type "list", data := .seq #[.int 0 s.toks] }) := ⟨_, _, Heap.get?_push_size _ rfl⟩
  refine wpAny_pure ⟨plainId_quiet F.plain_sum_loop _, sum_loop (A := X.A) (Q := Q) (S := s.heap.objs.size) hr.hd (by have := hr.dp; omega) (Nat.ne_of_lt F0.lt) hst (fun c t H' s' I q => ⟨.int c, H', I, ⟨t, rfl⟩, q⟩) (m + 1) 0 _ en
    (F0.susp (A := X.A.in1) ⟨hr.hd, ?_, ?_⟩ (F0.inv.env0.frames) turn w0 (fun b hb => by rw [List.mem_singleton.mp hb]; exact Nat.le_refl _) (by simp [conSum]; exact Ne.symm hst) (fun b o e => Heap.get?_push_of_some _ e) rfl rfl en)⟩
  · have := hr.dp; show X.A.depth + 3 * k + 5 < _; omega
  · have := hr.un; show X.A.units + 1 + 1 + 16 * k + 200 < _; omega
end
end GX
/-! E23: generator expressions over the mirror. -/
namespace Mir
open PySem PySem.Spec PyProof.Rows L2
section
variable {g : G} {E E' : XK} {Q : VK} {C CM : Type} {cons : CM → D → Option (CM × Bool)} {finM : CM → Option D} {it : IM} {tg : Tg} {tr : TG} {mt : TM} {tt : TT} {ma : EM} {vs : List Nat}
theorem wipe_twice : ∀ (vs : List Nat) (s : L2.St), wipe (wipe s vs) vs = wipe s vs := by
  have h1 : ∀ (vs : List Nat) (s : L2.St) (i : Nat), i ∈ vs → (wipe s vs)[i]? = if i < s.length then some none else none := by
    intro vs
    induction vs with
    | nil => intro s i h; cases h
    | cons w vs ih =>
      intro s i h
      unfold wipe
      by_cases e : w = i
      · subst e
        by_cases hl : w < s.length
        · rw [List.getElem?_set_self (by rw [wipe_length]; exact hl), if_pos hl]
        · rw [List.getElem?_eq_none (by simp [wipe_length]; omega), if_neg hl]
      · rw [List.getElem?_set_ne e]
        exact ih s i ((List.mem_cons.mp h).resolve_left (Ne.symm e))
  intro vs s
  refine List.ext_getElem? fun j => ?_
  by_cases hj : j ∈ vs
  · rw [h1 vs _ j hj, h1 vs _ j hj, wipe_length]
  · rw [wipe_out hj]
/-- how the consumer's state answers the mirror's -/
structure ConsR (g : G) (Q : VK) (cons : CM → D → Option (CM × Bool)) (finM : CM → Option D) (em : C → V → Hp → (C → Hp → Prop) → Prop) (fin : C → Hp → Prop) (rel : Hp → List Addr → CM → C → Prop) : Prop where
  mono : ∀ F mu F' mu' cm c, Mono F mu F' mu' → rel F mu cm c → rel F' mu' cm c
  go : ∀ H F mu cm c cm' d y (Nx : C → Hp → Prop), cons cm d = some (cm', false) → rel F mu cm c → RepV g F mu d y → (∀ c', rel F mu cm' c' → Nx c' H) → em c y H Nx
  stop : ∀ H F mu cm c cm' d y (Nx : C → Hp → Prop) dres, cons cm d = some (cm', true) → rel F mu cm c → RepV g F mu d y → finM cm' = some dres → (∀ v, RepV g F mu dres v → Q v H) → em c y H Nx
  fin : ∀ H F mu cm c dres, rel F mu cm c → finM cm = some dres → (∀ v, RepV g F mu dres v → Q v H) → fin c H
theorem genT {em : C → V → Hp → (C → Hp → Prop) → Prop} {fin : C → Hp → Prop} {rel : Hp → List Addr → CM → C → Prop} {c0 : C} {cm0 : CM} (R : ConsR g Q cons finM em fin rel) (r0 : ∀ F mu, rel F mu cm0 c0) (hv : ∀ i ∈ tg.slots, i ∈ vs) (hT : TgS g tr tg) (htt : ∀ s H Q, rdT g E' mt s H Q → tt s H Q) :
    ∀ s H, rdE g E (eGen cons cm0 finM it tg mt ma vs) s H Q → rdI g E it s H fun J H1 => LamX.Tabs g.tb H1 ∧ ∀ H2, LamX.ExtN H1 H2 → LamX.Tabs g.tb H2 → ∃ W : Nat → C → Nat → Hp → Prop, (∃ m, W 0 c0 m H2) ∧ GX.Turns J tr tt (rdE g E' ma) vs s em fin W := by
  intro s H k
  obtain ⟨r, st, F, mu, re, k⟩ := k
  refine ⟨r, st, F, mu, re, OutQ.bind k fun p st1 J H1 F1 mu1 _ e1 re1 hJ k1 => ⟨re1.h.tab, fun HB eN tB => ?_⟩⟩
  obtain ⟨ds, w⟩ := p
  dsimp only at hJ k1
  have reB := re1.lam eN tB
  have eB : Ext H F mu HB F1 mu1 := e1.trans (Ext.lam eN)
  split at k1
  · rename_i hw0
    refine ⟨fun i c m H2 => m = ds.length - i ∧ i ≤ ds.length ∧ ∃ cm st2 F2 mu2, RE g s H2 F2 mu2 r st2 ∧ Ext HB F1 mu1 H2 F2 mu2 ∧ rel F2 mu2 cm c ∧ w.ok st2 = true ∧
      OutQ g s H F mu r (fun H' F' mu' x v => RepX g H' F' mu' x v) E Q (genK finM (genLoop cons tg mt ma vs w r (ds.drop i) cm st2)),
      ⟨ds.length, by simp, Nat.zero_le _, cm0, st1, F1, mu1, reB, .refl _ _ _, r0 _ _, hw0, by simpa using k1⟩, ?_⟩
    rintro i c m H2 ⟨rfl, hik, cm, st2, F2, mu2, re2, ex2, rl, hw2, k2⟩
    have hJi := hJ H2 F2 mu2 st2 (eB.mo.trans ex2.mo |> fun _ => ex2.mo) re2.h hw2 i
    by_cases hlt : i < ds.length
    · have hd : ds[i]? = some ds[i] := List.getElem?_eq_getElem hlt
      obtain ⟨hgo, hy⟩ := hJi.2 _ hd
      rw [List.drop_eq_getElem_cons hlt] at k2
      unfold genLoop at k2
      refine .inr ⟨hgo, fun c' H' => ∃ cm' st2 F2 mu2, RE g s H' F2 mu2 r st2 ∧ Ext HB F1 mu1 H' F2 mu2 ∧ rel F2 mu2 cm' c' ∧ w.ok st2 = true ∧
        OutQ g s H F mu r (fun H' F' mu' x v => RepX g H' F' mu' x v) E Q (genK finM (genLoop cons tg mt ma vs w r (ds.drop (i + 1)) cm' st2)),
        fun c' H' hN => ⟨ds.length - (i + 1), by omega, rfl, hlt, hN⟩, fun x H' yy => ?_⟩
      obtain ⟨F', rh', ex', rv⟩ := hy x H' yy
      have re' := re2.step ex' rh'
      cases hbt : bindT tg ds[i] (wipeE vs r) with
      | none => rw [hbt] at k2; exact k2.elim
      | some r3 =>
        rw [hbt] at k2
        dsimp only at k2
        refine hT H' F' mu2 st2 (fun s r => RE g s H' F' mu2 r st2) (L2.wipe s vs) (wipeE vs r) _ x r3 _ rh' (fun s r i d v q1 q2 q3 => q1.setV q2 q3) (re'.wipe vs) rv hbt fun s' hR hws => ?_
        have hww := hws vs hv
        rw [wipe_twice] at hww
        refine ⟨hww, htt _ _ _ ⟨r3, st2, F', mu2, hR, ?_⟩⟩
        cases hm : mt r3 st2 with
        | exc e st3 => rw [hm] at k2; exact k2.elim
        | bad => rw [hm] at k2; exact k2.elim
        | ok b st3 =>
          rw [hm] at k2
          intro c' H3 F3 mu3 e3 re3 ec
          subst ec
          cases b with
          | true =>
            rw [if_pos rfl]
            dsimp only at k2
            refine ⟨r3, st3, F3, mu3, re3, ?_⟩
            cases hm4 : ma r3 st3 with
            | exc e st4 => rw [hm4] at k2; exact k2.elim
            | bad => rw [hm4] at k2; exact k2.elim
            | ok y st4 =>
              rw [hm4] at k2
              intro v H4 F4 mu4 e4 re4 ry
              cases y with
              | bor c => exact k2.elim
              | val d =>
                dsimp only at k2
                have exA : Ext H2 F2 mu2 H4 F4 mu4 := (ex'.trans e3).trans e4
                have rl4 := R.mono _ _ _ _ _ _ exA.mo rl
                have exT : Ext HB F1 mu1 H4 F4 mu4 := ex2.trans exA
                have reT : RE g s H4 F4 mu4 r st4 := re.step (eB.trans exT) re4.h
                cases hc : cons cm d with
                | none => rw [hc] at k2; exact k2.elim
                | some q =>
                  obtain ⟨cm', b⟩ := q
                  rw [hc] at k2
                  cases b with
                  | true =>
                    dsimp only [genK] at k2
                    cases hf : finM cm' with
                    | none => rw [hf] at k2; exact k2.elim
                    | some dres =>
                      rw [hf] at k2
                      exact R.stop _ _ _ _ _ _ _ _ _ _ hc rl4 ry hf fun v hv => k2 v H4 F4 mu4 (eB.trans exT) reT hv
                  | false =>
                    dsimp only at k2
                    by_cases hz : w.ok st4 = true
                    · rw [if_pos hz] at k2
                      exact R.go _ _ _ _ _ _ _ _ _ hc rl4 ry fun c' rc => ⟨cm', st4, F4, mu4, reT, exT, rc, hz, k2⟩
                    · rw [if_neg hz] at k2
                      exact k2.elim
          | false =>
            rw [if_neg Bool.false_ne_true]
            dsimp only at k2
            by_cases hz : w.ok st3 = true
            · rw [if_pos hz] at k2
              have exA : Ext H2 F2 mu2 H3 F3 mu3 := ex'.trans e3
              exact ⟨cm, st3, F3, mu3, re.step (eB.trans (ex2.trans exA)) re3.h, ex2.trans exA, R.mono _ _ _ _ _ _ exA.mo rl, hz, k2⟩
            · rw [if_neg hz] at k2
              exact k2.elim
    · have he : i = ds.length := by omega
      subst he
      rw [List.drop_length] at k2
      dsimp only [genLoop, genK] at k2
      cases hf : finM cm with
      | none => rw [hf] at k2; exact k2.elim
      | some dres =>
        rw [hf] at k2
        exact .inl ⟨hJi.1 rfl, R.fin _ _ _ _ _ _ rl hf fun v hv => k2 v H2 F2 mu2 (eB.trans ex2) re2 hv⟩
  · exact k1.elim
theorem consAll : ConsR (C := Unit) g Q cAll (fun b => some (.bl b)) (fun c y H Nx => ∃ b, y = .bl b ∧ if b = true then Nx c H else Q (.bl false) H) (fun _ H => Q (.bl true) H) (fun _ _ cm _ => cm = true) where
  mono := fun _ _ _ _ _ _ _ h => h
  go := fun H F mu cm c cm' d y Nx hc hr hv hN => by
    cases d <;> simp [cAll] at hc
    rename_i b
    obtain ⟨rfl, rfl⟩ := hc
    exact ⟨true, hv, hN c rfl⟩
  stop := fun H F mu cm c cm' d y Nx dres hc hr hv hf hQ => by
    cases d <;> simp [cAll] at hc
    rename_i b
    obtain ⟨rfl, rfl⟩ := hc
    cases hf
    exact ⟨false, hv, hQ _ rfl⟩
  fin := fun H F mu cm c dres hr hf hQ => by
    subst hr
    cases hf
    exact hQ _ rfl
theorem consAny : ConsR (C := Unit) g Q cAny (fun b => some (.bl b)) (fun c y H Nx => ∃ b, y = .bl b ∧ if b = true then Q (.bl true) H else Nx c H) (fun _ H => Q (.bl false) H) (fun _ _ cm _ => cm = false) where
  mono := fun _ _ _ _ _ _ _ h => h
  go := fun H F mu cm c cm' d y Nx hc hr hv hN => by
    cases d <;> simp [cAny] at hc
    rename_i b
    obtain ⟨rfl, rfl⟩ := hc
    exact ⟨false, hv, hN c rfl⟩
  stop := fun H F mu cm c cm' d y Nx dres hc hr hv hf hQ => by
    cases d <;> simp [cAny] at hc
    rename_i b
    obtain ⟨rfl, rfl⟩ := hc
    cases hf
    exact ⟨true, hv, hQ _ rfl⟩
  fin := fun H F mu cm c dres hr hf hQ => by
    subst hr
    cases hf
    exact hQ _ rfl
theorem consSum : ConsR (C := Int) g Q cSum (fun c => some (.int c)) GX.emSum (fun c H => Q (.int c) H) (fun _ _ cm c => cm = c) where
  mono := fun _ _ _ _ _ _ _ h => h
  go := fun H F mu cm c cm' d y Nx hc hr hv hN => by
    cases d <;> simp [cSum, long63] at hc
    rename_i k
    obtain ⟨⟨h1, h2⟩, rfl⟩ := hc
    subst hr
    exact ⟨k, hv, ⟨h1, h2⟩, hN _ rfl⟩
  stop := fun H F mu cm c cm' d y Nx dres hc hr hv hf hQ => by
    cases d <;> simp [cSum] at hc
  fin := fun H F mu cm c dres hr hf hQ => by
    subst hr
    cases hf
    exact hQ _ rfl
end
end Mir
namespace Mir
open PySem PySem.Spec PyProof.Rows L2
section
variable {X : Cx} {g : G} {E E' : XK} {it : IM} {tg : Tg} {tr : TG} {mt : TM} {ma : EM} {own : List (Str × Nat)} {elt tgt iter c0 : Expr} {ifs : List Expr} {scope : Scope} {p pos gpos : Pos} {k : Nat} {c P : Addr} {tt : TT}
theorem boot_allX : bootBuiltins "all" = some (.builtin "all") := by first | rfl | decide +kernel | kernel_rfl
theorem boot_sumX : bootBuiltins "sum" = some (.builtin "sum") := by first | rfl | decide +kernel | kernel_rfl
theorem boot_anyX : bootBuiltins "any" = some (.builtin "any") := by first | rfl | decide +kernel | kernel_rfl
/-- what a generator expression asks -/
structure GenOk (X : Cx) (g : G) (E E' : XK) (k : Nat) (c P : Addr) (elt tgt iter : Expr) (ifs : List Expr) (scope : Scope) (own : List (Str × Nat)) (it : IM) (tg : Tg) (tr : TG) (tt : TT) (mt : TM) (ma : EM) : Prop where
  nod : X.N.Nodup
  tb : LamX.TabB X.base X.mg c P
  code : X.env.code = .ref c
  mem : (P, X.env.qual ++ ("<genexpr>" : Str)) ∈ g.tb
  uniq : ∀ p ∈ g.tb, p.1 = P → p.2 = X.env.qual ++ ("<genexpr>" : Str)
  sc : GX.GeS X.N X.env.scope scope own
  hi : PI X tgt iter (rdI g E it)
  hv : ∀ i ∈ tg.slots, i ∈ own.map (·.2)
  hT : TgS g tr tg
  hg : ∀ (A : Around) (s : Shared) (H : Hp) (fp : List Addr) (code : Value) (pn : List (Addr × Obj)), PG (GX.genCx X A s H fp scope code pn) tgt tr
  ht : ∀ (A : Around) (s : Shared) (H : Hp) (fp : List Addr) (code : Value) (pn : List (Addr × Obj)), Room k (GX.genCx X A s H fp scope code pn).A → PTs (GX.genCx X A s H fp scope code pn) ifs tt
  htt : ∀ s H Q, rdT g E' mt s H Q → tt s H Q
  he : ∀ (A : Around) (s : Shared) (H : Hp) (fp : List Addr) (code : Value) (pn : List (Addr × Obj)), Room k (GX.genCx X A s H fp scope code pn).A → PE (GX.genCx X A s H fp scope code pn) elt (rdE g E' ma)
  fold : ∀ v, genFold iter X.env v = pure v
theorem GenOk.make {C CM : Type} {cons : CM → D → Option (CM × Bool)} {finM : CM → Option D} {em : VK → C → V → Hp → (C → Hp → Prop) → Prop} {fin : VK → C → Hp → Prop} {rel : Hp → List Addr → CM → C → Prop} {cc : C} {cm0 : CM} {n : String} (G : GenOk X g E E' k c P elt tgt iter ifs scope own it tg tr tt mt ma)
    (R : ∀ Q, ConsR g Q cons finM (em Q) (fin Q) rel) (r0 : ∀ F mu, rel F mu cm0 cc) (hr : Room (k + 2) X.A) (hgl : Gl X (Str.ofString n)) (hm : X.mg (Str.ofString n) = none) (hb : bootBuiltins (Str.ofString n) = some (.builtin n)) (hd : ((Str.ofString n) == ("__debug__" : Str)) = false) (hn : Str.ofString n ≠ "__name__")
    (call : ∀ (pins : List (Addr × Obj)) (σ : L2.St) (Q : VK) (J : It) (H : Hp) (a : Addr) (gn : Nat) (s : Shared) (W : Nat → C → Nat → Hp → Prop) (m : Nat), GX.GFresh X pins σ tr tt (rdE g E' ma) (own.map (·.2)) (k + 1) J H a gn s → GX.Turns J tr tt (rdE g E' ma) (own.map (·.2)) σ (em Q) (fin Q) W → W 0 cc m H → wpAny (model X.prog X.w) X.A (PySem.call (.builtin n) [.ref a]) (EP X pins σ Q) X.xe s)
    (he : starEach [.GeneratorExp elt [⟨tgt, iter, ifs, 0⟩] scope gpos] X.env = (false, eval (.GeneratorExp elt [⟨tgt, iter, ifs, 0⟩] scope gpos) X.env) :: starEach [] X.env := by rfl) :
    PE X (.Call (.Name (Str.ofString n) p) [.GeneratorExp elt [⟨tgt, iter, ifs, 0⟩] scope gpos] [] pos) (rdE g E (eGen cons cm0 finM it tg mt ma (own.map (·.2)))) := by
  refine ⟨fun pins s σ H Q I h => ?_⟩
  refine wpAny_Call_Name_kw (ld_blt I hgl hm hb ?_ hn hd)
  refine PyProof.Rows.callWith_builtin1 ?_ he (by rfl)
  rw [he]
  show wpAny _ _ (spliced ((false, eval (.GeneratorExp elt [⟨tgt, iter, ifs, 0⟩] scope gpos) X.env) :: backTo pos (starEach [] X.env))) _ _ s
  refine Calls.spliced_cons (GX.gen_make (k := k) (T := g.tb) (R := fun J H2 => ∃ W : Nat → C → Nat → Hp → Prop, (∃ m, W 0 cc m H2) ∧ GX.Turns J tr tt (rdE g E' ma) (own.map (·.2)) σ (em Q) (fin Q) W) G.nod (hr.mono (by omega)) I G.sc G.tb G.code G.mem G.uniq G.hi G.hg G.ht G.he
    (genT (R Q) r0 G.hv G.hT G.htt σ H h) G.fold fun J H2 a gn s5 hR F0 => ?_)
  obtain ⟨W, ⟨m, w0⟩, turn⟩ := hR
  exact Calls.spliced_nil (call pins σ Q J H2 a gn s5 W m F0 turn w0)
theorem gAny (G : GenOk X g E E' k c P elt tgt iter ifs scope own it tg tr tt mt ma) (hr : Room (k + 2) X.A) (hgl : Gl X "any") (hm : X.mg "any" = none)
    (he : starEach [.GeneratorExp elt [⟨tgt, iter, ifs, 0⟩] scope gpos] X.env = (false, eval (.GeneratorExp elt [⟨tgt, iter, ifs, 0⟩] scope gpos) X.env) :: starEach [] X.env := by rfl) :
    PE X (.Call (.Name "any" p) [.GeneratorExp elt [⟨tgt, iter, ifs, 0⟩] scope gpos] [] pos) (rdE g E (eAny it tg mt ma (own.map (·.2)))) :=
  G.make (n := "any") (C := Unit) (cc := ()) (em := fun Q c y H Nx => ∃ b, y = .bl b ∧ if b = true then Q (.bl true) H else Nx c H) (fin := fun Q _ H => Q (.bl false) H) (fun Q => consAny) (fun _ _ => rfl) hr hgl hm boot_anyX (by decide +kernel) (by decide +kernel)
    (fun pins σ Q J H a gn s W m F0 turn w0 => GX.call_any_gen hr F0 turn w0) he
theorem gAll (G : GenOk X g E E' k c P elt tgt iter ifs scope own it tg tr tt mt ma) (hr : Room (k + 2) X.A) (hgl : Gl X "all") (hm : X.mg "all" = none)
    (he : starEach [.GeneratorExp elt [⟨tgt, iter, ifs, 0⟩] scope gpos] X.env = (false, eval (.GeneratorExp elt [⟨tgt, iter, ifs, 0⟩] scope gpos) X.env) :: starEach [] X.env := by rfl) :
    PE X (.Call (.Name "all" p) [.GeneratorExp elt [⟨tgt, iter, ifs, 0⟩] scope gpos] [] pos) (rdE g E (eAll it tg mt ma (own.map (·.2)))) :=
  G.make (n := "all") (C := Unit) (cc := ()) (em := fun Q c y H Nx => ∃ b, y = .bl b ∧ if b = true then Nx c H else Q (.bl false) H) (fin := fun Q _ H => Q (.bl true) H) (fun Q => consAll) (fun _ _ => rfl) hr hgl hm boot_allX (by decide +kernel) (by decide +kernel)
    (fun pins σ Q J H a gn s W m F0 turn w0 => GX.call_all_gen hr F0 turn w0) he
theorem gSumG (G : GenOk X g E E' k c P elt tgt iter ifs scope own it tg tr tt mt ma) (hr : Room (k + 2) X.A) (hgl : Gl X "sum") (hm : X.mg "sum" = none)
    (he : starEach [.GeneratorExp elt [⟨tgt, iter, ifs, 0⟩] scope gpos] X.env = (false, eval (.GeneratorExp elt [⟨tgt, iter, ifs, 0⟩] scope gpos) X.env) :: starEach [] X.env := by rfl) :
    PE X (.Call (.Name "sum" p) [.GeneratorExp elt [⟨tgt, iter, ifs, 0⟩] scope gpos] [] pos) (rdE g E (eSumG it tg mt ma (own.map (·.2)))) :=
  G.make (n := "sum") (C := Int) (cc := 0) (em := fun _ => GX.emSum) (fin := fun Q c H => Q (.int c) H) (fun Q => consSum) (fun _ _ => rfl) hr hgl hm boot_sumX (by decide +kernel) (by decide +kernel)
    (fun pins σ Q J H a gn s W m F0 turn w0 => GX.call_sum_gen hr F0 turn w0) he
end
end Mir
/-! E1h: plain: more of dicts and lists. -/
namespace Mir
/-- {k: v, ..} -/
def ePairs : List (EM × EM) → Env → St → Out (List (D × D))
  | [], _, s => .ok [] s
  | (k, v) :: rest, r, s => (k r s).bind fun x s1 => (v r s1).bind fun y s2 => match x, y with
    | .val kk, .val d => if flatK kk = true then (ePairs rest r s2).bind fun ps s3 => .ok ((kk, d) :: ps) s3 else .bad
    | _, _ => .bad
def nDctL (ps : List (EM × EM)) : NM := fun r s => (ePairs ps r s).bind fun qs s1 => .ok (.dct 0 (mergeD [] qs)) s1
/-- dict(d) -/
def nDictC : NpN := fun s xs => match xs with
  | [x] => match dctOf s x with
    | some (0, ps) => some (.dct 0 ps)
    | _ => none
  | _ => none
/-- len, of a dict too -/
def oLenA : OpN := fun s xs => match xs with
  | [x] => match dctOf s x with
    | some (0, ps) => some (.int ps.length)
    | some _ => none
    | none => oLen s [x]
  | _ => none
/-- o.pop(): the last of a cell's list -/
def ePopC (o : EM) : EM := fun r s => (o r s).bind fun x s1 => match x with
  | .val (.ref n) => match s1[n]? with
    | some (.lst xs) => match xs[xs.length - 1]? with
      | some d => .ok (.val d) (s1.set n (.lst xs.dropLast))
      | none => .bad
    | _ => .bad
  | _ => .bad
/-- i = j.pop(), a list of one's own -/
def sPopV (i j : Nat) : SM := fun r s => match r[j]? with
  | some (.own (.lst xs)) => match xs[xs.length - 1]? with
    | some d => if i ≠ j ∧ i < r.length then .nx ((r.set j (.own (.lst xs.dropLast))).set i (.val d)) s else .bad
    | none => .bad
  | _ => .bad
/-- i += e, a list of one's own -/
def extOf (s : St) (x : Opd) : Option (List D) := match x with
  | .val (.tup xs) => some xs
  | .val d => listOf s (.val d)
  | .bor _ => none
def sExtV (i : Nat) (e : EM) : SM := fun r s => match r[i]? with
  | some (.own (.lst xs)) => sBind r (e r s) fun x s1 => match extOf s1 x with
    | some ys => if xs.length + ys.length ≤ lim then .nx (r.set i (.own (.lst (xs ++ ys)))) s1 else .bad
    | none => .bad
  | _ => .bad
/-- o.remove(e), a cell's list -/
def eRemC (o e : EM) : EM := fun r s => (o r s).bind fun x s1 => match x with
  | .val (.ref n) => match s1[n]? with
    | some (.lst _) => (e r s1).bind fun y s2 => match y, s2[n]? with
      | .val d, some (.lst xs) => if shap 20 d = true ∧ shap 20 (.lst xs) = true then match xs.findIdx? (fun z => eqv z d) with
        | some j => .ok (.val .non) (s2.set n (.lst (xs.eraseIdx j)))
        | none => .bad
        else .bad
      | _, _ => .bad
    | _ => .bad
  | _ => .bad
/-- t.index(x), texts -/
def ixTxs (z : Tx) (ds : List D) : Option D := (txsOf ds).bind fun ts => if z ∈ ts then some (.int (ts.idxOf z : Nat)) else none
def oIndexK : Op2 := fun _ x y => match x, y with
  | .val (.ktp ds), .val (.str z) => ixTxs z ds
  | _, _ => none
/-- d.setdefault(k, v), d a cell -/
def setDV (s3 : St) (m : Nat) (kk w : D) : Out Opd := match s3[m]? with
  | some (.dct 0 ps) => if flatK kk = true ∧ ps.length < lim then
      match lookD ps kk with
      | some d => .ok (.val d) s3
      | none => .ok (.val w) (s3.set m (.dct 0 (putD ps kk w)))
    else .bad
  | _ => .bad
def eSetDV (d k e : EM) : EM := fun r s => (d r s).bind fun x s1 => if (dctOf s1 x).isSome = true then (k r s1).bind fun y s2 => (e r s2).bind fun z s3 => match x, y, z with
  | .val (.ref m), .val kk, .val w => setDV s3 m kk w
  | _, _, _ => .bad
  else .bad
/-- str(n) -/
def decT (n : Nat) : Tx := (Nat.toDigits 10 n).map Char.toNat
def oStr : OpN := fun _ xs => match xs with
  | [.val (.int i)] => if 0 ≤ i ∧ i < 2 ^ 64 then some (.str (decT i.toNat)) else none
  | [.val (.str z)] => some (.str z)
  | _ => none
/-- ==, of dicts too: that they are equal -/
def dctU (s : St) : Opd → Option (List (D × D))
  | .val (.dct 0 ps) => some ps
  | .val (.ref n) => match s[n]? with
    | some (.dct 0 ps) => some ps
    | _ => none
  | .bor (.dct 0 ps) => some ps
  | _ => none
def flatD : D → Bool
  | .non => true | .bl _ => true | .int _ => true | .str _ => true
  | _ => false
def eqDP (ps qs : List (D × D)) : Bool := decide (ps.length = qs.length) && ps.all fun p => decide (lookD qs p.1 = some p.2) && flatD p.2
def eqA (s : St) (x y : Opd) : Option Bool := match dctU s x with
  | some ps => match dctU s y with
    | some qs => if eqDP ps qs = true then some true else none
    | none => none
  | none => eqD s x y
def oEqA : Op2 := fun s x y => (eqA s x y).map D.bl
def oNeA : Op2 := fun s x y => (eqA s x y).map fun b => D.bl (!b)
/-! ### dicts walked: a cell, locked meanwhile -/
def sUnl (n : Nat) (ps : List (D × D)) : SOut → SOut
  | .nx r s => if s[n]? = some (.lck 0 ps) then .nx r (s.set n (.dct 0 ps)) else .bad
  | .bk r s => if s[n]? = some (.lck 0 ps) then .bk r (s.set n (.dct 0 ps)) else .bad
  | .ct r s => if s[n]? = some (.lck 0 ps) then .ct r (s.set n (.dct 0 ps)) else .bad
  | .rt d s => if s[n]? = some (.lck 0 ps) then .rt d (s.set n (.dct 0 ps)) else .bad
  | .exc _ _ _ => .bad
  | .bad => .bad
def oUnl {α : Type} (n : Nat) (ps : List (D × D)) : Out α → Out α
  | .ok a s => if s[n]? = some (.lck 0 ps) then .ok a (s.set n (.dct 0 ps)) else .bad
  | .exc _ _ => .bad
  | .bad => .bad
def iKeysD (a : EM) (n : Nat) (ps : List (D × D)) : IM := fun r s => (a r s).bind fun x s1 => match x with
  | .val (.ref m) => if m = n ∧ s1[n]? = some (.lck 0 ps) then .ok (ps.map (·.1), .cel n (.lck 0 ps)) s1 else .bad
  | _ => .bad
/-- the cell that a names -/
def cellD (a : EM) (r : Env) (s : St) : Option (Nat × List (D × D)) := match a r s with
  | .ok (.val (.ref n)) _ => match s[n]? with
    | some (.dct 0 ps) => some (n, ps)
    | _ => none
  | _ => none
/-- body with the dict that a names locked: n, ps -/
def sLock (a : EM) (f : Nat → List (D × D) → SM) : SM := fun r s => match cellD a r s with
  | some (n, ps) => sUnl n ps (f n ps r (s.set n (.lck 0 ps)))
  | none => .bad
def eLock (a : EM) (f : Nat → List (D × D) → EM) : EM := fun r s => match cellD a r s with
  | some (n, ps) => oUnl n ps (f n ps r (s.set n (.lck 0 ps)))
  | none => .bad
def nLock (a : EM) (f : Nat → List (D × D) → NM) : NM := fun r s => match cellD a r s with
  | some (n, ps) => oUnl n ps (f n ps r (s.set n (.lck 0 ps)))
  | none => .bad
def sForD (a : EM) (tg : Tg) (body : SM) : SM := sLock a fun n ps => sFor (iKeysD a n ps) tg body
def nLcD (a : EM) (tg : Tg) (t : TM) (e : EM) (vs : List Nat) : NM := nLock a fun n ps => nLc (iKeysD a n ps) tg t e vs
end Mir
/-! E24: dicts walked: locked cells. -/
namespace Mir
open PySem PySem.Spec PyProof.Rows L2

/-! ### what is kept when a locked dict leaves the frozen things -/
structure Keeps (F F2 : Hp) : Prop where
  k : ∀ a o, F a = some o → (∀ od kvs, o ≠ .frz od (.dK kvs)) → F2 a = some o
section
variable {g : G} {F F' : Hp} {mu : List Addr}
mutual
theorem RepV.keeps (m : Keeps F F') : ∀ (d : D) (v : V), RepV g F mu d v → RepV g F' mu d v
  | .non, _, h => h
  | .bl _, _, h => h
  | .int _, _, h => h
  | .str _, _, h => h
  | .ref n, v, h => h
  | .tup ds, v, h => by
    simp only [RepV] at h ⊢
    obtain ⟨p, vs, h1, h2, h3⟩ := h
    exact ⟨p, vs, h1, m.k _ _ h2 (fun _ _ z => by cases z), RepL.keeps m ds vs h3⟩
  | .ktp ds, v, h => by
    simp only [RepV] at h ⊢
    obtain ⟨p, vs, h1, h2, h3⟩ := h
    exact ⟨p, vs, h1, h2, RepL.keeps m ds vs h3⟩
  | .lst ds, v, h => by
    simp only [RepV] at h ⊢
    obtain ⟨p, vs, h1, h2, h3⟩ := h
    exact ⟨p, vs, h1, m.k _ _ h2 (fun _ _ z => by cases z), RepL.keeps m ds vs h3⟩
  | .scr ds, v, h => by
    simp only [RepV] at h ⊢
    obtain ⟨p, vs, h1, h2, h3⟩ := h
    exact ⟨p, vs, h1, h2.imp (fun ⟨od, z⟩ => ⟨od, m.k _ _ z (fun _ _ z => by cases z)⟩) (fun z => z.imp (fun z => m.k _ _ z (fun _ _ z => by cases z)) fun z => z), RepL.keeps m ds vs h3⟩
  | .dct t ps, v, h => by
    simp only [RepV] at h ⊢
    obtain ⟨p, h1, h2⟩ := h
    refine ⟨p, h1, h2.imp (fun ⟨e, kvs, a, b⟩ => ⟨e, kvs, m.k _ _ a (fun _ _ z => by cases z), RepP.keeps m ps kvs b⟩) fun ⟨e, kvs, a, b⟩ => ⟨e, kvs, m.k _ _ a (fun _ _ z => by cases z), RepT.keeps m ps kvs b⟩⟩
  | .obj c fs, v, h => by
    simp only [RepV] at h ⊢
    obtain ⟨p, C, ns, dx, vs, h1, h2, h3, h4, h5⟩ := h
    exact ⟨p, C, ns, dx, vs, h1, h2, h3, m.k _ _ h4 (fun _ _ z => by cases z), RepL.keeps m fs vs h5⟩
  | .lam _, _, h => by simp only [RepV] at h
theorem RepL.keeps (m : Keeps F F') : ∀ (ds : List D) (vs : List V), RepL g F mu ds vs → RepL g F' mu ds vs
  | [], _, h => by simp only [RepL] at h ⊢; exact h
  | d :: ds, vs, h => by
    simp only [RepL] at h ⊢
    obtain ⟨v, r, h1, h2, h3⟩ := h
    exact ⟨v, r, h1, RepV.keeps m d v h2, RepL.keeps m ds r h3⟩
theorem RepP.keeps (m : Keeps F F') : ∀ (ps : List (D × D)) (kvs : List (Key × V)), RepP g F mu ps kvs → RepP g F' mu ps kvs
  | [], _, h => by simp only [RepP] at h ⊢; exact h
  | (k, d) :: ps, kvs, h => by
    simp only [RepP] at h ⊢
    obtain ⟨k', v, r, h1, h2, h3, h4⟩ := h
    exact ⟨k', v, r, h1, h2, RepV.keeps m d v h3, RepP.keeps m ps r h4⟩
theorem RepT.keeps (m : Keeps F F') : ∀ (ps : List (D × D)) (kvs : List (List Key × V)), RepT g F mu ps kvs → RepT g F' mu ps kvs
  | [], _, h => by simp only [RepT] at h ⊢; exact h
  | (.tup ks, d) :: ps, kvs, h => by
    simp only [RepT] at h ⊢
    obtain ⟨k', v, r, h1, h2, h3, h4⟩ := h
    exact ⟨k', v, r, h1, h2, RepV.keeps m d v h3, RepT.keeps m ps r h4⟩
  | (.non, _) :: _, _, h => by simp only [RepT] at h
  | (.bl _, _) :: _, _, h => by simp only [RepT] at h
  | (.int _, _) :: _, _, h => by simp only [RepT] at h
  | (.str _, _) :: _, _, h => by simp only [RepT] at h
  | (.ref _, _) :: _, _, h => by simp only [RepT] at h
  | (.lst _, _) :: _, _, h => by simp only [RepT] at h
  | (.dct _ _, _) :: _, _, h => by simp only [RepT] at h
  | (.obj _ _, _) :: _, _, h => by simp only [RepT] at h
  | (.lam _, _) :: _, _, h => by simp only [RepT] at h
  | (.scr _, _) :: _, _, h => by simp only [RepT] at h
  | (.ktp _, _) :: _, _, h => by simp only [RepT] at h
end
theorem CellAt.keeps {H : Hp} {a : Addr} (m : Keeps F F') (ea : F' a = F a) : ∀ {c : Cell}, CellAt g F mu H a c → CellAt g F' mu H a c
  | .lst xs, ⟨vs, h1, h2⟩ => ⟨vs, h1, RepL.keeps m _ _ h2⟩
  | .dct t ps, h => Or.imp (fun ⟨e, kvs, a, b⟩ => ⟨e, kvs, a, RepP.keeps m _ _ b⟩) (fun ⟨e, kvs, a, b⟩ => ⟨e, kvs, a, RepT.keeps m _ _ b⟩) h
  | .ins c fs, ⟨C, ns, dx, vs, h1, h2, h3, h4⟩ => ⟨C, ns, dx, vs, h1, h2, h3, RepL.keeps m _ _ h4⟩
  | .lck t ps, ⟨od, h⟩ => ⟨od, Or.imp (fun ⟨e, kvs, a, b, c⟩ => ⟨e, kvs, a, RepP.keeps m _ _ b, ea.trans c⟩) (fun ⟨e, kvs, a, b, c⟩ => ⟨e, kvs, a, RepT.keeps m _ _ b, ea.trans c⟩) h⟩
end
def offF (F : Hp) (d : Addr) : Hp := fun a => if a = d then none else F a
theorem offF_same {F : Hp} {d : Addr} : offF F d d = none := by simp [offF]
theorem offF_ne {F : Hp} {d a : Addr} (h : a ≠ d) : offF F d a = F a := by simp [offF, h]
theorem offF_some {F : Hp} {d a : Addr} {o : HO} (h : offF F d a = some o) : a ≠ d ∧ F a = some o := by
  by_cases e : a = d
  · subst e
    rw [offF_same] at h
    cases h
  · rw [offF_ne e] at h
    exact ⟨e, h⟩
theorem offF_keeps {F : Hp} {d : Addr} {od : Obj} {kvs : List (Key × V)} (h : F d = some (.frz od (.dK kvs))) : Keeps F (offF F d) := ⟨fun a o ha hn => by
  have e : a ≠ d := fun z => by
    subst z
    rw [h] at ha
    cases ha
    exact hn _ _ rfl
  rw [offF_ne e]
  exact ha⟩
section
variable {g : G} {H F H' F' : Hp} {mu mu' : List Addr} {st st' : Mir.St} {n : Nat} {ps : List (D × D)} {d : Addr}
/-- the cell n is a dict: where it stands -/
theorem dct0_at (rh : RH g H F mu st) (hn : st[n]? = some (.dct 0 ps)) : ∃ d kvs, mu[n]? = some d ∧ F d = none ∧ H d = some (.dK kvs) ∧ RepP g F mu ps kvs := by
  obtain ⟨a, h1, h2, ⟨_, kvs, h3, h4⟩ | ⟨h3, _⟩⟩ := rh.cel n _ hn
  · exact ⟨a, kvs, h1, h2 rfl, h3, h4⟩
  · cases h3
theorem Mono.lock {o : HO} (hF : F d = none) : Mono F mu (upd F d o) mu := Mono.freeze hF
theorem RH.lock {od : Obj} {kvs : List (Key × V)} (rh : RH g H F mu st) (hn : st[n]? = some (.dct 0 ps)) (hm : mu[n]? = some d) (hF : F d = none) (hd : H d = some (.dK kvs)) (hp : RepP g F mu ps kvs) :
    RH g (upd H d (.frz od (.dK kvs))) (upd F d (.frz od (.dK kvs))) mu (st.set n (.lck 0 ps)) where
  ntb := fun b qs e => by
    by_cases h : b = d
    · subst h
      rw [upd_same] at e
      cases e
    · rw [upd_ne h] at e
      exact rh.ntb b qs e
  fro := fun b u e => by
    by_cases h : b = d
    · subst h
      rw [upd_same] at e
      exact .inl (by rw [upd_same]; exact e)
    · rw [upd_ne h] at e
      rcases rh.fro b u e with q | ⟨k, q⟩
      · exact .inl (by rw [upd_ne h]; exact q)
      · exact k.elim
  len := by simp [rh.len]
  nd := rh.nd
  cel := fun m c e => by
    by_cases h : m = n
    · subst h
      rw [List.getElem?_set_self (List.getElem?_eq_some_iff.mp hn).1] at e
      cases e
      exact ⟨d, hm, (fun z => by cases z), od, .inl ⟨rfl, kvs, upd_same, RepP.mono (Mono.lock hF) _ _ hp, upd_same⟩⟩
    · rw [List.getElem?_set_ne (Ne.symm h)] at e
      obtain ⟨b, q1, q2, q3⟩ := rh.cel m c e
      have hne : b ≠ d := fun z => by
        subst z
        exact h (nd_ix rh.nd q1 hm)
      exact ⟨b, q1, by rw [upd_ne hne]; exact q2, (CellAt.at (upd_ne hne) q3).mono (Mono.lock hF)⟩
  tab := tabs_set rh.tab hd (fun _ z => by cases z) (fun _ z => by cases z)
theorem Ext.lock {od : Obj} {kvs : List (Key × V)} (hm : mu[n]? = some d) (hF : F d = none) : Ext H F mu (upd H d (.frz od (.dK kvs))) (upd F d (.frz od (.dK kvs))) mu where
  mo := Mono.lock hF
  keep := fun b u e hb _ => by rw [upd_ne (fun (z : b = d) => hb (by rw [z]; exact List.mem_of_getElem? hm))]; exact e
  dom := fun b h => Nw.put (fun _ z => by cases z) h
  frF := fun b u e => by
    by_cases h : b = d
    · exact .inr (.inr (h ▸ List.mem_of_getElem? hm))
    · rw [upd_ne h] at e
      exact .inl e
  frM := fun b h => .inl h
/-- behind the lock -/
theorem RH.unlock {od : Obj} {kvs : List (Key × V)} (rh : RH g H F mu st) (hn : st[n]? = some (.lck 0 ps)) (hm : mu[n]? = some d) (hF : F d = some (.frz od (.dK kvs))) :
    H d = some (.frz od (.dK kvs)) ∧ RH g (upd H d (.dK kvs)) (offF F d) mu (st.set n (.dct 0 ps)) := by
  have hd : H d = some (.frz od (.dK kvs)) := (rh.fro d _ hF).resolve_right fun z => z.1
  obtain ⟨a, h1, _, od', ⟨_, kvs', h3, h4, _⟩ | ⟨h3, _⟩⟩ := rh.cel n _ hn
  · rw [hm] at h1
    cases h1
    rw [hd] at h3
    cases h3
    have kp := offF_keeps hF
    refine ⟨hd, ⟨fun b u e => ?_, by simp [rh.len], rh.nd, fun m c e => ?_, tabs_set rh.tab hd (fun _ z => by cases z) (fun _ z => by cases z), fun b qs e => ?_⟩⟩
    · obtain ⟨h, e⟩ := offF_some e
      rcases rh.fro b u e with q | ⟨k, _⟩
      · exact .inl (by rw [upd_ne h]; exact q)
      · exact k.elim
    · by_cases h : m = n
      · subst h
        rw [List.getElem?_set_self (List.getElem?_eq_some_iff.mp hn).1] at e
        cases e
        exact ⟨d, hm, fun _ => offF_same, .inl ⟨rfl, kvs, upd_same, RepP.keeps kp _ _ h4⟩⟩
      · rw [List.getElem?_set_ne (Ne.symm h)] at e
        obtain ⟨b, q1, q2, q3⟩ := rh.cel m c e
        have hne : b ≠ d := fun z => by
          subst z
          exact h (nd_ix rh.nd q1 hm)
        exact ⟨b, q1, by rw [offF_ne hne]; exact q2, (CellAt.at (upd_ne hne) q3).keeps kp (offF_ne hne)⟩
    · exact rh.ntb b qs (offF_some e).2
  · cases h3
theorem Mono.unlock {F0 : Hp} {mu0 : List Addr} (mo : Mono F0 mu0 F mu) (h0 : F0 d = none) : Mono F0 mu0 (offF F d) mu := ⟨fun a o e => by
  rw [offF_ne (fun z => by rw [z, h0] at e; cases e)]
  exact mo.fro a o e, mo.mu⟩
theorem Ext.unlock {H0 F0 : Hp} {mu0 : List Addr} {u : HO} (e : Ext H0 F0 mu0 H F mu) (h0 : F0 d = none) (hm : d ∈ mu) (hu : ∀ ps, u ≠ .tbl ps) : Ext H0 F0 mu0 (upd H d u) (offF F d) mu where
  mo := e.mo.unlock h0
  keep := fun a o h1 h2 h3 => by
    have hne : a ≠ d := fun z => by
      subst z
      rcases e.frM a hm with q | q
      · exact h2 q
      · exact q.no h1 h3
    rw [upd_ne hne]
    exact e.keep a o h1 h2 h3
  dom := fun a h => e.dom a (Nw.put hu h)
  frF := fun a o h => e.frF a o (offF_some h).2
  frM := e.frM
end
end Mir
/-! E25: walks over dicts that are cells. -/
namespace Mir
open PySem PySem.Spec PyProof.Rows L2
section
variable {X : Cx} {g : G} {E : XK} {B : Bs} {pos : Pos} {a b c e : Expr} {ma mb mc : EM} {sa : Stmt} {n : Nat} {ps : List (D × D)}
theorem RB.unlock {s : L2.St} {H F : Hp} {mu : List Addr} {r : Env} {st : Mir.St} {d : Addr} {od : Obj} {kvs : List (Key × V)} (rb : RB g B s H F mu r st) (hB : B.F d = none) (hn : st[n]? = some (.lck 0 ps)) (hm : mu[n]? = some d) (hF : F d = some (.frz od (.dK kvs))) :
    RB g B s (upd H d (.dK kvs)) (offF F d) mu r (st.set n (.dct 0 ps)) := by
  obtain ⟨hd, rh2⟩ := rb.re.h.unlock hn hm hF
  have kp := offF_keeps hF
  have hmem : d ∈ mu := List.mem_of_getElem? hm
  refine ⟨⟨rh2, rb.re.len, fun i x hx => ?_, rb.re.own⟩, rb.ext.unlock hB hmem (fun _ z => by cases z), rb.own, rb.slf⟩
  obtain ⟨o, h1, h2⟩ := rb.re.slot i x hx
  refine ⟨o, h1, ?_⟩
  cases x with
  | no => trivial
  | val dd =>
    obtain ⟨v, e1, e2⟩ := h2
    exact ⟨v, e1, RepV.keeps kp _ _ e2⟩
  | own cc =>
    obtain ⟨q, e1, e2, e3, e4⟩ := h2
    have hne : q ≠ d := fun z => e3 (z ▸ hmem)
    exact ⟨q, e1, by rw [offF_ne hne]; exact e2, e3, (CellAt.at (upd_ne hne) e4).keeps kp (offF_ne hne)⟩
theorem PostS.unl {H F : Hp} {mu : List Addr} {d : Addr} {od : Obj} {kvs : List (Key × V)} {D : Ends} (hB : B.F d = none) (hm : mu[n]? = some d) (hF : F d = none) : ∀ {o : SOut}, PostS g E B F mu D (sUnl n ps o) →
    PostS g E B (upd F d (.frz od (.dK kvs))) mu ⟨fun σ' H' => H' d = some (.frz od (.dK kvs)) ∧ D.nx σ' (upd H' d (.dK kvs)), fun v H' => H' d = some (.frz od (.dK kvs)) ∧ D.rt v (upd H' d (.dK kvs)), fun σ' H' => H' d = some (.frz od (.dK kvs)) ∧ D.bk σ' (upd H' d (.dK kvs)), fun σ' H' => H' d = some (.frz od (.dK kvs)) ∧ D.ct σ' (upd H' d (.dK kvs))⟩ o
  | .nx r' st', k => fun s' H' F' mu' rb' mo' => by
    rw [sUnl] at k
    split at k
    · rename_i hn
      have hF' := mo'.fro d _ (upd_same (o := .frz od (.dK kvs)))
      have hm' := mo'.mu _ _ hm
      exact ⟨(rb'.re.h.unlock hn hm' hF').1, k s' _ _ mu' (rb'.unlock hB hn hm' hF') (((Mono.lock hF).trans mo').unlock hF)⟩
    · exact k.elim
  | .bk r' st', k => fun s' H' F' mu' rb' mo' => by
    rw [sUnl] at k
    split at k
    · rename_i hn
      have hF' := mo'.fro d _ (upd_same (o := .frz od (.dK kvs)))
      have hm' := mo'.mu _ _ hm
      exact ⟨(rb'.re.h.unlock hn hm' hF').1, k s' _ _ mu' (rb'.unlock hB hn hm' hF') (((Mono.lock hF).trans mo').unlock hF)⟩
    · exact k.elim
  | .ct r' st', k => fun s' H' F' mu' rb' mo' => by
    rw [sUnl] at k
    split at k
    · rename_i hn
      have hF' := mo'.fro d _ (upd_same (o := .frz od (.dK kvs)))
      have hm' := mo'.mu _ _ hm
      exact ⟨(rb'.re.h.unlock hn hm' hF').1, k s' _ _ mu' (rb'.unlock hB hn hm' hF') (((Mono.lock hF).trans mo').unlock hF)⟩
    · exact k.elim
  | .rt d' st', k => fun v H' F' mu' rh' ex' mo' rv => by
    rw [sUnl] at k
    split at k
    · rename_i hn
      have hF' := mo'.fro d _ (upd_same (o := .frz od (.dK kvs)))
      have hm' := mo'.mu _ _ hm
      obtain ⟨h1, h2⟩ := rh'.unlock hn hm' hF'
      exact ⟨h1, k v _ _ mu' h2 (ex'.unlock hB (List.mem_of_getElem? hm') (fun _ z => by cases z)) (((Mono.lock hF).trans mo').unlock hF) (RepV.keeps (offF_keeps hF') _ _ rv)⟩
    · exact k.elim
  | .exc _ _ _, k => k.elim
  | .bad, k => k.elim
theorem cellD_at {r : Env} {st : Mir.St} (h : cellD ma r st = some (n, ps)) : st[n]? = some (.dct 0 ps) := by
  unfold cellD at h
  split at h
  · split at h
    · rename_i hn
      cases h
      exact hn
    · cases h
  · cases h
theorem qLock {f : Nat → List (D × D) → SM} (h : ∀ n ps, PS X sa (rdS g E B (f n ps))) : PS X sa (rdS g E B (sLock ma f)) := by
  have h' : PS X sa (fun D s H => ∃ n ps, rdS g E B (f n ps) D s H) := ⟨fun pins s σ H D I ⟨n, ps, q⟩ => (h n ps).run pins s σ H D I q⟩
  refine PS.imp (ps_lock h') fun D s H k => ?_
  obtain ⟨r, st, F, mu, rb, k⟩ := k
  unfold sLock at k
  split at k
  · rename_i n ps hc
    have hn := cellD_at hc
    obtain ⟨d, kvs, hm, hF, hd, hp⟩ := dct0_at rb.re.h hn
    have hB : B.F d = none := by
      cases q : B.F d with
      | none => rfl
      | some o =>
        have := rb.ext.mo.fro d o q
        rw [hF] at this
        cases this
    exact ⟨d, .dK kvs, hd, trivial, fun od => ⟨n, ps, r, st.set n (.lck 0 ps), upd F d (.frz od (.dK kvs)), mu, rb.step (Ext.lock hm hF) (rb.re.step (Ext.lock hm hF) (rb.re.h.lock hn hm hF hd hp)), PostS.unl (H := H) hB hm hF k⟩⟩
  · exact k.elim
/-- values behind the lock -/
theorem OutQ.unl {α : Type} {s : L2.St} {H F : Hp} {mu : List Addr} {r : Env} {st : Mir.St} {rep : Hp → Hp → List Addr → α → V → Prop} {Q : VK} {d : Addr} {od : Obj} {kvs : List (Key × V)} (re : RE g s H F mu r st) (hm : mu[n]? = some d) (hF : F d = none)
    (hrep : ∀ H' F' mu' x v, F' d = some (.frz od (.dK kvs)) → d ∈ mu' → rep H' F' mu' x v → rep (upd H' d (.dK kvs)) (offF F' d) mu' x v) : ∀ {o : Out α}, OutQ g s H F mu r rep E Q (oUnl n ps o) →
    OutQ g s (upd H d (.frz od (.dK kvs))) (upd F d (.frz od (.dK kvs))) mu r rep E (fun v H' => H' d = some (.frz od (.dK kvs)) ∧ Q v (upd H' d (.dK kvs))) o
  | .ok x st', k => fun v H' F' mu' ex re' rp => by
    rw [oUnl] at k
    split at k
    · rename_i hn
      have hF' := ex.mo.fro d _ (upd_same (o := .frz od (.dK kvs)))
      have hm' := ex.mo.mu _ _ hm
      have hmem := List.mem_of_getElem? hm'
      obtain ⟨h1, h2⟩ := re'.h.unlock hn hm' hF'
      have ex2 : Ext H F mu (upd H' d (.dK kvs)) (offF F' d) mu' := ((Ext.lock hm hF).trans ex).unlock hF hmem (fun _ z => by cases z)
      exact ⟨h1, k v _ _ mu' ex2 (re.step ex2 h2) (hrep _ _ _ _ _ hF' hmem rp)⟩
    · exact k.elim
  | .exc _ _, k => k.elim
  | .bad, k => k.elim
theorem xLock {f : Nat → List (D × D) → EM} (h : ∀ n ps, PE X e (rdE g E (f n ps))) : PE X e (rdE g E (eLock ma f)) := by
  have h' : PE X e (fun s H Q => ∃ n ps, rdE g E (f n ps) s H Q) := ⟨fun pins s σ H Q I ⟨n, ps, q⟩ => (h n ps).run pins s σ H Q I q⟩
  refine PE.imp (pe_lock h') fun s H Q k => ?_
  obtain ⟨r, st, F, mu, re, k⟩ := k
  unfold eLock at k
  split at k
  · rename_i n ps hc
    have hn := cellD_at hc
    obtain ⟨d, kvs, hm, hF, hd, hp⟩ := dct0_at re.h hn
    refine ⟨d, .dK kvs, hd, trivial, fun od => ⟨n, ps, r, st.set n (.lck 0 ps), upd F d (.frz od (.dK kvs)), mu, re.step (Ext.lock hm hF) (re.h.lock hn hm hF hd hp), OutQ.unl re hm hF (fun H' F' mu' x v hF' hmem rp => ?_) k⟩⟩
    cases x with
    | val dd => exact RepV.keeps (offF_keeps hF') _ _ rp
    | bor cc =>
      obtain ⟨q, e1, e2, e3, e4⟩ := rp
      have hne : q ≠ d := fun z => e3 (z ▸ hmem)
      exact ⟨q, e1, by rw [offF_ne hne]; exact e2, e3, (CellAt.at (upd_ne hne) e4).keeps (offF_keeps hF') (offF_ne hne)⟩
  · exact k.elim
theorem yLock {f : Nat → List (D × D) → NM} (h : ∀ n ps, PE X e (rdN g E (f n ps))) : PE X e (rdN g E (nLock ma f)) := by
  have h' : PE X e (fun s H Q => ∃ n ps, rdN g E (f n ps) s H Q) := ⟨fun pins s σ H Q I ⟨n, ps, q⟩ => (h n ps).run pins s σ H Q I q⟩
  refine PE.imp (pe_lock h') fun s H Q k => ?_
  obtain ⟨r, st, F, mu, re, k⟩ := k
  unfold nLock at k
  split at k
  · rename_i n ps hc
    have hn := cellD_at hc
    obtain ⟨d, kvs, hm, hF, hd, hp⟩ := dct0_at re.h hn
    refine ⟨d, .dK kvs, hd, trivial, fun od => ⟨n, ps, r, st.set n (.lck 0 ps), upd F d (.frz od (.dK kvs)), mu, re.step (Ext.lock hm hF) (re.h.lock hn hm hF hd hp), OutQ.unl (ps := ps) (rep := fun H' F' mu' c v => ∃ a, v = .ref a ∧ F' a = none ∧ a ∉ mu' ∧ Nw (upd H d (.frz od (.dK kvs))) a ∧ CellAt g F' mu' H' a c) re hm hF (fun H' F' mu' x v hF' hmem rp => ?_) ?_⟩⟩
    · obtain ⟨q, e1, e2, e3, e5, e4⟩ := rp
      have hne : q ≠ d := fun z => e3 (z ▸ hmem)
      exact ⟨q, e1, by rw [offF_ne hne]; exact e2, e3, e5, (CellAt.at (upd_ne hne) e4).keeps (offF_keeps hF') (offF_ne hne)⟩
    · revert k
      generalize oUnl n ps (f n ps r (st.set n (.lck 0 ps))) = o
      intro k
      cases o with
      | ok x st' => exact fun v H' F' mu' ex re' ⟨q, e1, e2, e3, e5, e4⟩ => k v H' F' mu' ex re' ⟨q, e1, e2, e3, Nw.put (fun _ z => by cases z) e5, e4⟩
      | exc x st' => exact k
      | bad => exact k
  · exact k.elim
/-! ### the keys of the locked dict -/
theorem RepP.key {F : Hp} {mu : List Addr} : ∀ {ps : List (D × D)} {kvs : List (Key × V)} {i : Nat} {d : D}, RepP g F mu ps kvs → (ps.map (·.1))[i]? = some d → ∃ k v, kvs[i]? = some (k, v) ∧ RepV g F mu d (kV k)
  | [], _, i, d, _, e => by simp at e
  | (a, x) :: ps, kvs, 0, d, h, e => by
    simp only [RepP] at h
    obtain ⟨k', v, r, rfl, h1, h2, h3⟩ := h
    simp at e
    subst e
    refine ⟨k', v, rfl, ?_⟩
    cases a <;> simp only [RepK] at h1 <;> (try cases h1) <;> simp only [RepV] <;> rfl
  | (a, x) :: ps, kvs, i + 1, d, h, e => by
    simp only [RepP] at h
    obtain ⟨k', v, r, rfl, h1, h2, h3⟩ := h
    simp only [List.map_cons, List.getElem?_cons_succ] at e
    obtain ⟨k, w, h4, h5⟩ := RepP.key h3 e
    exact ⟨k, w, by simpa using h4, h5⟩
theorem piKeysD {tg : Expr} (he : PE X e (rdE g E ma)) (n : Nat) (ps : List (D × D)) : PI X tg e (rdI g E (iKeysD ma n ps)) := PI.imp (pi_keys he) fun s H R h => by
  obtain ⟨r, st, F, mu, re, h⟩ := h
  refine ⟨r, st, F, mu, re, OutQ.bind h fun x st1 v H1 F1 mu1 _ e1 re1 rx k => ?_⟩
  cases x with
  | bor c => exact k.elim
  | val dd =>
    cases dd with
    | ref m =>
      dsimp only at k
      by_cases hc : m = n ∧ st1[n]? = some (.lck 0 ps)
      · rw [if_pos hc] at k
        obtain ⟨rfl, hn⟩ := hc
        simp only [RepX, RepV] at rx
        obtain ⟨d, hm, rfl⟩ := rx
        obtain ⟨d', h1, _, od, ⟨_, kvs, h3, h4, h5⟩ | ⟨h3, _⟩⟩ := re1.h.cel m _ hn
        · rw [hm] at h1
          cases h1
          refine ⟨d, od, rfl, .inl ⟨kvs, h3, k (Itk d od kvs) H1 F1 mu1 e1 re1 fun H2 F2 mu2 st2 mo2 rh2 hw i => ?_⟩⟩
          have hd2 : H2 d = some (.frz od (.dK kvs)) := (rh2.fro d _ (mo2.fro _ _ h5)).resolve_right fun z => z.1
          have h42 := RepP.mono mo2 _ _ h4
          refine ⟨fun hi => ⟨hd2, ?_⟩, fun d' hd' => ?_⟩
          · rw [hi, List.length_map, h42.len]
            exact Nat.le_refl _
          · obtain ⟨k', v', w1, w2⟩ := h42.key hd'
            refine ⟨⟨hd2, (List.getElem?_eq_some_iff.mp w1).1⟩, fun x H' yy => ?_⟩
            obtain ⟨rfl, k2, v2, y1, rfl⟩ := yy
            rw [w1] at y1
            cases y1
            exact ⟨F2, rh2, .refl _ _ _, w2⟩
        · cases h3
      · rw [if_neg hc] at k
        exact k.elim
    | _ => exact k.elim
end
end Mir
/-! E26: dict literals, copies, len; pop, remove, +=, index, setdefault, str, == of dicts. -/
namespace Mir
open PySem PySem.Spec PyProof.Rows L2
section
variable {X : Cx} {g : G} {E : XK} {B : Bs} {pos p2 p3 apos : Pos} {a b c e f o : Expr} {ma mb mc : EM} {es : List Expr} {mas : AM} {sa : Stmt} {k : Nat}
/-! ### {k: v, ..} -/
def rdPs (g : G) (E : XK) (m : List (EM × EM)) : L2.St → Hp → (List (V × V) → Hp → Prop) → Prop := fun s H Q => ∃ r st F mu, RE g s H F mu r st ∧ OutQ g s H F mu r (fun _ F' mu' qs (ws : List (V × V)) => ∃ kvs : List (Key × V), ws = kvs.map (fun kv => (kV kv.1, kv.2)) ∧ RepP g F' mu' qs kvs) E Q (ePairs m r st)
theorem rdPs_run : ∀ (m : List (EM × EM)) (s : L2.St) (H : Hp) (Q : List (V × V) → Hp → Prop), rdPs g E m s H Q → tPairs (m.map fun p => (rdE g E p.1, rdE g E p.2)) s H Q
  | [], s, H, Q, ⟨r, st, F, mu, re, k⟩ => k [] H F mu (.refl _ _ _) re ⟨[], rfl, by simp only [RepP]⟩
  | (mk, mv) :: m, s, H, Q, ⟨r, st, F, mu, re, h⟩ => by
    simp only [List.map_cons, tPairs]
    refine ⟨r, st, F, mu, re, OutQ.bind h fun x st1 v H1 F1 mu1 _ e1 re1 rx k => ?_⟩
    refine ⟨r, st1, F1, mu1, re1, OutQ.bind (k.ext e1) fun y st2 w H2 F2 mu2 _ e2 re2 ry k2 => ?_⟩
    cases x with
    | bor c => cases y <;> exact k2.elim
    | val kk =>
      cases y with
      | bor c => exact k2.elim
      | val d =>
        dsimp only at k2
        by_cases hk : flatK kk = true
        · rw [if_pos hk] at k2
          refine rdPs_run m s H2 _ ⟨r, st2, F2, mu2, re2, OutQ.bind (k2.ext e2) fun qs st3 ws H3 F3 mu3 _ e3 re3 rq k3 => ?_⟩
          obtain ⟨kvs, rfl, rp⟩ := rq
          obtain ⟨k', rfl, hk'⟩ := flat_key hk (RepV.mono (e2.mo.trans e3.mo) _ _ rx)
          refine k3 _ H3 F3 mu3 e3 re3 ⟨(k', w) :: kvs, rfl, ?_⟩
          simp only [RepP]
          exact ⟨k', w, kvs, rfl, hk', RepV.mono e3.mo _ _ ry, rp⟩
        · rw [if_neg hk] at k2
          exact k2.elim
/-- a new thing that stands while others are made, then gets what it holds -/
theorem late {s : L2.St} {H F H2 F2 : Hp} {mu mu2 : List Addr} {r : Env} {st st2 : Mir.St} {p : Addr} {o o2 : HO} (re : RE g s H F mu r st) (hp : H p = none) (ho : ∀ ps, o ≠ .tbl ps) (hx : ∀ f, o ≠ .ext f) (ex : Ext (upd H p o) F mu H2 F2 mu2) (re2 : RE g s H2 F2 mu2 r st2) :
    H2 p = some o ∧ F2 p = none ∧ p ∉ mu2 ∧ Ext H F mu (upd H2 p o2) F2 mu2 ∧ RE g s (upd H2 p o2) F2 mu2 r st2 := by
  have hm : p ∉ mu := fun z => mem_mu re.h z hp
  have h2 : H2 p = some o := ex.keep p o upd_same hm ho
  have hF : F2 p = none := by
    cases q : F2 p with
    | none => rfl
    | some z =>
      rcases ex.frF p z q with y | y | y
      · rw [F_new re.h hp] at y; cases y
      · exact (y.no upd_same ho).elim
      · exact absurd y hm
  have hm2 : p ∉ mu2 := fun z => by
    rcases ex.frM p z with y | y
    · exact hm y
    · exact y.no upd_same ho
  have ex2 : Ext H F mu (upd H2 p o2) F2 mu2 := by
    refine ⟨ex.mo, fun a u h1 h3 h4 => ?_, fun a h => ?_, fun a u h => ?_, fun a h => ?_⟩
    · have hne : a ≠ p := fun z => by rw [z, hp] at h1; cases h1
      rw [upd_ne hne]
      exact ex.keep a u (by rw [upd_ne hne]; exact h1) h3 h4
    · by_cases hne : a = p
      · subst hne
        exact Nw.of hp
      · have : Nw H2 a := fun u q => h u (by rw [upd_ne hne]; exact q)
        have := ex.dom a this
        exact fun u q => this u (by rw [upd_ne hne]; exact q)
    · rcases ex.frF a u h with y | y | y
      · exact .inl y
      · refine .inr (.inl ?_)
        by_cases hne : a = p
        · subst hne
          exact Nw.of hp
        · exact fun u q => y u (by rw [upd_ne hne]; exact q)
      · exact .inr (.inr y)
    · rcases ex.frM a h with y | y
      · exact .inl y
      · refine .inr ?_
        by_cases hne : a = p
        · subst hne
          exact Nw.of hp
        · exact fun u q => y u (by rw [upd_ne hne]; exact q)
  exact ⟨h2, hF, hm2, ex2, re.step ex2 (re2.h.putOwn hF hm2 h2 ho hx)⟩
theorem ePairs_len : ∀ {m : List (EM × EM)} {r : Env} {st st' : Mir.St} {qs : List (D × D)}, ePairs m r st = .ok qs st' → qs.length = m.length
  | [], _, _, _, _, h => by cases h; rfl
  | (a, b) :: m, r, st, st', qs, h => by
    unfold ePairs at h
    cases h1 : a r st with
    | exc _ _ => rw [h1] at h; cases h
    | bad => rw [h1] at h; cases h
    | ok x s1 =>
      rw [h1, Out.bind_ok] at h
      cases h2 : b r s1 with
      | exc _ _ => rw [h2] at h; cases h
      | bad => rw [h2] at h; cases h
      | ok y s2 =>
        rw [h2, Out.bind_ok] at h
        cases x with
        | bor c => cases y <;> cases h
        | val kk =>
          cases y with
          | bor c => cases h
          | val d =>
            dsimp only at h
            split at h
            · cases h3 : ePairs m r s2 with
              | exc _ _ => rw [h3] at h; cases h
              | bad => rw [h3] at h; cases h
              | ok ps s3 =>
                rw [h3, Out.bind_ok] at h
                cases h
                simp [ePairs_len h3]
            · cases h
theorem yDctL {keys : List (Option Expr)} {values : List Expr} {m : List (EM × EM)} (h : PPs X pos keys values (m.map fun p => (rdE g E p.1, rdE g E p.2))) (h15 : m.length ≤ 15) (hall : keys.all (·.isSome) = true := by rfl) (hl : keys.length = values.length := by rfl) (h0 : keys ≠ [] := by intro z; cases z)
    (hk : keys.length ≤ 15 := by decide) : PE X (.Dict keys values pos) (rdN g E (nDctL m)) := PE.imp (pe_disp h hall hl h0 hk) fun s H Q q => by
  obtain ⟨r, st, F, mu, re, q⟩ := q
  intro p hp
  have ex0 : Ext H F mu (upd H p (.dK [])) F mu := Ext.newOwn hp
  refine rdPs_run m s _ _ ⟨r, st, F, mu, re.step ex0 (re.h.newOwn hp), OutQ.bind (q.ext ex0) fun qs st1 ws H1 F1 mu1 hq e1 re1 rq k => ?_⟩
  obtain ⟨kvs, rfl, rp⟩ := rq
  obtain ⟨l1, l2, l3, l4, l5⟩ := late (o2 := .dK (mergeK [] kvs)) re hp (fun _ z => by cases z) (fun _ z => by cases z) e1 re1
  refine ⟨l1, kvs, rfl, ?_, ?_⟩
  · rw [← rp.len, ePairs_len hq]
    exact h15
  · unfold nDctL at q
    rw [hq] at q
    exact q _ _ F1 mu1 l4 l5 ⟨p, rfl, l2, l3, Nw.of hp, .inl ⟨rfl, _, upd_same, mergeP rp (by simp only [RepP])⟩⟩
theorem ppsN : PPs X pos [] [] (([] : List (EM × EM)).map fun p => (rdE g E p.1, rdE g E p.2)) := pps_nil
theorem ppsC {ks : List (Option Expr)} {vs : List Expr} {m : List (EM × EM)} (ha : PE X a (rdE g E ma)) (hb : PE X b (rdE g E mb)) (hr : PPs X pos ks vs (m.map fun p => (rdE g E p.1, rdE g E p.2))) :
    PPs X pos (some a :: ks) (b :: vs) (((ma, mb) :: m).map fun p => (rdE g E p.1, rdE g E p.2)) := pps_cons ha hb hr

/-! ### dict(d), len(d) -/
theorem sDictC : NpSN g (fun xs H Q => ∃ (a : Addr) (kvs : List (Key × V)), xs = [.ref a] ∧ Rd H a (.dK kvs) ∧ ∀ p, H p = none → Q (.ref p) (upd H p (.dK kvs))) nDictC := fun H F mu st xs vs c Q rh rx e q => by
  unfold nDictC at e
  split at e
  · obtain ⟨v, rfl, r1⟩ := repxs1 rx
    split at e
    · rename_i ps hd
      cases e
      obtain ⟨p, rfl, ⟨_, kvs, h1, h2⟩ | ⟨h1, _⟩⟩ := dct_rep rh r1 hd
      · exact ⟨p, kvs, rfl, h1, newCell (c := .dct 0 ps) rh (fun p hp => .inl ⟨rfl, kvs, upd_same, h2⟩) q⟩
      · cases h1
    · cases e
  · cases e
theorem kDictC (hg : Gl X "dict") (hm : X.mg "dict" = none) (ha : PA X (e :: es) (rdA g E mas)) (he : starEach (e :: es) X.env = (false, eval e X.env) :: starEach es X.env := by rfl) (hpl : (backTo pos (starEach es X.env)).any (·.1) = false := by rfl) :
    PE X (.Call (.Name "dict" p2) (e :: es) [] pos) (rdN g E (nOpN nDictC mas)) := yCB sDictC (pe_callTy (p := p2) call_dictD hg hm (by decide +kernel) ha (by decide +kernel) (by decide +kernel) he hpl)
theorem call_lenR : CallR X (.builtin "len") (fun xs H Q => ∃ a kvs, xs = [V.ref a] ∧ Rd H a (.dK kvs) ∧ Q (.int kvs.length) H) := by
  intro pins s σ H xs us Q I r h
  obtain ⟨a, kvs, rfl, ha, q⟩ := h
  obtain ⟨u, rfl, ru⟩ := vals1 r
  cases ru
  exact d_len I ha fun t s' I' => ⟨.int kvs.length, H, I', ⟨t, rfl⟩, q⟩
theorem sLenA : OpSN g (fun xs H Q => (∃ a kvs, xs = [V.ref a] ∧ Rd H a (.dK kvs) ∧ Q (.int kvs.length) H) ∨ (∃ x n, xs = [x] ∧ LenV g.K x H n ∧ Q (.int n) H)) oLenA := fun H F mu st xs vs d Q rh rx e q => by
  unfold oLenA at e
  split at e
  · rename_i x
    split at e
    · rename_i ps hd
      cases e
      obtain ⟨v, rfl, r1⟩ := repxs1 rx
      obtain ⟨p, rfl, ⟨_, kvs, h1, h2⟩ | ⟨h1, _⟩⟩ := dct_rep rh r1 hd
      · refine .inl ⟨p, kvs, rfl, h1, q _ H F rh (.refl _ _ _) ?_⟩
        rw [h2.len]
        simp only [RepV]
      · cases h1
    · cases e
    · exact .inr (sLen H F mu st _ vs d Q rh rx e q)
  · cases e
theorem kLenA (hg : Gl X "len") (hm : X.mg "len" = none) (hK : X.K = g.K) (ha : PA X (e :: es) (rdA g E mas)) (he : starEach (e :: es) X.env = (false, eval e X.env) :: starEach es X.env := by rfl) (hpl : (backTo pos (starEach es X.env)).any (·.1) = false := by rfl) :
    PE X (.Call (.Name "len" p2) (e :: es) [] pos) (rdE g E (eOpN oLenA mas)) := xCB sLenA (by have z := pe_callB (p := p2) (call_lenR.or call_len) hg hm (by decide +kernel) ha (by decide +kernel) (by decide +kernel) he hpl; rw [hK] at z; exact z)

/-! ### str(n) -/
theorem decT_str (i : Int) (h : 0 ≤ i) : ((toString i : String) : Str) = toS (decT i.toNat) := by
  obtain ⟨n, rfl⟩ : ∃ n : Nat, i = n := ⟨i.toNat, by omega⟩
  show Str.ofString (toString (n : Int)) = _
  rw [Str.ofString_eq_toList]
  unfold toS decT
  have : (toString (n : Int)).toList = Nat.toDigits 10 n := by
    show (Nat.repr n).toList = _
    simp [Nat.repr]
  rw [this]
  rfl
theorem lg64 (n : Nat) (h : n < 2 ^ 64) : n.log2 < 1920 := by
  by_cases e : n = 0
  · subst e; decide
  · have := (Nat.log2_lt e).mpr h
    omega
theorem sStr : OpSN g (fun xs H Q => (∃ i : Int, xs = [.int i] ∧ i.natAbs.log2 < 1920 ∧ Q (.str (toString i)) H) ∨ (∃ a, xs = [.str a] ∧ Q (.str a) H)) oStr := .flat fun H F mu st xs vs d Q rh rx e q => by
  unfold oStr at e
  split at e
  · rename_i i
    split at e
    · rename_i hi
      cases e
      obtain ⟨v, rfl, r1⟩ := repxs1 rx
      simp only [RepX, RepV] at r1
      subst r1
      refine .inl ⟨i, rfl, ?_, q _ ?_⟩
      · exact lg64 _ (by omega)
      · simp only [RepV]
        rw [decT_str i hi.1]
    · cases e
  · rename_i z
    cases e
    obtain ⟨v, rfl, r1⟩ := repxs1 rx
    simp only [RepX, RepV] at r1
    subst r1
    exact .inr ⟨toS z, rfl, q _ (by simp only [RepV])⟩
  · cases e
theorem kStr (hg : Gl X "str") (hm : X.mg "str" = none) (ha : PA X (e :: es) (rdA g E mas)) (he : starEach (e :: es) X.env = (false, eval e X.env) :: starEach es X.env := by rfl) (hpl : (backTo pos (starEach es X.env)).any (·.1) = false := by rfl) :
    PE X (.Call (.Name "str" p2) (e :: es) [] pos) (rdE g E (eOpN oStr mas)) := xCB sStr (pe_callTy (p := p2) (call_str_int.or SkE.call_str_str) hg hm (by decide +kernel) ha (by decide +kernel) (by decide +kernel) he hpl)

/-! ### pop -/
theorem last_rep {F : Hp} {mu : List Addr} {xs : List D} {vs : List V} {d : D} (h : RepL g F mu xs vs) (hd : xs[xs.length - 1]? = some d) : ∃ v, vs[vs.length - 1]? = some v ∧ RepV g F mu d v ∧ RepL g F mu xs.dropLast vs.dropLast := by
  obtain ⟨v, h1, h2⟩ := h.get hd
  refine ⟨v, by rw [← h.length]; exact h1, h2, ?_⟩
  rw [List.dropLast_eq_take, List.dropLast_eq_take, ← h.length]
  exact RepL.take _ h
theorem xPopC (h : PE X e (tBM0 X.K "list" rPop (rdE g E ma))) : PE X e (rdE g E (ePopC ma)) := PE.imp h fun s H Q k => by
  obtain ⟨r, st, F, mu, re, k⟩ := k
  refine ⟨r, st, F, mu, re, OutQ.bind k fun x st1 v H1 F1 mu1 _ e1 re1 rx k1 => ?_⟩
  cases x with
  | bor c => exact k1.elim
  | val d0 =>
    cases d0 with
    | ref n =>
      dsimp only at k1
      simp only [RepX, RepV] at rx
      obtain ⟨p, hp, rfl⟩ := rx
      cases hn : st1[n]? with
      | none => rw [hn] at k1; exact k1.elim
      | some c0 =>
        rw [hn] at k1
        cases c0 with
        | lst xs =>
          dsimp only at k1
          obtain ⟨p', q1, _, vs, q3, q4⟩ := re1.h.cel n _ hn
          rw [hp] at q1
          cases q1
          cases hl : xs[xs.length - 1]? with
          | none => rw [hl] at k1; exact k1.elim
          | some d =>
            rw [hl] at k1
            obtain ⟨w, w1, w2, w3⟩ := last_rep q4 hl
            have rh := re1.h.put (o := .lst vs.dropLast) hn hp (c' := .lst xs.dropLast) ⟨_, upd_same, w3⟩
            exact ⟨.inl ⟨rfl, _, SqL.of q3⟩, p, vs, w, rfl, rfl, q3, w1, k1 w _ F1 mu1 (e1.trans (Ext.put hp)) (re1.step (Ext.put hp) rh) w2⟩
        | _ => exact k1.elim
    | _ => exact k1.elim
theorem gPopC (ho : PE X o (rdE g E ma)) (hbase : attributeBase o "pop" X.env (eval o X.env) = eval o X.env := by rfl) (hline : (apos.endLine == pos.line) = true := by rfl) : PE X (.Call (.Attribute o "pop" apos) [] [] pos) (rdE g E (ePopC ma)) :=
  xPopC (pe_bm0 PySem.F.plainAttrs_list PySem.F.slot_list_pop PySem.F.type_list_pop mt_pop ho hbase hline)
theorem gPopV {i j : Nat} {x : Str} (hN : X.N.Nodup) (hi : X.N[i]? = some x) (hx : Loc X.env.scope x) (hv : PE X o (tVar j)) (hbase : attributeBase o "pop" X.env (eval o X.env) = eval o X.env := by rfl) (hline : (apos.endLine == p3.line) = true := by rfl)
    (hs : swapsWith (.Call (.Attribute o "pop" apos) [] [] p3) (some (.Name x p2)) pos.line X.env = pure false := by rfl) (hf : X.fn x = true ∨ X.env.scope.names.lookup x = some .local := by first | exact .inl rfl | exact .inr rfl | assumption) :
    PS X (.Assign [.Name x p2] (.Call (.Attribute o "pop" apos) [] [] p3) pos) (rdS g E B (sPopV i j)) := PS.imp (ps_set hN hi hx (pe_bm0 PySem.F.plainAttrs_list PySem.F.slot_list_pop PySem.F.type_list_pop mt_pop hv hbase hline) hs hf) fun D s H h => by
  obtain ⟨r, st, F, mu, rb, h⟩ := h
  unfold sPopV at h
  split at h
  · rename_i xs hr
    obtain ⟨p, h1, h2, h3, vs, h4, h5⟩ := rb.re.ownGet hr
    split at h
    · rename_i d hd
      split at h
      · rename_i hc
        obtain ⟨w, w1, w2, w3⟩ := last_rep h5 hd
        have rb1 := rb.putOwn hr h1 (c' := .lst xs.dropLast) (u := .lst vs.dropLast) ⟨_, upd_same, w3⟩ fun _ _ z => by cases z
        exact ⟨.ref p, h1, .inl ⟨rfl, _, SqL.of h4⟩, p, vs, w, rfl, rfl, h4, w1, h _ _ F mu (rb1.setV w2 (by rw [List.length_set]; exact hc.2)) (.refl _ _)⟩
      · exact h.elim
    · exact h.elim
  · exact h.elim

/-! ### xs += ys -/
def rExtT : R2 := fun x y H Q => ∃ l b xs zs, x = .ref l ∧ y = .ref b ∧ H l = some (.lst xs) ∧ H b = some (.tup zs) ∧ xs.length + zs.length ≤ sizeLine ∧ Q (.ref l) (upd H l (.lst (xs ++ zs)))
theorem extOf_rep {H F : Hp} {mu : List Addr} {st : Mir.St} {x : Opd} {v : V} {ys : List D} (rh : RH g H F mu st) (r : RepX g H F mu x v) (h : extOf st x = some ys) : ∃ b zs, v = .ref b ∧ RepL g F mu ys zs ∧ (H b = some (.lst zs) ∨ H b = some (.tup zs)) := by
  unfold extOf at h
  split at h
  · cases h
    simp only [RepX, RepV] at r
    obtain ⟨p, vs, rfl, h1, h2⟩ := r
    exact ⟨p, vs, rfl, h2, .inr (rh.tup h1)⟩
  · obtain ⟨p, vs, rfl, h1, h2⟩ := listOf_rep rh r h
    exact ⟨p, vs, rfl, h2, .inl h1⟩
  · cases h
end
end Mir
/-! E27: list += tuple. -/
namespace PySem.AutoSeq1
open PySem PySem.Spec
theorem list_iadd_tuple (l : Addr) (items : Array Value) (n : Nat) (b : Addr) (items2 : Array Value) (n2 : Nat) (dd : Option Addr) (sl : Array (Option Value)) (hs0 : ¬(!items.isEmpty && Builtin.List.listTooLong (items.size + items2.size)) = true) (hs1 : items.size ≤ sizeLine) (hs2 : items.size + items2.size ≤ sizeLine + 1) :
    Meets (Builtin.«list.__iadd__» ⟨[.ref l, .ref b], []⟩) (fun _ R s => s.heap.get? l = some { cls := .type "list", dict := none, data := .seq items n, slots := #[] } ∧ s.heap.get? b = some { cls := .type "tuple", dict := dd, data := .seq items2 n2, slots := sl } ∧ R (.ok (.ret (Value.ref l))) { s with heap := s.heap.update l (Obj.mapSeq fun x => x ++ items2), toks := s.toks }) :=
  .of_wp fun prog w A R s h => by
    obtain ⟨hp, g, d, tk, os⟩ := s; obtain ⟨hl, hb, h⟩ := h; have f1 := idx_int; have f2 := sub_tuple_tuple; have f3 := sub_list_list; have f4 := sub_tuple_list; have f5 := sub_list_tuple;
    have hz' : (items ++ items2).size ≤ sizeLine + 1 := by rw [Array.size_append]; exact hs2
    wp_walk using (wpAny_updateSeq hl rfl (hz := hs1) (_hz' := hz')), wpAny_loadPart' hl, wpAny_loadPart' hb; exact ⟨_, rfl, h⟩
end PySem.AutoSeq1
namespace Mir
open PySem PySem.Spec PyProof.Rows L2
theorem binop_lt {M : Model} {A : Around} {E : Value → Shared → Prop} {s : Shared} {a b : Value} {Q : Option Value → Shared → Prop} (ha : s.TypeIs a "list") (hb : s.TypeIs b "tuple") (h : Q none s) : wpAny M A (binaryOp1 "add" a b) Q E s := by
  simp only [binaryOp1]
  refine wpAny_bind (wpAny_typeOf ha (wpAny_bind (wpAny_typeOf hb (wpAny_bind (wpAny_of_eq noFill_list_add ?_)))))
  have hne : (Value.type "list" == Value.type "tuple") = false := by decide
  rw [hne]
  simp only [Bool.false_eq_true, if_false]
  refine wpAny_bind (wpAny_of_eq noFill_tuple_add ?_)
  simp only [Bool.false_and, Bool.false_eq_true, if_false, pure_bind]
  exact wpAny_pure h
theorem iadd_lt {M : Model} {A : Around} {E : Value → Shared → Prop} {s : Shared} {a b : Value} {Q : Value → Shared → Prop} (ha : s.TypeIs a "list") (hb : s.TypeIs b "tuple") (hc : wpAny M A (call (.builtin "list.__iadd__") [a, b]) Q E s) : wpAny M A (inplaceOp .Add a b) Q E s := by
  have hsl : typeLookup (.type "list") (dunderI "add") = pure (some (.builtin "list.__iadd__")) := PySem.F.slot_list_iadd.lookup
  have hsq : isSeqSlot (some (.builtin "list.__iadd__")) = true := by decide +kernel
  have hfi : fillsInplaceSlot (.type "list") "add" (Operator.Add == .Add) = pure false := by
    unfold fillsInplaceSlot
    show (typeLookup (.type "list") (dunderI "add") >>= fun fi => pure (fi.isSome && !isSeqSlot fi)) = pure false
    rw [hsl]
    show (pure (true && !isSeqSlot (some (.builtin "list.__iadd__"))) : Sem Bool) = pure false
    rw [hsq] <;> rfl
  have hsi : seqSlot? (.type "list") (dunderI "add") = pure (some (.builtin "list.__iadd__")) := PySem.seqSlot_of hsl hsq
  unfold inplaceOp
  refine wpAny_holding ?_
  refine wpAny_bind (wpAny_typeOf ha (wpAny_bind (wpAny_of_eq hfi ?_)))
  show wpAny M A (if false = true then _ else _) Q E s
  rw [if_neg Bool.false_ne_true]
  refine wpAny_bind (binop_lt ha hb ?_)
  refine wpAny_bind (wpAny_of_eq hsi ?_)
  exact wpAny_bind (wpAny_rule hc)
section
variable {X : Cx} {g : G} {E : XK} {B : Bs} {pos p2 p3 apos : Pos} {a b c e f o : Expr} {ma mb mc : EM} {es : List Expr} {mas : AM} {sa : Stmt} {k : Nat}
theorem iop_extT : OpR X (inplaceOp .Add) rExtT := by
  intro pins s σ H x y v u Q I rx ry h
  obtain ⟨l, b, xs, zs, rfl, rfl, hH, hB, hz, q⟩ := h
  cases rx
  cases ry
  obtain ⟨z, its, n, r, hl, e⟩ := I.lstM hH
  obtain ⟨z2, its2, r2, ⟨oc, od, odt, osl⟩, e2, ho2, n2, hd2⟩ := (show ObjOk X.prog X.w H s.heap b (.tup zs) from I.hok b _ hB)
  have ho2 : oc = .type "tuple" := ho2
  have hd2 : odt = .seq its2.toArray n2 := hd2
  subst ho2 hd2
  have hl2 := r2.length
  have hsz : its.toArray.size + its2.toArray.size ≤ sizeLine := by rw [List.size_toArray, List.size_toArray]; omega
  have hlong : ¬ (!its.toArray.isEmpty && Builtin.List.listTooLong (its.toArray.size + its2.toArray.size)) = true := by
    rw [notLongL hsz, Bool.and_false]
    exact Bool.false_ne_true
  refine iadd_lt ⟨_, e, rfl⟩ ⟨_, e2, rfl⟩ (call_meets PySem.F.slot_list_iadd ⟨_, e, rfl⟩ PySem.F.entry_list_iadd (PySem.F.args_list_iadd_2 _ _)
    (AutoSeq1.list_iadd_tuple l its.toArray n b its2.toArray n2 od osl hlong (by rw [List.size_toArray]; omega) (by omega)) ⟨e, e2, ?_⟩)
  refine ⟨.ref l, _, I.lset (its' := its ++ its2) (t' := s.toks) hH e (by simp) (r.append r2) ?_, rfl, q⟩
  rw [List.length_append]
  omega
theorem gExtV {i : Nat} {x : Str} (hN : X.N.Nodup) (hi : X.N[i]? = some x) (hx : Loc X.env.scope x) (he : PE X e (rdE g E ma)) (hf : X.fn x = true ∨ X.env.scope.names.lookup x = some .local := by first | exact .inl rfl | exact .inr rfl | assumption) :
    PS X (.AugAssign (.Name x p2) .Add e pos) (rdS g E B (sExtV i ma)) := PS.imp (ps_aug hN hi hx he (OpR.or iop_ext iop_extT) hf) fun D s H h => by
  obtain ⟨r, st, F, mu, rb, h⟩ := h
  unfold sExtV at h
  split at h
  · rename_i xs hr
    obtain ⟨p, h1, h2, h3, vs0, h4, h5⟩ := rb.re.ownGet hr
    refine ⟨.ref p, h1, r, st, F, mu, rb.re, sbind rb h fun y st1 v H1 F1 mu1 _ e1 rb1 rx k => ?_⟩
    split at k
    · rename_i ys hy
      split at k
      · rename_i hc
        obtain ⟨q, zs, rfl, q1, q2⟩ := extOf_rep rb1.re.h rx hy
        obtain ⟨p1, p2, vs, p3, p4⟩ := rb1.re.ownAt hr h1
        have hil : i < s.length := (List.getElem?_eq_some_iff.mp h1).1
        have hz : vs.length + zs.length ≤ sizeLine := by
          rw [← p4.length, ← q1.length]
          exact Nat.le_trans hc lim_line
        have es : s.set i (some (V.ref p)) = s := by
          apply List.ext_getElem?
          intro j
          rw [List.getElem?_set]
          split
          · rename_i hj
            subst hj
            first | exact h1.symm | (rw [if_pos hil, h1])
          · rfl
        have fin : D.nx (s.set i (some (V.ref p))) (upd H1 p (.lst (vs ++ zs))) := by
          rw [es]
          exact k _ _ F1 mu1 (rb1.putOwn hr h1 ⟨_, upd_same, p4.append q1⟩ fun _ _ z => by cases z) (.refl _ _)
        rcases q2 with q2 | q2
        · exact .inl ⟨p, q, vs, zs, rfl, rfl, p3, q2, hz, fin⟩
        · exact .inr ⟨p, q, vs, zs, rfl, rfl, p3, q2, hz, fin⟩
      · exact k.elim
    · exact k.elim
  · exact h.elim
end
end Mir
/-! E28: remove, index, setdefault with a value, dicts compared, constants. -/
namespace Mir
open PySem PySem.Spec PyProof.Rows L2
section
variable {X : Cx} {g : G} {E : XK} {B : Bs} {pos p2 p3 apos : Pos} {a b c e f o : Expr} {ma mb mc : EM} {es : List Expr} {mas : AM} {sa : Stmt} {k : Nat}
/-! ### remove -/
/-- l.remove(x): the first that is == x -/
def rRemD (K : PySem.W.Frag) : V → List V → Hp → VK → Prop := fun x vs H Q => ∃ (l : Addr) (xs : List V) (y : V) (d : PyData) (ds : List PyData) (j : Nat), x = .ref l ∧ vs = [y] ∧ H l = some (.lst xs) ∧ DpAll K H xs ds ∧ Dp K H y d ∧
  SeqAt.shaped (.list ds) = true ∧ SeqAt.shaped d = true ∧ (ds.findIdx? fun z => PyData.eqv z d) = some j ∧ Q .non (upd H l (.lst (xs.eraseIdx j)))
theorem mt_removeD (hu : X.A.units + 65 < cLine) : MtR X "list.remove" (rRemD X.K) := by
  intro pins s σ H x vs v us Q I rx rxs h
  obtain ⟨l, xs, y, d, ds, j, rfl, rfl, hH, hl, hy, sl, sd, hj, q⟩ := h
  cases rx
  cases rxs with
  | cons ry rt =>
    rename_i uy ut
    cases rt
    obtain ⟨bs, r1⟩ := Dp.reads I d y uy hy ry
    have hxs : PyData.canLayAll0 ds = true := SeqAt.canLay_of_shaped sl
    have hroom : X.A.units + 1 + min (PyData.depthAll ds) d.depth < cLine := room_in_shaped sd hu
    obtain ⟨z, its, n, r, hlen, e0⟩ := I.lstM hH
    obtain ⟨as, h4⟩ := Dp.readsAll I ds _ its hl r
    have hn : its.length = ds.length := SeqAt.ReadsAll.length ds its as h4
    have hmap : its.map (SeqAt.readOf s.heap) = ds := SeqAt.readsAll_map ds its as hxs h4
    have at_ : ∀ (m : Nat) (hm : m < its.toArray.size) (z' : PyData), ds[m]? = some z' → SeqAt.readOf s.heap its.toArray[m] = z' := by
      intro m hm z' hz'
      have hml : m < its.length := by simpa using hm
      rw [← hmap, List.getElem?_map, List.getElem?_eq_getElem hml] at hz'
      have e1 : SeqAt.readOf s.heap its[m] = z' := Option.some.inj (show some (SeqAt.readOf s.heap its[m]) = some z' from hz')
      simpa using e1
    obtain ⟨hjd, hjt, hjf⟩ := List.findIdx?_eq_some_iff_getElem.mp hj
    have hjl : j < its.toArray.size := by simp; omega
    refine call_meets PySem.F.slot_list_remove ⟨_, e0, rfl⟩ PySem.F.entry_list_remove (PySem.F.args_list_remove_2 _ _)
      (SeqAt.list_removeAt l its.toArray n none #[] uy (fun u => PyData.eqv (SeqAt.readOf s.heap u) d) j hjl ?_ ?_ (by rw [List.size_toArray]; omega)) ⟨e0, SeqAt.items_eqAt (vs := its.toArray) (show ReadsAll s.heap its.toArray.toList ds as from h4) r1 hxs (SeqAt.canLay_of_shaped sd) hroom, ?_⟩
    · show PyData.eqv (SeqAt.readOf s.heap its.toArray[j]) d = true
      rw [at_ j hjl _ (List.getElem?_eq_getElem hjd)]
      exact hjt
    · intro m hm hmj
      have hmd : m < ds.length := by omega
      show PyData.eqv (SeqAt.readOf s.heap its.toArray[m]) d = false
      rw [at_ m hm _ (List.getElem?_eq_getElem hmd)]
      have := hjf m hmj
      simpa using this
    · refine ⟨.non, _, I.lset (its' := its.eraseIdx j) (t' := s.toks) hH e0 ?_ (r.eraseIdx j) ?_, rfl, q⟩
      · show its.toArray.eraseIdxIfInBounds j = (its.eraseIdx j).toArray
        rw [List.eraseIdxIfInBounds_toArray]
      · have := len_erase xs j
        omega
theorem toPs_get (k : Nat) : ∀ (xs : List D) (i : Nat), (toPs xs)[i]? = (xs[i]?).map toP
  | [], i => by simp [toPs]
  | x :: xs, 0 => by simp [toPs]
  | x :: xs, i + 1 => by simp only [toPs, List.getElem?_cons_succ]; exact toPs_get k xs i
theorem toPs_find (k : Nat) (d : D) (hd : shap 20 d = true) : ∀ xs : List D, shapL k xs = true → ((toPs xs).findIdx? fun z => PyData.eqv z (toP d)) = xs.findIdx? fun z => eqv z d
  | [], _ => rfl
  | x :: xs, h => by
    simp only [shapL, Bool.and_eq_true] at h
    simp only [toPs, List.findIdx?_cons]
    rw [toPs_find k d hd xs h.2, eqv_toP k 20 x d h.1 hd]
theorem RepL.eraseIdx {F : Hp} {mu : List Addr} : ∀ {xs : List D} {vs : List V} (j : Nat), RepL g F mu xs vs → RepL g F mu (xs.eraseIdx j) (vs.eraseIdx j)
  | [], _, _, h => by simp only [RepL] at h; subst h; simp [RepL]
  | x :: xs, _, 0, h => by
    simp only [RepL] at h
    obtain ⟨v, r, rfl, h1, h2⟩ := h
    exact h2
  | x :: xs, _, j + 1, h => by
    simp only [RepL] at h
    obtain ⟨v, r, rfl, h1, h2⟩ := h
    exact .cons h1 (RepL.eraseIdx j h2)
theorem xRemC (h : PE X e (tBM X.K "list" (rRemD X.K) (rdE g E ma) (tCons (rdE g E mb) tNil))) (hK : X.K = g.K) : PE X e (rdE g E (eRemC ma mb)) := PE.imp h fun s H Q k => by
  obtain ⟨r, st, F, mu, re, k⟩ := k
  refine ⟨r, st, F, mu, re, OutQ.bind k fun x st1 v H1 F1 mu1 _ e1 re1 rx k1 => ?_⟩
  cases x with
  | bor c => exact k1.elim
  | val d0 =>
    cases d0 with
    | ref n =>
      dsimp only at k1
      simp only [RepX, RepV] at rx
      obtain ⟨p, hp, rfl⟩ := rx
      cases hn : st1[n]? with
      | none => rw [hn] at k1; exact k1.elim
      | some c0 =>
        rw [hn] at k1
        cases c0 with
        | lst xs0 =>
          dsimp only at k1
          obtain ⟨p', q1, _, vs0, q3, q4⟩ := re1.h.cel n _ hn
          rw [hp] at q1
          cases q1
          refine ⟨.inl ⟨rfl, _, SqL.of q3⟩, r, st1, F1, mu1, re1, OutQ.bind (k1.ext e1) fun y st2 w H2 F2 mu2 _ e2 re2 ry k2 => ?_⟩
          cases y with
          | bor c => exact k2.elim
          | val d =>
            cases hn2 : st2[n]? with
            | none => rw [hn2] at k2; exact k2.elim
            | some c2 =>
              rw [hn2] at k2
              cases c2 with
              | lst xs =>
                dsimp only at k2
                have hp2 := e2.mo.mu _ _ hp
                obtain ⟨p', q1, _, vs, q5, q6⟩ := re2.h.cel n _ hn2
                rw [hp2] at q1
                cases q1
                split at k2
                · rename_i hs
                  have hs2 : shapL 19 xs = true := by
                    have := hs.2
                    simp only [shap, Bool.and_eq_true] at this
                    exact this.2
                  cases hj : xs.findIdx? (fun z => eqv z d) with
                  | none => rw [hj] at k2; exact k2.elim
                  | some j =>
                    rw [hj] at k2
                    have rh := re2.h.put (o := .lst (vs.eraseIdx j)) hn2 hp2 (c' := .lst (xs.eraseIdx j)) ⟨_, upd_same, q6.eraseIdx j⟩
                    refine ⟨p, vs, w, toP d, toPs xs, j, rfl, rfl, q5, ?_, ?_, ?_, shap_shaped hs.1, ?_, ?_⟩
                    · rw [hK]; exact dps_of re2.h 19 xs vs hs2 q6
                    · rw [hK]; exact dp_of re2.h _ _ _ hs.1 ry
                    · exact shap_shaped (d := .lst xs) hs.2
                    · rw [toPs_find 19 d hs.1 xs hs2]; exact hj
                    · exact k2 _ _ F2 mu2 (e2.trans (Ext.put hp2)) (re2.step (Ext.put hp2) rh) (by simp only [RepX, RepV])
                · exact k2.elim
              | _ => exact k2.elim
        | _ => exact k1.elim
    | _ => exact k1.elim
theorem gRemC (hr : Room k X.A) (hK : X.K = g.K) (hv : PE X o (rdE g E ma)) (ha : PE X a (rdE g E mb)) (hbase : attributeBase o "remove" X.env (eval o X.env) = eval o X.env := by rfl)
    (hfew : ((backTo pos (starEach [a] X.env)).all (fun x => !x.1) && (backToKw pos (keywordEach [] X.env)).all (fun x => x.1.isSome) && decide (([a] : List Expr).length + ([] : List Keyword).length + (if ([] : List Keyword).isEmpty then 0 else 1) < 30)) = true := by rfl)
    (hline : (apos.endLine == pos.line) = true := by rfl) (hs : starEach [a] X.env = (false, eval a X.env) :: starEach [] X.env := by rfl) (hplain : (backTo pos (starEach [] X.env)).any (·.1) = false := by rfl) :
    PE X (.Call (.Attribute o "remove" apos) [a] [] pos) (rdE g E (eRemC ma mb)) :=
  xRemC (pe_bm PySem.F.plainAttrs_list PySem.F.slot_list_remove PySem.F.type_list_remove (mt_removeD (ru hr)) hv (pa_cons ha pa_nil hs) hbase hfew hline hs hplain) hK
end
end Mir
/-! E29: index, setdefault with a value, dicts compared, constants, kinds of errors. -/
namespace Mir
open PySem PySem.Spec PyProof.Rows L2
section
variable {X : Cx} {g : G} {E : XK} {B : Bs} {pos p2 p3 apos : Pos} {a b c e f o : Expr} {ma mb mc : EM} {es : List Expr} {mas : AM} {sa : Stmt} {k : Nat}
/-! ### t.index(x) -/
def rIndexT (K : PySem.W.Frag) : V → List V → Hp → VK → Prop := fun x vs H Q => ∃ (a : Addr) (ys : List Str) (z : Str), x = .ref a ∧ vs = [.str z] ∧ SqT K H a (ys.map V.str) ∧ z ∈ ys ∧ Q (.int (ys.idxOf z : Nat)) H
theorem mt_indexT : MtR X "tuple.index" (rIndexT X.K) := by
  intro pins s σ H x vs v us Q I rx rxs h
  obtain ⟨a, ys, z, rfl, rfl, hq, hz, q⟩ := h
  cases rx
  obtain ⟨u, rfl, ru⟩ := rxs.one
  obtain ⟨t, rfl⟩ := ru
  obtain ⟨its, rv, p, _⟩ := I.tuple hq
  exact SeqAt.tuple_index_strs p (Vals.strs rv) hz ⟨.int _, H, I.tok _, ⟨_, rfl⟩, q⟩
theorem idxOf_toS (z : Tx) : ∀ ts : List Tx, (ts.map toS).idxOf (toS z) = ts.idxOf z
  | [] => rfl
  | t :: ts => by
    simp only [List.map_cons, List.idxOf_cons]
    rw [idxOf_toS z ts]
    have : (toS t == toS z) = (t == z) := by
      by_cases h : t = z
      · subst h
        rw [beq_self_eq_true, beq_self_eq_true]
      · have h2 : ¬ toS t = toS z := fun q => h (toS_inj q)
        rw [beq_eq_false_iff_ne.mpr h, beq_eq_false_iff_ne.mpr h2]
    rw [this]
theorem ixTxs_rep {F : Hp} {mu : List Addr} {z : Tx} {ds : List D} {vs : List V} {d : D} (rl : RepL g F mu ds vs) (h : ixTxs z ds = some d) : ∃ ys : List Str, vs = ys.map V.str ∧ toS z ∈ ys ∧ d = .int (ys.idxOf (toS z) : Nat) := by
  unfold ixTxs at h
  simp only [Option.bind_eq_some_iff] at h
  obtain ⟨ts, h1, h2⟩ := h
  split at h2
  · rename_i hz
    cases h2
    exact ⟨ts.map toS, txsOf_rep rl h1, List.mem_map_of_mem hz, by rw [idxOf_toS]⟩
  · cases h2
theorem xIndexK (h : PE X e (tBM X.K "tuple" (rIndexT X.K) (rdE g E ma) (tCons (rdE g E mb) tNil))) (hK : X.K = g.K)
    (hk : ∀ r st x st1, ma r st = .ok x st1 → ∃ ds, x = .val (.ktp ds)) : PE X e (rdE g E (eOp2 oIndexK ma mb)) := PE.imp h fun s H Q k => by
  obtain ⟨r, st, F, mu, re, k⟩ := k
  refine ⟨r, st, F, mu, re, OutQ.bind k fun x st1 v H1 F1 mu1 hx e1 re1 rx k1 => ?_⟩
  obtain ⟨ds, rfl⟩ := hk _ _ _ _ hx
  have rx0 := rx
  simp only [RepX, RepV] at rx
  obtain ⟨p, vs, rfl, ⟨o, its, n, w1, w2, w3, w4⟩, h2⟩ := rx
  refine ⟨.inr (.inl ⟨rfl, o, by rw [hK]; exact w1, w2, w3⟩), r, st1, F1, mu1, re1, OutQ.bind (k1.ext e1) fun y st2 w H2 F2 mu2 _ e2 re2 ry k2 => ?_⟩
  cases hf : oIndexK st2 (.val (.ktp ds)) y with
  | none => rw [hf] at k2; exact k2.elim
  | some d =>
    rw [hf] at k2
    cases y with
    | bor c => cases hf
    | val dy =>
      cases dy with
      | str z =>
        have hf : ixTxs z ds = some d := hf
        obtain ⟨ys, rfl, hz, rfl⟩ := ixTxs_rep h2 hf
        simp only [RepX, RepV] at ry
        subst ry
        exact ⟨p, ys, toS z, rfl, rfl, by rw [hK]; exact KT.seq ⟨o, its, n, w1, w2, w3, w4⟩, hz, k2 _ H2 F2 mu2 e2 re2 (by simp only [RepX, RepV])⟩
      | _ => cases hf
theorem ktpC (ds : List D) : ∀ (r : Env) (st : Mir.St) (x : Opd) (st1 : Mir.St), eC (.ktp ds) r st = .ok x st1 → ∃ ds, x = .val (.ktp ds) := fun r st x st1 h => by
  cases h
  exact ⟨ds, rfl⟩
theorem gIndexK {ds : List D} (hK : X.K = g.K) (hv : PE X o (rdE g E (eC (.ktp ds)))) (ha : PE X a (rdE g E mb)) (hbase : attributeBase o "index" X.env (eval o X.env) = eval o X.env := by rfl)
    (hfew : ((backTo pos (starEach [a] X.env)).all (fun x => !x.1) && (backToKw pos (keywordEach [] X.env)).all (fun x => x.1.isSome) && decide (([a] : List Expr).length + ([] : List Keyword).length + (if ([] : List Keyword).isEmpty then 0 else 1) < 30)) = true := by rfl)
    (hline : (apos.endLine == pos.line) = true := by rfl) (hs : starEach [a] X.env = (false, eval a X.env) :: starEach [] X.env := by rfl) (hplain : (backTo pos (starEach [] X.env)).any (·.1) = false := by rfl) :
    PE X (.Call (.Attribute o "index" apos) [a] [] pos) (rdE g E (eOp2 oIndexK (eC (.ktp ds)) mb)) :=
  xIndexK (pe_bm PySem.F.plainAttrs_tuple PySem.F.slot_tuple_index PySem.F.type_tuple_index mt_indexT hv (pa_cons ha pa_nil hs) hbase hfew hline hs hplain) hK (ktpC ds)

/-! ### d.setdefault(k, v) -/
theorem xSetDV (h : PE X e (tDSetd (rdE g E ma) (rdE g E mb) (rdE g E mc))) : PE X e (rdE g E (eSetDV ma mb mc)) := PE.imp h fun s H Q k => by
  obtain ⟨r, st, F, mu, re, k⟩ := k
  refine ⟨r, st, F, mu, re, OutQ.bind k fun x st1 vx H1 F1 mu1 _ e1 re1 rx k1 => ?_⟩
  by_cases hd : (dctOf st1 x).isSome = true
  · rw [if_pos hd] at k1
    obtain ⟨q1, hd1⟩ := isSome_ex hd
    obtain ⟨p, rfl, hD⟩ := isD_rep re1.h rx hd1
    refine ⟨p, rfl, hD, r, st1, F1, mu1, re1, OutQ.bind (k1.ext e1) fun y st2 vy H2 F2 mu2 _ e2 re2 ry k2 => ?_⟩
    refine ⟨r, st2, F2, mu2, re2, OutQ.bind (k2.ext e2) fun z st3 vz H3 F3 mu3 _ e3 re3 rz k3 => ?_⟩
    cases x with
    | bor c => cases y <;> cases z <;> exact k3.elim
    | val dx =>
      cases y with
      | bor c => cases dx <;> cases z <;> exact k3.elim
      | val kk =>
        cases z with
        | bor c => cases dx <;> exact k3.elim
        | val w =>
          cases dx with
          | ref m =>
            dsimp only at k3
            have rx3 := (rx.ext e2).ext e3
            simp only [RepX, RepV] at rx3
            obtain ⟨p', hp3, hp'⟩ := rx3
            cases hp'
            unfold setDV at k3
            split at k3
            · rename_i ps hn
              by_cases hc : flatK kk = true ∧ ps.length < lim
              · rw [if_pos hc] at k3
                obtain ⟨d, kvs, q1, q2, q3, q4⟩ := dct0_at re3.h hn
                rw [hp3] at q1
                cases q1
                have ry3 : RepV g F3 mu3 kk vy := RepV.mono e3.mo _ _ ry
                obtain ⟨k', rfl, hk'⟩ := flat_key hc.1 ry3
                have hl : kvs.length < sizeLine := by
                  rw [← q4.len]
                  exact Nat.lt_of_lt_of_le hc.2 lim_line
                have hlk := lookP q4 hk'
                refine ⟨kvs, k', q3, rfl, hl, fun v hv => ?_, fun hv => ?_⟩
                · cases hq : lookD ps kk with
                  | none =>
                    rw [hq] at hlk
                    rw [show valV kvs k' = none from hlk] at hv
                    cases hv
                  | some d =>
                    rw [hq] at hlk k3
                    obtain ⟨v', h1, h2⟩ := hlk
                    rw [hv] at h1
                    cases h1
                    exact k3 v H3 F3 mu3 e3 re3 h2
                · cases hq : lookD ps kk with
                  | some d =>
                    rw [hq] at hlk
                    obtain ⟨v', h1, h2⟩ := hlk
                    rw [hv] at h1
                    cases h1
                  | none =>
                    rw [hq] at k3
                    have rh2 : RH g (upd H3 p (.dK (putK kvs k' vz))) F3 mu3 (st3.set m (.dct 0 (putD ps kk w))) := re3.h.put hn hp3 (.inl ⟨rfl, _, upd_same, putP q4 hk' rz⟩)
                    exact k3 _ _ F3 mu3 (e3.trans (Ext.put hp3)) (re3.step (Ext.put hp3) rh2) rz
              · rw [if_neg hc] at k3
                exact k3.elim
            · exact k3.elim
          | _ => exact k3.elim
  · rw [if_neg hd] at k1
    exact k1.elim
theorem gSetdV (ho : PE X o (rdE g E ma)) (he : PE X e (rdE g E mb)) (hf : PE X f (rdE g E mc)) (m : M2 X o "setdefault" apos e f pos) : PE X (.Call (.Attribute o "setdefault" apos) [e, f] [] pos) (rdE g E (eSetDV ma mb mc)) := xSetDV (pe_dsetd ho he hf m)

/-! ### ==, != -/
theorem dctU_rep {H F : Hp} {mu : List Addr} {st : Mir.St} {x : Opd} {v : V} {ps : List (D × D)} (rh : RH g H F mu st) (r : RepX g H F mu x v) (h : dctU st x = some ps) : ∃ p kvs, v = .ref p ∧ H p = some (.dK kvs) ∧ RepP g F mu ps kvs := by
  unfold dctU at h
  split at h
  · cases h
    simp only [RepX, RepV] at r
    obtain ⟨p, rfl, ⟨_, kvs, h1, h2⟩ | ⟨h1, _⟩⟩ := r
    · exact ⟨p, kvs, rfl, (rh.fro _ _ h1).resolve_right (fun z => z.1), h2⟩
    · cases h1
  · simp only [RepX, RepV] at r
    obtain ⟨p, hp, rfl⟩ := r
    split at h
    · rename_i hn
      cases h
      obtain ⟨d, kvs, q1, q2, q3, q4⟩ := dct0_at rh hn
      rw [hp] at q1
      cases q1
      exact ⟨p, kvs, rfl, q3, q4⟩
    · cases h
  · cases h
    obtain ⟨p, rfl, _, _, ⟨_, kvs, h1, h2⟩ | ⟨h1, _⟩⟩ := r
    · exact ⟨p, kvs, rfl, h1, h2⟩
    · cases h1
  · cases h
theorem flatD_rep {F : Hp} {mu : List Addr} {d : D} {v w : V} (h : flatD d = true) (r : RepV g F mu d v) (r' : RepV g F mu d w) : v = w ∧ flatB v = true := by
  cases d <;> simp only [flatD] at h <;> (try cases h) <;> simp only [RepV] at r r' <;> subst r r' <;> exact ⟨rfl, rfl⟩
theorem eqDP_rep {F : Hp} {mu : List Addr} {qs : List (D × D)} {ls : List (Key × V)} (hq : RepP g F mu qs ls) : ∀ {ps : List (D × D)} {ks : List (Key × V)}, RepP g F mu ps ks → (ps.all fun p => decide (lookD qs p.1 = some p.2) && flatD p.2) = true → ∀ p ∈ ks, valV ls p.1 = some p.2 ∧ flatB p.2 = true
  | [], ks, h, _, p, hp => by
    simp only [RepP] at h
    subst h
    cases hp
  | (a, d) :: ps, ks, h, ha, p, hp => by
    simp only [RepP] at h
    obtain ⟨k', v, r, rfl, h1, h2, h3⟩ := h
    simp only [List.all_cons, Bool.and_eq_true, decide_eq_true_eq] at ha
    obtain ⟨⟨a1, a2⟩, a3⟩ := ha
    rcases List.mem_cons.mp hp with rfl | hp
    · have := lookP hq h1
      rw [a1] at this
      obtain ⟨w, w1, w2⟩ := this
      obtain ⟨e1, e2⟩ := flatD_rep a2 w2 h2
      subst e1
      exact ⟨w1, e2⟩
    · exact eqDP_rep hq h3 (by rw [a3]) p hp
theorem eqA_rep {H F : Hp} {mu : List Addr} {st : Mir.St} {x y : Opd} {vx vy : V} {ps qs : List (D × D)} (rh : RH g H F mu st) (rx : RepX g H F mu x vx) (ry : RepX g H F mu y vy) (hx : dctU st x = some ps) (hy : dctU st y = some qs) (h : eqDP ps qs = true) :
    ∃ a b ks ls, vx = .ref a ∧ vy = .ref b ∧ H a = some (.dK ks) ∧ H b = some (.dK ls) ∧ ks.length = ls.length ∧ ∀ p ∈ ks, valV ls p.1 = some p.2 ∧ flatB p.2 = true := by
  obtain ⟨p, ks, rfl, h1, h2⟩ := dctU_rep rh rx hx
  obtain ⟨q, ls, rfl, h3, h4⟩ := dctU_rep rh ry hy
  unfold eqDP at h
  simp only [Bool.and_eq_true, decide_eq_true_eq] at h
  exact ⟨p, q, ks, ls, rfl, rfl, h1, h3, by rw [← h2.len, ← h4.len]; exact h.1, eqDP_rep h4 h2 h.2⟩
theorem sEqA {rr : R2} (hs : OpS g rr oEq) : OpS g (fun x y H Q => rEqDA x y H Q ∨ rr x y H Q) oEqA := fun H F mu st x y vx vy d Q rh rx ry e q => by
  unfold oEqA eqA at e
  split at e
  · rename_i ps hx
    split at e
    · rename_i qs hy
      split at e
      · rename_i hc
        cases e
        obtain ⟨a, b, ks, ls, rfl, rfl, h1, h2, h3, h4⟩ := eqA_rep rh rx ry hx hy hc
        exact .inl ⟨a, b, ks, ls, rfl, rfl, h1, h2, h3, h4, q _ H F rh (.refl _ _ _) (by simp only [RepV])⟩
      · cases e
    · cases e
  · exact .inr (hs H F mu st x y vx vy d Q rh rx ry e q)
theorem sNeA {rr : R2} (hs : OpS g rr oNe) : OpS g (fun x y H Q => rNeDA x y H Q ∨ rr x y H Q) oNeA := fun H F mu st x y vx vy d Q rh rx ry e q => by
  unfold oNeA eqA at e
  split at e
  · rename_i ps hx
    split at e
    · rename_i qs hy
      split at e
      · rename_i hc
        cases e
        obtain ⟨a, b, ks, ls, rfl, rfl, h1, h2, h3, h4⟩ := eqA_rep rh rx ry hx hy hc
        exact .inl ⟨a, b, ks, ls, rfl, rfl, h1, h2, h3, h4, q _ H F rh (.refl _ _ _) (by simp only [RepV]; rfl)⟩
      · cases e
    · cases e
  · exact .inr (hs H F mu st x y vx vy d Q rh rx ry e q)
theorem ruA (hr : Room k X.A) : X.A.units < cLine := by have := hr.un; omega
theorem cEqA (hr : Room k X.A) (hK : X.K = g.K) (ha : PE X a (rdE g E ma)) (hb : PE X b (rdE g E mb)) (hm : behindInMarks .Eq b = false := by first | exact nomark _ | rfl) : PE X (.Compare a [.Eq] [b] pos) (rdE g E (eOp2 oEqA ma mb)) := dCmp (OpR.or (op_eq_dictA (ruA hr)) (hK ▸ (op_eq.or (op_eqD (ru4 hr))))) (sEqA sEq) ha hb hm
theorem tEqA (hr : Room k X.A) (hK : X.K = g.K) (ha : PE X a (rdE g E ma)) (hb : PE X b (rdE g E mb)) (hm : behindInMarks .Eq b = false := by first | exact nomark _ | rfl) : PT X (.Compare a [.Eq] [b] pos) (rdT g E (tE (eOp2 oEqA ma mb))) := dTc (OpR.or (op_eq_dictA (ruA hr)) (hK ▸ (op_eq.or (op_eqD (ru4 hr))))) (sEqA sEq) ha hb hm
theorem cNeA (hr : Room k X.A) (hK : X.K = g.K) (ha : PE X a (rdE g E ma)) (hb : PE X b (rdE g E mb)) (hm : behindInMarks .NotEq b = false := by first | exact nomark _ | rfl) : PE X (.Compare a [.NotEq] [b] pos) (rdE g E (eOp2 oNeA ma mb)) := dCmp (OpR.or (op_ne_dictA (ruA hr)) (hK ▸ (op_ne.or (op_neD (ru4 hr))))) (sNeA sNe) ha hb hm
theorem tNeA (hr : Room k X.A) (hK : X.K = g.K) (ha : PE X a (rdE g E ma)) (hb : PE X b (rdE g E mb)) (hm : behindInMarks .NotEq b = false := by first | exact nomark _ | rfl) : PT X (.Compare a [.NotEq] [b] pos) (rdT g E (tE (eOp2 oNeA ma mb))) := dTc (OpR.or (op_ne_dictA (ruA hr)) (hK ▸ (op_ne.or (op_neD (ru4 hr))))) (sNeA sNe) ha hb hm

/-! ### constants of the module -/
def Con (K : PySem.W.Frag) (mg : Str → Option Value) (x : Str) (d : D) : Prop := ∃ v u, mg x = some u ∧ RelV v u ∧ ∀ (g : G) (F : Hp) (mu : List Addr), g.K = K → RepV g F mu d v
theorem gCon {x : Str} {d : D} (hK : X.K = g.K) (h : Con X.K X.mg x d) (hg : Gl X x) (hdb : (x == ("__debug__" : Str)) = false := by decide +kernel) : PE X (.Name x pos) (rdE g E (eC d)) := by
  obtain ⟨v, u, h1, h2, h3⟩ := h
  exact dConst (pe_glob hg h1 h2 hdb) fun F mu => h3 g F mu hK.symm
mutual
def conB (K : PySem.W.Frag) : D → Value → Bool
  | .int i, .int j _ => decide (i = j)
  | .str x, .str y _ => decide (toS x = y)
  | .ktp ds, .ref a => match K.lookup a with
    | some ⟨.type c, none, .seq its _, _⟩ => decide (c = "tuple") && (decide (its.size ≤ sizeLine) && conL K ds its.toList)
    | _ => false
  | _, _ => false
def conL (K : PySem.W.Frag) : List D → List Value → Bool
  | [], [] => true
  | d :: ds, u :: us => conB K d u && conL K ds us
  | _, _ => false
end
mutual
theorem conB_ok (K : PySem.W.Frag) : ∀ (d : D) (u : Value), conB K d u = true → ∃ v, RelV v u ∧ ∀ (g : G) (F : Hp) (mu : List Addr), g.K = K → RepV g F mu d v
  | .int i, u, h => by
    cases u with
    | int j t =>
      simp only [conB, decide_eq_true_eq] at h
      subst h
      exact ⟨.int i, ⟨t, rfl⟩, fun _ _ _ _ => by simp only [RepV]⟩
    | _ => simp [conB] at h
  | .str x, u, h => by
    cases u with
    | str y t =>
      simp only [conB, decide_eq_true_eq] at h
      subst h
      exact ⟨.str (toS x), ⟨t, rfl⟩, fun _ _ _ _ => by simp only [RepV]⟩
    | _ => simp [conB] at h
  | .ktp ds, u, h => by
    cases u with
    | ref a =>
      simp only [conB] at h
      split at h
      · rename_i c its n sl hl
        simp only [Bool.and_eq_true, decide_eq_true_eq] at h
        obtain ⟨rfl, h2, h3⟩ := h
        obtain ⟨vs, v1, v2⟩ := conL_ok K ds its.toList h3
        refine ⟨.ref a, rfl, fun g F mu hg => ?_⟩
        simp only [RepV]
        exact ⟨a, vs, rfl, ⟨_, its, n, by rw [hg]; exact hl, rfl, rfl, rfl, h2, v1⟩, v2 g F mu hg⟩
      · cases h
    | _ => simp [conB] at h
  | .non, u, h => by simp [conB] at h
  | .bl _, u, h => by simp [conB] at h
  | .ref _, u, h => by simp [conB] at h
  | .tup _, u, h => by simp [conB] at h
  | .lst _, u, h => by simp [conB] at h
  | .dct _ _, u, h => by simp [conB] at h
  | .obj _ _, u, h => by simp [conB] at h
  | .lam _, u, h => by simp [conB] at h
  | .scr _, u, h => by simp [conB] at h
theorem conL_ok (K : PySem.W.Frag) : ∀ (ds : List D) (us : List Value), conL K ds us = true → ∃ vs, Vals vs us ∧ ∀ (g : G) (F : Hp) (mu : List Addr), g.K = K → RepL g F mu ds vs
  | [], [], _ => ⟨[], .nil, fun _ _ _ _ => .nil⟩
  | [], _ :: _, h => by simp [conL] at h
  | _ :: _, [], h => by simp [conL] at h
  | d :: ds, u :: us, h => by
    simp only [conL, Bool.and_eq_true] at h
    obtain ⟨v, v1, v2⟩ := conB_ok K d u h.1
    obtain ⟨vs, w1, w2⟩ := conL_ok K ds us h.2
    exact ⟨v :: vs, .cons v1 w1, fun g F mu hg => .cons (v2 g F mu hg) (w2 g F mu hg)⟩
end
def conX (K : PySem.W.Frag) (x : Str) (d : D) : Bool := match PySem.W.nsIn K mainGlobals x with
  | some (some u) => conB K d u
  | _ => false
theorem conX_ok {K : PySem.W.Frag} {h : Heap} {mg : Str → Option Value} (X : K.In h) (G : h.Ns mainGlobals mg) {x : Str} {d : D} (c : conX K x d = true) : Con K mg x d := by
  unfold conX at c
  split at c
  · rename_i u hu
    obtain ⟨v, v1, v2⟩ := conB_ok K d u c
    exact ⟨v, u, PySem.W.mg_of X G hu, v1, v2⟩
  · cases c
/-! ### kinds of errors -/
theorem caughtN {g : G} {CS : Addr} : ∀ {es : List Nat}, (∀ i ∈ es, ∃ C, g.ex i = some C ∧ PySem.W.exmOne g.K (.ref C) (.ref CS) = some true) → Caught g CS es := fun h k hk => h k (by simpa using hk)
end
end Mir
/-! E30: generator expressions and walks over dicts as a printed walk names them. -/
namespace Mir
open PySem PySem.Spec PyProof.Rows L2
theorem uniqT {l : List (Addr × Str)} (nd : (l.map (·.1)).Nodup) {P : Addr} {q : Str} (h : (P, q) ∈ l) : ∀ p ∈ l, p.1 = P → p.2 = q := by
  induction l with
  | nil => cases h
  | cons a l ih =>
    intro p hp e
    obtain ⟨n1, n2⟩ := List.nodup_cons.mp nd
    rcases List.mem_cons.mp h with h0 | h
    · rcases List.mem_cons.mp hp with h1 | hp
      · rw [h1, ← h0]
      · exact (n1 (List.mem_map.mpr ⟨p, hp, by rw [e, ← h0]⟩)).elim
    · rcases List.mem_cons.mp hp with h1 | hp
      · exact (n1 (List.mem_map.mpr ⟨(P, q), h, by rw [← h1]; exact e.symm⟩)).elim
      · exact ih n2 h p hp e
section
variable {X : Cx} {g : G} {E E' : XK} {B : Bs} {pos p2 p3 apos : Pos} {a b c e f o elt tgt iter c0 : Expr} {ma mb mc mk : EM} {m1 : SM} {mt : TM} {es : List Expr} {mas : AM} {sa : Stmt} {k : Nat} {own : List (Str × Nat)} {it : IM} {tg : Tg} {tr : TG} {scope : Scope} {cc P : Addr} {body : List Stmt}
theorem genOk0 (nod : X.N.Nodup) (tb : LamX.TabB X.base X.mg cc P) (code : X.env.code = .ref cc) (nd : (g.tb.map (·.1)).Nodup) (mem : (P, X.env.qual ++ ("<genexpr>" : Str)) ∈ g.tb) (sc : GX.GeS X.N X.env.scope scope own) (hi : PI X tgt iter (rdI g E it)) (hv : ∀ i ∈ tg.slots, i ∈ own.map (·.2)) (hT : TgS g tr tg)
    (hg : ∀ (A : Around) (s : Shared) (H : Hp) (fp : List Addr) (code : Value) (pn : List (Addr × Obj)), PG (GX.genCx X A s H fp scope code pn) tgt tr)
    (he : ∀ (A : Around) (s : Shared) (H : Hp) (fp : List Addr) (code : Value) (pn : List (Addr × Obj)), Room k (GX.genCx X A s H fp scope code pn).A → PE (GX.genCx X A s H fp scope code pn) elt (rdE g E' ma))
    (fold : ∀ v, genFold iter X.env v = pure v := by intro _; rfl) : GenOk X g E E' k cc P elt tgt iter [] scope own it tg tr L2.tYes Mir.tYes ma :=
  ⟨nod, tb, code, mem, uniqT nd mem, sc, hi, hv, hT, hg, fun _ _ _ _ _ _ _ => pts_nil, fun s H Q h => by
      obtain ⟨r, st, F, mu, re, h⟩ := h
      exact h true H F mu (.refl _ _ _) re rfl, he, fold⟩
theorem genOk1 (nod : X.N.Nodup) (tb : LamX.TabB X.base X.mg cc P) (code : X.env.code = .ref cc) (nd : (g.tb.map (·.1)).Nodup) (mem : (P, X.env.qual ++ ("<genexpr>" : Str)) ∈ g.tb) (sc : GX.GeS X.N X.env.scope scope own) (hi : PI X tgt iter (rdI g E it)) (hv : ∀ i ∈ tg.slots, i ∈ own.map (·.2)) (hT : TgS g tr tg)
    (hg : ∀ (A : Around) (s : Shared) (H : Hp) (fp : List Addr) (code : Value) (pn : List (Addr × Obj)), PG (GX.genCx X A s H fp scope code pn) tgt tr)
    (ht : ∀ (A : Around) (s : Shared) (H : Hp) (fp : List Addr) (code : Value) (pn : List (Addr × Obj)), Room k (GX.genCx X A s H fp scope code pn).A → PT (GX.genCx X A s H fp scope code pn) c0 (rdT g E' mt))
    (he : ∀ (A : Around) (s : Shared) (H : Hp) (fp : List Addr) (code : Value) (pn : List (Addr × Obj)), Room k (GX.genCx X A s H fp scope code pn).A → PE (GX.genCx X A s H fp scope code pn) elt (rdE g E' ma))
    (fold : ∀ v, genFold iter X.env v = pure v := by intro _; rfl) : GenOk X g E E' k cc P elt tgt iter [c0] scope own it tg tr (rdT g E' mt) mt ma :=
  ⟨nod, tb, code, mem, uniqT nd mem, sc, hi, hv, hT, hg, fun A s H fp code pn hr => pts_one (ht A s H fp code pn hr), fun s H Q h => h, he, fold⟩
theorem cLtLe (ha : PE X a (rdE g E ma)) (hb : PE X b (rdE g E mb)) (hc : PE X c (rdE g E mc)) (hm : lastMarks [.Lt, .LtE] [b, c] = false := by with_unfolding_all rfl) : PE X (.Compare a [.Lt, .LtE] [b, c] pos) (rdE g E (eChain oLt oLe ma mb mc)) := dChain op_lt sLt op_le sLe ha hb hc (pe_chain op_lt op_le ha hb hc hm)
theorem tLtLe (ha : PE X a (rdE g E ma)) (hb : PE X b (rdE g E mb)) (hc : PE X c (rdE g E mc)) (hm : lastMarks [.Lt, .LtE] [b, c] = false := by with_unfolding_all rfl) : PT X (.Compare a [.Lt, .LtE] [b, c] pos) (rdT g E (tE (eChain oLt oLe ma mb mc))) := dTchain op_lt sLt op_le sLe ha hb hc (pt_chain op_lt op_le ha hb hc hm)
theorem qSetLc1 {i : Nat} {y : Str} (hc : X.calm = true) (hN : X.N.Nodup) (hy : X.N[i]? = some y) (hyl : X.env.scope.names.lookup y = some .local) (hsw : swapsWith (.ListComp elt [⟨tgt, iter, [c0], 0⟩] scope pos) (some (.Name y p2)) p3.line X.env = pure true)
    (hi : PI X tgt iter (rdI g E it)) (ok : BlkOk X.N X.env.scope scope own) (hv : ∀ i ∈ tg.slots, i ∈ own.map (·.2)) (hT : TgS g tr tg)
    (hg : ∀ (s : Shared) (H : Hp) (C : Addr) (cl : List (Str × Addr)) (fp : List Addr), PG (X.blk s H scope (compEnvC scope cl C X.env) fp) tgt tr)
    (ht : ∀ (s : Shared) (H : Hp) (C : Addr) (cl : List (Str × Addr)) (fp : List Addr), PT (X.blk s H scope (compEnvC scope cl C X.env) fp) c0 (rdT g E' mt))
    (he : ∀ (s : Shared) (H : Hp) (C : Addr) (cl : List (Str × Addr)) (fp : List Addr), PE (X.blk s H scope (compEnvC scope cl C X.env) fp) elt (rdE g E' ma)) (hs : ∀ x, foldedSetIterable iter X.env x = pure x := by intro _; rfl) :
    PS X (.Assign [.Name y p2] (.ListComp elt [⟨tgt, iter, [c0], 0⟩] scope pos) p3) (rdS g E B (sSet i (eFrz (nLc it tg mt ma (own.map (·.2)))))) :=
  qSetG (PS.imp (ps_setLc hc hN hy hyl hsw hi ok hg (fun s H C cl fp => pts_one (ht s H C cl fp)) he hs) fun D s H h => yLcT (E' := E') hv hT (fun s H Q h => h) _ _ _ (xFrzT _ _ _ h))
/-! ### walks over dicts -/
theorem gForD (hp : PassesOwn (model X.prog X.w) X.A X.env X.xe) (hc : X.calm = true) (he : PE X e (rdE g E ma)) (hg : PG X tgt tr) (hT : TgS g tr tg) (hb : PSs X body (rdS g E B m1)) (hs : ∀ x, foldedSetIterable e X.env x = pure x := by intro _; rfl) :
    PS X (.For tgt e body [] pos) (rdS g E B (sForD ma tg m1)) := qLock fun n ps => qFor hp hc (piKeysD he n ps) hg hT hb hs
theorem yLcD0 (hc : X.calm = true) (hN : X.N.Nodup) (hi : PE X iter (rdE g E mk)) (ok : BlkOk X.N X.env.scope scope own) (hv : ∀ i ∈ tg.slots, i ∈ own.map (·.2)) (hT : TgS g tr tg)
    (hg : ∀ (s : Shared) (H : Hp) (C : Addr) (cl : List (Str × Addr)) (fp : List Addr), PG (X.blk s H scope (compEnvC scope cl C X.env) fp) tgt tr)
    (he : ∀ (s : Shared) (H : Hp) (C : Addr) (cl : List (Str × Addr)) (fp : List Addr), PE (X.blk s H scope (compEnvC scope cl C X.env) fp) elt (rdE g E' ma)) (hs : ∀ x, foldedSetIterable iter X.env x = pure x := by intro _; rfl) :
    PE X (.ListComp elt [⟨tgt, iter, [], 0⟩] scope pos) (rdN g E (nLcD mk tg Mir.tYes ma (own.map (·.2)))) := yLock fun n ps => yLc0 hc hN (piKeysD hi n ps) ok hv hT hg he hs
theorem yLcD1 (hc : X.calm = true) (hN : X.N.Nodup) (hi : PE X iter (rdE g E mk)) (ok : BlkOk X.N X.env.scope scope own) (hv : ∀ i ∈ tg.slots, i ∈ own.map (·.2)) (hT : TgS g tr tg)
    (hg : ∀ (s : Shared) (H : Hp) (C : Addr) (cl : List (Str × Addr)) (fp : List Addr), PG (X.blk s H scope (compEnvC scope cl C X.env) fp) tgt tr)
    (ht : ∀ (s : Shared) (H : Hp) (C : Addr) (cl : List (Str × Addr)) (fp : List Addr), PT (X.blk s H scope (compEnvC scope cl C X.env) fp) c0 (rdT g E' mt))
    (he : ∀ (s : Shared) (H : Hp) (C : Addr) (cl : List (Str × Addr)) (fp : List Addr), PE (X.blk s H scope (compEnvC scope cl C X.env) fp) elt (rdE g E' ma)) (hs : ∀ x, foldedSetIterable iter X.env x = pure x := by intro _; rfl) :
    PE X (.ListComp elt [⟨tgt, iter, [c0], 0⟩] scope pos) (rdN g E (nLcD mk tg mt ma (own.map (·.2)))) := yLock fun n ps => yLc1 hc hN (piKeysD hi n ps) ok hv hT hg ht he hs
end
end Mir
/-! k04: the mirror (printed). -/
namespace K04
open Mir
/-! the mirror -/
abbrev c_LEVELS : D := .ktp [.str [102, 111, 110, 100, 115], .str [115, 101, 114, 105, 101, 115], .str [102, 105, 108, 101], .str [105, 116, 101, 109]]
abbrev c_MONTHS : D := .ktp [.int 31, .int 28, .int 31, .int 30, .int 31, .int 30, .int 31, .int 31, .int 30, .int 31, .int 30, .int 31]
abbrev c_SIGNS_OF_MARKS : D := .str [97, 98, 99, 100, 101, 102, 103, 104, 105, 106, 107, 108, 109, 110, 111, 112, 113, 114, 115, 116, 117, 118, 119, 120, 121, 122, 48, 49, 50, 51, 52, 53, 54, 55, 56, 57]
/-- is_long: 0 year -/
def b_is_long : SM := (sRet (eAnd (eOp2 oEqA (eOp2 oMod (eV 0) (eC (.int 4))) (eC (.int 0))) (eOr (eOp2 oNeA (eOp2 oMod (eV 0) (eC (.int 100))) (eC (.int 0))) (eOp2 oEqA (eOp2 oMod (eV 0) (eC (.int 400))) (eC (.int 0))))))
def f_is_long : FM := fn 1 1 b_is_long
/-- month_days: 0 year, 1 month -/
def b_month_days : SM := (sSeq (sIf (Mir.tOr (Mir.tNot (tE (eChain oLe oLe (eC (.int 1)) (eV 0) (eC (.int 3000))))) (Mir.tNot (tE (eChain oLe oLe (eC (.int 1)) (eV 1) (eC (.int 12))))))
 (sRaise 1)
 sNext)
 (sRet (eIf (Mir.tAnd (tE (eOp2 oEqA (eV 1) (eC (.int 2)))) (tTru (eCall f_is_long (aCons (eV 0) aNil)))) (eC (.int 29)) (eOp2 oGet (eC c_MONTHS) (eOp2 oSub (eV 1) (eC (.int 1)))))))
def f_month_days : FM := fn 2 2 b_month_days
/-- year_start: 0 year, 1 before -/
def b_year_start : SM := (sSeq (sSet 1 (eOp2 oSub (eV 0) (eC (.int 1))))
 (sRet (eOp2 oAdd (eOp2 oSub (eOp2 oAdd (eOp2 oMul (eC (.int 365)) (eV 1)) (eOp2 oFdiv (eV 1) (eC (.int 4)))) (eOp2 oFdiv (eV 1) (eC (.int 100)))) (eOp2 oFdiv (eV 1) (eC (.int 400))))))
def f_year_start : FM := fn 2 1 b_year_start
/-- day_of: 0 year, 1 month, 2 day, 3 one -/
def b_day_of : SM := (sSeq (sIf (Mir.tNot (tE (eChain oLe oLe (eC (.int 1)) (eV 2) (eCall f_month_days (aCons (eV 0) (aCons (eV 1) aNil))))))
 (sRaise 1)
 sNext)
 (sRet (eOp2 oSub (eOp2 oAdd (eOp2 oAdd (eCall f_year_start (aCons (eV 0) aNil)) (eSumG (Mir.iRng2 (eC (.int 1)) (eV 1)) (.nm 3) Mir.tYes (eCall f_month_days (aCons (eV 0) (aCons (eV 3) aNil))) [3])) (eV 2)) (eC (.int 1)))))
def f_day_of : FM := fn 4 3 b_day_of
/-- date_of: 0 number, 1 year, 2 left, 3 month -/
def b_date_of : SM := (sSeq (sIf (Mir.tNot (tE (eChain oLe oLt (eC (.int 0)) (eV 0) (eCall f_year_start (aCons (eOp2 oAdd (eC (.int 3000)) (eC (.int 1))) aNil)))))
 (sRaise 1)
 sNext)
 (sSeq (sSet 1 (eOp2 oAdd (eOp2 oFdiv (eV 0) (eC (.int 366))) (eC (.int 1))))
 (sSeq (sWhile (Mir.tAnd (tE (eOp2 oLt (eV 1) (eC (.int 3000)))) (tE (eOp2 oLe (eCall f_year_start (aCons (eOp2 oAdd (eV 1) (eC (.int 1))) aNil)) (eV 0))))
 (sAug 1 oAdd (eC (.int 1))))
 (sSeq (sPar 2 3 (.v (eOp2 oSub (eV 0) (eCall f_year_start (aCons (eV 1) aNil)))) (.v (eC (.int 1))))
 (sSeq (sWhile (tE (eOp2 oGe (eV 2) (eCall f_month_days (aCons (eV 1) (aCons (eV 3) aNil)))))
 (sSeq (sAug 2 oSub (eCall f_month_days (aCons (eV 1) (aCons (eV 3) aNil))))
 (sAug 3 oAdd (eC (.int 1)))))
 (sRet (eTup (aCons (eV 1) (aCons (eV 3) (aCons (eOp2 oAdd (eV 2) (eC (.int 1))) aNil))))))))))
def f_date_of : FM := fn 4 1 b_date_of
/-- years_later: 0 number, 1 years, 2 year, 3 month, 4 day -/
def b_years_later : SM := (sSeq (sUnp (.tp [(.nm 2), (.nm 3), (.nm 4)]) (eCall f_date_of (aCons (eV 0) aNil)))
 (sSeq (sIf (Mir.tNot (tE (eChain oLe oLe (eC (.int 1)) (eOp2 oAdd (eV 2) (eV 1)) (eC (.int 3000)))))
 (sRaise 1)
 sNext)
 (sRet (eCall f_day_of (aCons (eOp2 oAdd (eV 2) (eV 1)) (aCons (eV 3) (aCons (eOpN oMin2 (aCons (eV 4) (aCons (eCall f_month_days (aCons (eOp2 oAdd (eV 2) (eV 1)) (aCons (eV 3) aNil))) aNil))) aNil)))))))
def f_years_later : FM := fn 5 2 b_years_later
/-- Keeping.__init__: 0 self, 1 holdings, 2 table -/
def b_Keeping___init__ : SM := (sSeq (sFldV 0 0 0 (eV 1))
 (sSeq (sFldV 0 0 1 (eFrz (nOpN nDictC (aCons (eV 2) aNil))))
 (sSeq (sFldV 0 0 2 (eNew (nDct0 0)))
 (sSeq (sFldV 0 0 3 (eNew (nDct0 0)))
 (sSeq (sFldV 0 0 4 (eNew (nLst aNil)))
 (sFldV 0 0 5 (eNew (nDct0 0))))))))
def f_Keeping___init__ : XM := fnInit 0 3 3 b_Keeping___init__
/-- Holdings.record: 0 self, 1 mark -/
def b_Holdings_record : SM := (sSeq (sIf (tE (eOp2 oNotIn (eV 1) (eFld 2 0 (eV 0))))
 (sRaise 2)
 sNext)
 (sRet (eOp2 oGet (eFld 2 0 (eV 0)) (eV 1))))
def f_Holdings_record : FM := fn 2 2 b_Holdings_record
/-- Keeping.put: 0 self, 1 mark, 2 kind, 3 last -/
def b_Keeping_put : SM := (sSeq (sExpr (eMeth 2 f_Holdings_record (eFld 0 0 (eV 0)) (aCons (eV 1) aNil)))
 (sSeq (sIf (tE (eOp2 oNotIn (eV 2) (eFld 0 1 (eV 0))))
 (sRaise 3)
 sNext)
 (sSeq (sPutDC (eFld 0 2 (eV 0)) (eV 1) (eV 2))
 (sPutDC (eFld 0 3 (eV 0)) (eV 1) (eV 3)))))
def f_Keeping_put : FM := fn 4 4 b_Keeping_put
/-- Keeping.hold: 0 self, 1 name, 2 mark -/
def b_Keeping_hold : SM := (sSeq (sExpr (eMeth 2 f_Holdings_record (eFld 0 0 (eV 0)) (aCons (eV 2) aNil)))
 (sSeq (sIf (tE (eOp2 oIn (eTup (aCons (eV 1) (aCons (eV 2) aNil))) (eFld 0 4 (eV 0))))
 (sRaise 3)
 sNext)
 (sAppC (eFld 0 4 (eV 0)) (eTup (aCons (eV 1) (aCons (eV 2) aNil))))))
def f_Keeping_hold : FM := fn 3 3 b_Keeping_hold
/-- Keeping.free: 0 self, 1 name, 2 mark -/
def b_Keeping_free : SM := (sSeq (sIf (tE (eOp2 oNotIn (eTup (aCons (eV 1) (aCons (eV 2) aNil))) (eFld 0 4 (eV 0))))
 (sRaise 3)
 sNext)
 (sExpr (eRemC (eFld 0 4 (eV 0)) (eTup (aCons (eV 1) (aCons (eV 2) aNil))))))
def f_Keeping_free : FM := fn 3 3 b_Keeping_free
/-- Holdings.line: 0 self, 1 mark, 2 found -/
def b_Holdings_line : SM := (sSeq (sOwn 2 (nLst aNil))
 (sSeq (sWhile (tE (eOp2 oNotN (eV 1) (eC .non)))
 (sSeq (sAppV 2 (eV 1))
 (sSet 1 (eFld 1 2 (eMeth 2 f_Holdings_record (eV 0) (aCons (eV 1) aNil))))))
 (sRet (eOpN oTuple (aCons (eV 2) aNil)))))
def f_Holdings_line : FM := fn 3 2 b_Holdings_line
/-- Keeping.is_held: 0 self, 1 mark, 2 line, 3 name, 4 one -/
def b_Keeping_is_held : SM := (sSeq (sSet 2 (eMeth 2 f_Holdings_line (eFld 0 0 (eV 0)) (aCons (eV 1) aNil)))
 (sRet (eAny (iE (eFld 0 4 (eV 0))) (.tp [(.nm 3), (.nm 4)]) Mir.tYes (eOp2 oIn (eV 4) (eV 2)) [3, 4])))
def f_Keeping_is_held : FM := fn 5 2 b_Keeping_is_held
/-- Keeping.ends: 0 self, 1 mark -/
def b_Keeping_ends : SM := (sSeq (sIf (Mir.tOr (tE (eOp2 oNotIn (eV 1) (eFld 0 2 (eV 0)))) (tE (eOp2 oIsN (eOp2 oGet (eFld 0 1 (eV 0)) (eOp2 oGet (eFld 0 2 (eV 0)) (eV 1))) (eC .non))))
 (sRet (eC .non))
 sNext)
 (sRet (eCall f_years_later (aCons (eOp2 oGet (eFld 0 3 (eV 0)) (eV 1)) (aCons (eOp2 oGet (eFld 0 1 (eV 0)) (eOp2 oGet (eFld 0 2 (eV 0)) (eV 1))) aNil)))))
def f_Keeping_ends : FM := fn 2 2 b_Keeping_ends
/-- Holdings.under: 0 self, 1 mark, 2 found, 3 left, 4 here -/
def b_Holdings_under : SM := (sSeq (sPar 2 3 (.o (nLst aNil)) (.o (nLst (aCons (eV 1) aNil))))
 (sSeq (sExpr (eMeth 2 f_Holdings_record (eV 0) (aCons (eV 1) aNil)))
 (sSeq (sWhile (tE (eOp2 oNeA (eV 3) (eFrz (nLst aNil))))
 (sSeq (sPopV 4 3)
 (sSeq (sAppV 2 (eV 4))
 (sExtV 3 (eFrz (nRev (eFld 1 4 (eMeth 2 f_Holdings_record (eV 0) (aCons (eV 4) aNil)))))))))
 (sRet (eOpN oTuple (aCons (eV 2) aNil))))))
def f_Holdings_under : FM := fn 5 2 b_Holdings_under
/-- Holdings.all_marks: 0 self, 1 found, 2 root -/
def b_Holdings_all_marks : SM := (sSeq (sOwn 1 (nLst aNil))
 (sSeq (sFor (iE (eFld 2 1 (eV 0))) (.nm 2)
 (sExtV 1 (eMeth 2 f_Holdings_under (eV 0) (aCons (eV 2) aNil))))
 (sRet (eOpN oTuple (aCons (eV 1) aNil)))))
def f_Holdings_all_marks : FM := fn 3 1 b_Holdings_all_marks
/-- Keeping.is_over: 0 self, 1 mark, 2 day, 3 end -/
def b_Keeping_is_over : SM := (sSeq (sIf (tE (eOp2 oIn (eV 1) (eFld 0 5 (eV 0))))
 (sRet (eC (.bl true)))
 sNext)
 (sSeq (sSet 3 (eMeth 0 f_Keeping_ends (eV 0) (aCons (eV 1) aNil)))
 (sRet (eAnd (eOp2 oNotN (eV 3) (eC .non)) (eAnd (eOp2 oLe (eV 3) (eV 2)) (eNot (eMeth 0 f_Keeping_is_held (eV 0) (aCons (eV 1) aNil))))))))
def f_Keeping_is_over : FM := fn 4 3 b_Keeping_is_over
/-- Keeping.due: 0 self, 1 day, 2 found, 3 mark, 4 one -/
def b_Keeping_due : SM := (sSeq (sOwn 2 (nLst aNil))
 (sSeq (sFor (iE (eMeth 2 f_Holdings_all_marks (eFld 0 0 (eV 0)) aNil)) (.nm 3)
 (sIf (Mir.tAnd (tE (eOp2 oNotIn (eV 3) (eFld 0 5 (eV 0)))) (tTru (eAll (iE (eMeth 2 f_Holdings_under (eFld 0 0 (eV 0)) (aCons (eV 3) aNil))) (.nm 4) Mir.tYes (eMeth 0 f_Keeping_is_over (eV 0) (aCons (eV 4) (aCons (eV 1) aNil))) [4])))
 (sAppV 2 (eV 3))
 sNext))
 (sRet (eOpN oTuple (aCons (eV 2) aNil)))))
def f_Keeping_due : FM := fn 5 2 b_Keeping_due
/-- Keeping.let_go: 0 self, 1 mark, 2 day, 3 one -/
def b_Keeping_let_go : SM := (sSeq (sIf (tE (eOp2 oNotIn (eV 1) (eMeth 0 f_Keeping_due (eV 0) (aCons (eV 2) aNil))))
 (sRaise 3)
 sNext)
 (sFor (iE (eMeth 2 f_Holdings_under (eFld 0 0 (eV 0)) (aCons (eV 1) aNil))) (.nm 3)
 (sExpr (eSetDV (eFld 0 5 (eV 0)) (eV 3) (eV 2)))))
def f_Keeping_let_go : FM := fn 4 3 b_Keeping_let_go
/-- check_mark: 0 mark, 1 sign -/
def b_check_mark : SM := (sIf (Mir.tOr (Mir.tNot (tE (eChain oLt oLe (eC (.int 0)) (eOpN oLenA (aCons (eV 0) aNil)) (eC (.int 20))))) (tTru (eAny (iE (eV 0)) (.nm 1) Mir.tYes (eOp2 oNotIn (eV 1) (eC c_SIGNS_OF_MARKS)) [1])))
 (sRaise 2)
 sNext)
def f_check_mark : FM := fn 2 1 b_check_mark
/-- Record.__init__: 0 self, 1 mark, 2 level, 3 parent, 4 title -/
def b_Record___init__ : SM := (sSeq (sFldV 1 0 0 (eV 1))
 (sSeq (sFldV 1 0 1 (eV 2))
 (sSeq (sFldV 1 0 2 (eV 3))
 (sSeq (sFldV 1 0 3 (eV 4))
 (sFldV 1 0 4 (eNew (nLst aNil)))))))
def f_Record___init__ : XM := fnInit 1 5 5 b_Record___init__
/-- Holdings.__init__: 0 self -/
def b_Holdings___init__ : SM := (sSeq (sFldV 2 0 0 (eNew (nDct0 0)))
 (sSeq (sFldV 2 0 1 (eNew (nLst aNil)))
 (sFldV 2 0 2 (eNew (nLst aNil)))))
def f_Holdings___init__ : XM := fnInit 2 1 1 b_Holdings___init__
/-- Holdings.check_day: 0 self, 1 day -/
def b_Holdings_check_day : SM := (sIf (Mir.tAnd (tE (eOp2 oNeA (eFld 2 2 (eV 0)) (eFrz (nLst aNil)))) (tE (eOp2 oLt (eV 1) (eOp2 oGet (eOp2 oGet (eFld 2 2 (eV 0)) (eOp1 oNeg (eC (.int 1)))) (eC (.int 0))))))
 (sRaise 2)
 sNext)
def f_Holdings_check_day : FM := fn 2 2 b_Holdings_check_day
/-- Holdings.note: 0 self, 1 day, 2 deed, 3 mark, 4 start, 5 end -/
def b_Holdings_note : SM := (sSeq (sExpr (eMeth 2 f_Holdings_check_day (eV 0) (aCons (eV 1) aNil)))
 (sAppC (eFld 2 2 (eV 0)) (eTup (aCons (eV 1) (aCons (eV 2) (aCons (eV 3) (aCons (eV 4) (aCons (eV 5) aNil))))))))
def f_Holdings_note : FM := fn 6 6 b_Holdings_note
/-- Holdings.check_place: 0 self, 1 level, 2 parent -/
def b_Holdings_check_place : SM := (sSeq (sIf (tE (eOp2 oNotIn (eV 1) (eC c_LEVELS)))
 (sRaise 2)
 sNext)
 (sSeq (sIf (tE (eOp2 oNeA (eOp2 oIsN (eV 2) (eC .non)) (eOp2 oEqA (eV 1) (eC (.str [102, 111, 110, 100, 115])))))
 (sRaise 2)
 sNext)
 (sIf (Mir.tAnd (tE (eOp2 oNotN (eV 2) (eC .non))) (tE (eOp2 oGe (eOp2 oIndexK (eC c_LEVELS) (eFld 1 1 (eMeth 2 f_Holdings_record (eV 0) (aCons (eV 2) aNil)))) (eOp2 oIndexK (eC c_LEVELS) (eV 1)))))
 (sRaise 2)
 sNext)))
def f_Holdings_check_place : FM := fn 3 3 b_Holdings_check_place
/-- Holdings.siblings: 0 self, 1 parent -/
def b_Holdings_siblings : SM := (sRet (eIf (tE (eOp2 oIsN (eV 1) (eC .non))) (eFld 2 1 (eV 0)) (eFld 1 4 (eMeth 2 f_Holdings_record (eV 0) (aCons (eV 1) aNil)))))
def f_Holdings_siblings : FM := fn 2 2 b_Holdings_siblings
/-- Holdings.add: 0 self, 1 day, 2 mark, 3 level, 4 parent, 5 title -/
def b_Holdings_add : SM := (sSeq (sExpr (eCall f_check_mark (aCons (eV 2) aNil)))
 (sSeq (sExpr (eMeth 2 f_Holdings_check_day (eV 0) (aCons (eV 1) aNil)))
 (sSeq (sIf (Mir.tOr (tE (eOp2 oIn (eV 2) (eFld 2 0 (eV 0)))) (tE (eOp2 oGe (eOpN oLenA (aCons (eFld 2 0 (eV 0)) aNil)) (eC (.int 2000)))))
 (sRaise 2)
 sNext)
 (sSeq (sExpr (eMeth 2 f_Holdings_check_place (eV 0) (aCons (eV 3) (aCons (eV 4) aNil))))
 (sSeq (sPutDC (eFld 2 0 (eV 0)) (eV 2) (eNew (nMake 1 f_Record___init__ (aCons (eV 2) (aCons (eV 3) (aCons (eV 4) (aCons (eV 5) aNil)))))))
 (sSeq (sAppC (eMeth 2 f_Holdings_siblings (eV 0) (aCons (eV 4) aNil)) (eV 2))
 (sExpr (eMeth 2 f_Holdings_note (eV 0) (aCons (eV 1) (aCons (eC (.str [97, 100, 100])) (aCons (eV 2) (aCons (eC .non) (aCons (eV 4) aNil)))))))))))))
def f_Holdings_add : FM := fn 6 6 b_Holdings_add
/-- _law_dice: 0 cell -/
def b_law_dice : SM := (sSeq (sIf (tE (eChain oLt oLt (eOp2 oSub (eC (.int 0)) (eC (.int 10))) (eV 0) (eC (.int 10))))
 (sRet (eNew (nLst (aCons (eOpN oAbs (aCons (eV 0) aNil)) (aCons (eC (.int 0)) (aCons (eC (.int 2)) aNil))))))
 sNext)
 (sRet (eNew (nLst (aCons (eV 0) (aCons (eOp2 oAdd (eC (.int 1)) (eOp2 oMod (eOpN oInt (aCons (eV 0) aNil)) (eC (.int 1009)))) (aCons (eOpN oInt (aCons (eOp2 oGe (eV 0) (eOp2 oPow (eC (.int 10)) (eC (.int 18)))) aNil)) aNil)))))))
def f_law_dice : FM := fn 1 1 b_law_dice
/-- _law_roll: 0 dice, 1 many, 2 found -/
def b_law_roll : SM := (sSeq (sIf (Mir.tOr (tE (eOp2 oEqA (eOp2 oGet (eV 0) (eC (.int 2))) (eC (.int 2)))) (Mir.tAnd (tE (eOp2 oEqA (eOp2 oGet (eV 0) (eC (.int 2))) (eC (.int 1)))) (tE (eOp2 oGt (eOp2 oGet (eV 0) (eC (.int 0))) (eC (.int 0))))))
 (sSeq (sSet 2 (eOp2 oMod (eOpN oInt (aCons (eOp2 oGet (eV 0) (eC (.int 0))) aNil)) (eV 1)))
 (sSeq (sPutL (eV 0) (eC (.int 0)) (eOp2 oFdiv (eOp2 oGet (eV 0) (eC (.int 0))) (eV 1)))
 (sRet (eV 2))))
 sNext)
 (sSeq (sPutL (eV 0) (eC (.int 2)) (eC (.int 0)))
 (sSeq (sIf (tE (eOp2 oGt (eV 1) (eC (.int 100000000))))
 sDead
 sNext)
 (sSeq (sPutL (eV 0) (eC (.int 0)) (eOp2 oMod (eOpN oInt (aCons (eOp2 oAdd (eOp2 oAdd (eOp2 oMul (eOp2 oGet (eV 0) (eC (.int 0))) (eC (.int 48271))) (eOp2 oMul (eOp2 oGet (eV 0) (eC (.int 1))) (eC (.int 69621)))) (eC (.int 11))) aNil)) (eC (.int 2147483647))))
 (sSeq (sPutL (eV 0) (eC (.int 1)) (eOp2 oAdd (eOp2 oGet (eV 0) (eC (.int 1))) (eC (.int 1))))
 (sRet (eOp2 oMod (eOpN oInt (aCons (eOp2 oFdiv (eOp2 oGet (eV 0) (eC (.int 0))) (eC (.int 7))) aNil)) (eV 1))))))))
def f_law_roll : FM := fn 3 2 b_law_roll
/-- _law_rounds: 0 script, 1 most, 2 cells, 3 cell -/
def b_law_rounds : SM := (sSeq (sSet 2 (eFrz (nSl (eV 0) oNo (oSome (eV 1)))))
 (sSeq (sIf (tE (eOp2 oEqA (eV 2) (eFrz (nLst aNil))))
 (sSet 2 (eFrz (nLst (aCons (eC (.int 0)) aNil))))
 sNext)
 (sRet (eFrz (nLc (iE (eV 2)) (.nm 3) Mir.tYes (eCall f_law_dice (aCons (eV 3) aNil)) [3])))))
def f_law_rounds : FM := fn 4 2 b_law_rounds
/-- _law_line: 0 up, 1 mark, 2 found -/
def b_law_line : SM := (sSeq (sSet 2 (eFrz (nLst aNil)))
 (sSeq (sWhile (tE (eOp2 oNotN (eV 1) (eC .non)))
 (sPar 2 1 (.v (eFrz (nOp2 nCat (eV 2) (eFrz (nLst (aCons (eV 1) aNil)))))) (.v (eOp2 oGet (eV 0) (eV 1)))))
 (sRet (eV 2))))
def f_law_line : FM := fn 3 2 b_law_line
/-- _law_under: 0 up, 1 mark, 2 one -/
def b_law_under : SM := (sRet (eFrz (nLcD (eV 0) (.nm 2) (tE (eOp2 oIn (eV 1) (eCall f_law_line (aCons (eV 0) (aCons (eV 2) aNil))))) (eV 2) [2])))
def f_law_under : FM := fn 3 2 b_law_under
/-- _law_over: 0 own, 1 mark, 2 day, 3 kind, 4 last, 5 name, 6 one -/
def b_law_over : SM := (sSeq (sIf (tE (eOp2 oIn (eV 1) (eOp2 oGet (eV 0) (eC (.str [103, 111, 110, 101])))))
 (sRet (eC (.bl true)))
 sNext)
 (sSeq (sIf (Mir.tOr (tE (eOp2 oNotIn (eV 1) (eOp2 oGet (eV 0) (eC (.str [107, 105, 110, 100, 115]))))) (tE (eOp2 oNeA (eFrz (nLc (iE (eOp2 oGet (eV 0) (eC (.str [104, 111, 108, 100, 115])))) (.tp [(.nm 5), (.nm 6)]) (tE (eOp2 oIn (eV 6) (eCall f_law_line (aCons (eOp2 oGet (eV 0) (eC (.str [117, 112]))) (aCons (eV 1) aNil))))) (eC (.int 1)) [5, 6])) (eFrz (nLst aNil)))))
 (sRet (eC (.bl false)))
 sNext)
 (sSeq (sUnp (.tp [(.nm 3), (.nm 4)]) (eOp2 oGet (eOp2 oGet (eV 0) (eC (.str [107, 105, 110, 100, 115]))) (eV 1)))
 (sRet (eAnd (eOp2 oNotN (eOp2 oGet (eFrz (nDctL [((eC (.str [115, 104, 111, 114, 116])), (eC (.int 5))), ((eC (.str [108, 111, 110, 103])), (eC (.int 40))), ((eC (.str [101, 118, 101, 114])), (eC .non))])) (eV 3)) (eC .non)) (eOp2 oLe (eCall f_years_later (aCons (eV 4) (aCons (eOp2 oGet (eFrz (nDctL [((eC (.str [115, 104, 111, 114, 116])), (eC (.int 5))), ((eC (.str [108, 111, 110, 103])), (eC (.int 40)))])) (eV 3)) aNil))) (eV 2)))))))
def f_law_over : FM := fn 7 3 b_law_over
/-- law: 0 script, 1 dice, 2 holdings, 3 own, 4 mark, 5 level, 6 parent, 7 keeping, 8 step, 9 sort, 10 day, 11 kind, 12 last, 13 good, 14 name, 15 there, 16 one, 17 due, 18 held, 19 end, 20 bad, 21 row, 22 under, 23 f -/
def b_law : SM := (sSeq (sFor (iE (eCall f_law_rounds (aCons (eV 0) (aCons (eC (.int 1)) aNil)))) (.nm 1)
 (sSeq (sUnp (.tp [(.nm 2), (.nm 3)]) (eTup (aCons (eNew (nMake 2 f_Holdings___init__ aNil)) (aCons (eNew (nDctL [((eC (.str [117, 112])), (eNew (nDctL [((eC (.str [97])), (eC .non))]))), ((eC (.str [107, 105, 110, 100, 115])), (eNew (nDct0 0))), ((eC (.str [104, 111, 108, 100, 115])), (eFrz (nLst aNil))), ((eC (.str [103, 111, 110, 101])), (eNew (nDct0 0)))])) aNil))))
 (sSeq (sExpr (eMeth 2 f_Holdings_add (eV 2) (aCons (eC (.int 0)) (aCons (eC (.str [97])) (aCons (eC (.str [102, 111, 110, 100, 115])) (aCons (eC .non) (aCons (eC (.str [120])) aNil)))))))
 (sSeq (sFor (iE (eFrz (nLst (aCons (eTup (aCons (eC (.str [98])) (aCons (eC (.str [115, 101, 114, 105, 101, 115])) (aCons (eC (.str [97])) aNil)))) (aCons (eTup (aCons (eC (.str [99])) (aCons (eC (.str [115, 101, 114, 105, 101, 115])) (aCons (eC (.str [97])) aNil)))) (aCons (eTup (aCons (eC (.str [100])) (aCons (eC (.str [102, 105, 108, 101])) (aCons (eC (.str [98])) aNil)))) (aCons (eTup (aCons (eC (.str [101])) (aCons (eC (.str [105, 116, 101, 109])) (aCons (eC (.str [100])) aNil)))) (aCons (eTup (aCons (eC (.str [102])) (aCons (eC (.str [105, 116, 101, 109])) (aCons (eC (.str [100])) aNil)))) aNil)))))))) (.tp [(.nm 4), (.nm 5), (.nm 6)])
 (sSeq (sExpr (eMeth 2 f_Holdings_add (eV 2) (aCons (eC (.int 0)) (aCons (eV 4) (aCons (eV 5) (aCons (eV 6) (aCons (eC (.str [120])) aNil)))))))
 (sPutDC (eOp2 oGet (eV 3) (eC (.str [117, 112]))) (eV 4) (eV 6))))
 (sSeq (sSet 7 (eNew (nMake 0 f_Keeping___init__ (aCons (eV 2) (aCons (eFrz (nDctL [((eC (.str [115, 104, 111, 114, 116])), (eC (.int 5))), ((eC (.str [108, 111, 110, 103])), (eC (.int 40))), ((eC (.str [101, 118, 101, 114])), (eC .non))])) aNil)))))
 (sFor (Mir.iRng1 (eCall f_law_roll (aCons (eV 1) (aCons (eC (.int 31)) aNil)))) (.nm 8)
 (sSeq (sUnp (.tp [(.nm 4), (.nm 9), (.nm 10)]) (eTup (aCons (eOp2 oGet (eC (.str [97, 98, 99, 100, 101, 102, 122])) (eCall f_law_roll (aCons (eV 1) (aCons (eC (.int 7)) aNil)))) (aCons (eCall f_law_roll (aCons (eV 1) (aCons (eC (.int 6)) aNil))) (aCons (eOp2 oAdd (eC (.int 600000)) (eCall f_law_roll (aCons (eV 1) (aCons (eC (.int 20000)) aNil)))) aNil)))))
 (sSeq (sIf (tE (eOp2 oLt (eV 9) (eC (.int 2))))
 (sSeq (sUnp (.tp [(.nm 11), (.nm 12)]) (eTup (aCons (eOp2 oGet (eFrz (nLst (aCons (eC (.str [115, 104, 111, 114, 116])) (aCons (eC (.str [115, 104, 111, 114, 116])) (aCons (eC (.str [108, 111, 110, 103])) (aCons (eC (.str [101, 118, 101, 114])) (aCons (eC (.str [102, 108, 121])) aNil))))))) (eCall f_law_roll (aCons (eV 1) (aCons (eC (.int 5)) aNil)))) (aCons (eOp2 oAdd (eC (.int 600000)) (eCall f_law_roll (aCons (eV 1) (aCons (eC (.int 5000)) aNil)))) aNil))))
 (sSeq (sSet 13 (eAnd (eOp2 oIn (eV 4) (eOp2 oGet (eV 3) (eC (.str [117, 112])))) (eOp2 oNeA (eV 11) (eC (.str [102, 108, 121])))))
 (sSeq (sIf (tE (eOp2 oEqA (eOp2 oEqA (eTold [1, 2, 3] [65, 114, 99, 104, 105, 118, 101, 69, 114, 114, 111, 114] (eMeth 0 f_Keeping_put (eV 7) (aCons (eV 4) (aCons (eV 11) (aCons (eV 12) aNil))))) (eC (.str [65, 114, 99, 104, 105, 118, 101, 69, 114, 114, 111, 114]))) (eV 13)))
 (sRet (eC (.bl false)))
 sNext)
 (sIf (tE (eV 13))
 (sPutDC (eOp2 oGet (eV 3) (eC (.str [107, 105, 110, 100, 115]))) (eV 4) (eTup (aCons (eV 11) (aCons (eV 12) aNil))))
 sNext))))
 (sIf (tE (eOp2 oLt (eV 9) (eC (.int 4))))
 (sSeq (sSet 14 (eOp2 oAdd (eC (.str [104])) (eOpN oStr (aCons (eCall f_law_roll (aCons (eV 1) (aCons (eC (.int 2)) aNil))) aNil))))
 (sSeq (sSet 15 (eOp2 oIn (eTup (aCons (eV 14) (aCons (eV 4) aNil))) (eOp2 oGet (eV 3) (eC (.str [104, 111, 108, 100, 115])))))
 (sSeq (sSet 13 (eIf (tE (eOp2 oEqA (eV 9) (eC (.int 2)))) (eAnd (eOp2 oIn (eV 4) (eOp2 oGet (eV 3) (eC (.str [117, 112])))) (eNot (eV 15))) (eV 15)))
 (sSeq (sIf (tE (eOp2 oEqA (eOp2 oEqA (eTold [1, 2, 3] [65, 114, 99, 104, 105, 118, 101, 69, 114, 114, 111, 114] (eIf (tE (eOp2 oEqA (eV 9) (eC (.int 2)))) (eMeth 0 f_Keeping_hold (eV 7) (aCons (eV 14) (aCons (eV 4) aNil))) (eMeth 0 f_Keeping_free (eV 7) (aCons (eV 14) (aCons (eV 4) aNil))))) (eC (.str [65, 114, 99, 104, 105, 118, 101, 69, 114, 114, 111, 114]))) (eV 13)))
 (sRet (eC (.bl false)))
 sNext)
 (sIf (tE (eV 13))
 (sPutDC (eV 3) (eC (.str [104, 111, 108, 100, 115])) (eIf (tE (eOp2 oEqA (eV 9) (eC (.int 2)))) (eFrz (nOp2 nCat (eOp2 oGet (eV 3) (eC (.str [104, 111, 108, 100, 115]))) (eFrz (nLst (aCons (eTup (aCons (eV 14) (aCons (eV 4) aNil))) aNil))))) (eFrz (nLc (iE (eOp2 oGet (eV 3) (eC (.str [104, 111, 108, 100, 115])))) (.nm 21) (tE (eOp2 oNeA (eV 21) (eTup (aCons (eV 14) (aCons (eV 4) aNil))))) (eV 21) [21]))))
 sNext)))))
 (sSeq (sSet 13 (eAnd (eOp2 oIn (eV 4) (eOp2 oGet (eV 3) (eC (.str [117, 112])))) (eAnd (eOp2 oNotIn (eV 4) (eOp2 oGet (eV 3) (eC (.str [103, 111, 110, 101])))) (eOp2 oEqA (eFrz (nLc (iE (eCall f_law_under (aCons (eOp2 oGet (eV 3) (eC (.str [117, 112]))) (aCons (eV 4) aNil)))) (.nm 16) (Mir.tNot (tTru (eCall f_law_over (aCons (eV 3) (aCons (eV 16) (aCons (eV 10) aNil)))))) (eC (.int 1)) [16])) (eFrz (nLst aNil))))))
 (sSeq (sIf (tE (eOp2 oEqA (eOp2 oEqA (eTold [1, 2, 3] [65, 114, 99, 104, 105, 118, 101, 69, 114, 114, 111, 114] (eMeth 0 f_Keeping_let_go (eV 7) (aCons (eV 4) (aCons (eV 10) aNil)))) (eC (.str [65, 114, 99, 104, 105, 118, 101, 69, 114, 114, 111, 114]))) (eV 13)))
 (sRet (eC (.bl false)))
 sNext)
 (sFor (iE (eIf (tE (eV 13)) (eCall f_law_under (aCons (eOp2 oGet (eV 3) (eC (.str [117, 112]))) (aCons (eV 4) aNil))) (eFrz (nLst aNil)))) (.nm 16)
 (sPutDC (eOp2 oGet (eV 3) (eC (.str [103, 111, 110, 101]))) (eV 16) (eGet2 (eOp2 oGet (eV 3) (eC (.str [103, 111, 110, 101]))) (eV 16) (eV 10))))))))
 (sSeq (sSet 17 (eFrz (nLc (iE (eMeth 2 f_Holdings_all_marks (eV 2) aNil)) (.nm 16) (Mir.tAnd (tE (eOp2 oNotIn (eV 16) (eOp2 oGet (eV 3) (eC (.str [103, 111, 110, 101]))))) (tE (eOp2 oEqA (eFrz (nLc (iE (eCall f_law_under (aCons (eOp2 oGet (eV 3) (eC (.str [117, 112]))) (aCons (eV 16) aNil)))) (.nm 22) (Mir.tNot (tTru (eCall f_law_over (aCons (eV 3) (aCons (eV 22) (aCons (eV 10) aNil)))))) (eC (.int 1)) [22])) (eFrz (nLst aNil))))) (eV 16) [16])))
 (sSeq (sIf (Mir.tOr (tE (eOp2 oNeA (eFrz (nOpN nList (aCons (eMeth 0 f_Keeping_due (eV 7) (aCons (eV 10) aNil)) aNil))) (eV 17))) (tE (eOp2 oNeA (eFld 0 5 (eV 7)) (eOp2 oGet (eV 3) (eC (.str [103, 111, 110, 101]))))))
 (sRet (eC (.bl false)))
 sNext)
 (sForD (eOp2 oGet (eV 3) (eC (.str [117, 112]))) (.nm 16)
 (sSeq (sSet 18 (eOp2 oNeA (eFrz (nLc (iE (eOp2 oGet (eV 3) (eC (.str [104, 111, 108, 100, 115])))) (.tp [(.nm 14), (.nm 4)]) (tE (eOp2 oIn (eV 4) (eCall f_law_line (aCons (eOp2 oGet (eV 3) (eC (.str [117, 112]))) (aCons (eV 16) aNil))))) (eC (.int 1)) [14, 4])) (eFrz (nLst aNil))))
 (sSeq (sSet 11 (eGet2 (eOp2 oGet (eV 3) (eC (.str [107, 105, 110, 100, 115]))) (eV 16) (eTup (aCons (eC (.str [101, 118, 101, 114])) (aCons (eC (.int 0)) aNil)))))
 (sSeq (sSet 19 (eIf (tE (eOp2 oEqA (eOp2 oGet (eV 11) (eC (.int 0))) (eC (.str [101, 118, 101, 114])))) (eC .non) (eCall f_years_later (aCons (eOp2 oGet (eV 11) (eC (.int 1))) (aCons (eIf (tE (eOp2 oEqA (eOp2 oGet (eV 11) (eC (.int 0))) (eC (.str [115, 104, 111, 114, 116])))) (eC (.int 5)) (eC (.int 40))) aNil)))))
 (sIf (Mir.tOr (tE (eOp2 oNeA (eMeth 0 f_Keeping_is_held (eV 7) (aCons (eV 16) aNil)) (eV 18))) (Mir.tOr (tE (eOp2 oNeA (eMeth 0 f_Keeping_ends (eV 7) (aCons (eV 16) aNil)) (eV 19))) (tE (eOp2 oNeA (eMeth 0 f_Keeping_is_over (eV 7) (aCons (eV 16) (aCons (eV 10) aNil))) (eCall f_law_over (aCons (eV 3) (aCons (eV 16) (aCons (eV 10) aNil))))))))
 (sRet (eC (.bl false)))
 sNext)))))))))))))))
 (sSeq (sSet 16 (eNew (nMake 2 f_Holdings___init__ aNil)))
 (sSeq (sExpr (eMeth 2 f_Holdings_add (eV 16) (aCons (eC (.int 0)) (aCons (eC (.str [97])) (aCons (eC (.str [102, 111, 110, 100, 115])) (aCons (eC .non) (aCons (eC (.str [120])) aNil)))))))
 (sSeq (sSet 7 (eNew (nMake 0 f_Keeping___init__ (aCons (eV 16) (aCons (eFrz (nDctL [((eC (.str [115, 104, 111, 114, 116])), (eC (.int 5)))])) aNil)))))
 (sBad 20 (sBadThen 23 [1, 2, 3] [65, 114, 99, 104, 105, 118, 101, 69, 114, 114, 111, 114] [(eMeth 0 f_Keeping_put (eV 7) (aCons (eC (.str [122])) (aCons (eC (.str [115, 104, 111, 114, 116])) (aCons (eC (.int 5)) aNil)))),
 (eMeth 0 f_Keeping_put (eV 7) (aCons (eC (.str [97])) (aCons (eC (.str [108, 111, 110, 103])) (aCons (eC (.int 5)) aNil)))),
 (eMeth 0 f_Keeping_hold (eV 7) (aCons (eC (.str [104])) (aCons (eC (.str [122])) aNil))),
 (eMeth 0 f_Keeping_free (eV 7) (aCons (eC (.str [104])) (aCons (eC (.str [97])) aNil))),
 (eMeth 0 f_Keeping_let_go (eV 7) (aCons (eC (.str [97])) (aCons (eC (.int 5)) aNil)))]
 (sRet (eAnd (eOp2 oIsN (eMeth 0 f_Keeping_ends (eV 7) (aCons (eC (.str [97])) aNil)) (eC .non)) (eOp2 oEqA (eMeth 0 f_Keeping_due (eV 7) (aCons (eC (.int 900000)) aNil)) (eTup aNil))))))))))
def f_law : FM := fn 24 1 b_law
end K04
/-! k04: the parts of law (printed by cut.py). -/
namespace K04
open Mir
def b_q : SM := (sSeq (sSet 18 (eOp2 oNeA (eFrz (nLc (iE (eOp2 oGet (eV 3) (eC (.str [104, 111, 108, 100, 115])))) (.tp [(.nm 14), (.nm 4)]) (tE (eOp2 oIn (eV 4) (eCall f_law_line (aCons (eOp2 oGet (eV 3) (eC (.str [117, 112]))) (aCons (eV 16) aNil))))) (eC (.int 1)) [14, 4])) (eFrz (nLst aNil)))) (sSeq (sSet 11 (eGet2 (eOp2 oGet (eV 3) (eC (.str [107, 105, 110, 100, 115]))) (eV 16) (eTup (aCons (eC (.str [101, 118, 101, 114])) (aCons (eC (.int 0)) aNil))))) (sSeq (sSet 19 (eIf (tE (eOp2 oEqA (eOp2 oGet (eV 11) (eC (.int 0))) (eC (.str [101, 118, 101, 114])))) (eC .non) (eCall f_years_later (aCons (eOp2 oGet (eV 11) (eC (.int 1))) (aCons (eIf (tE (eOp2 oEqA (eOp2 oGet (eV 11) (eC (.int 0))) (eC (.str [115, 104, 111, 114, 116])))) (eC (.int 5)) (eC (.int 40))) aNil))))) (sIf (Mir.tOr (tE (eOp2 oNeA (eMeth 0 f_Keeping_is_held (eV 7) (aCons (eV 16) aNil)) (eV 18))) (Mir.tOr (tE (eOp2 oNeA (eMeth 0 f_Keeping_ends (eV 7) (aCons (eV 16) aNil)) (eV 19))) (tE (eOp2 oNeA (eMeth 0 f_Keeping_is_over (eV 7) (aCons (eV 16) (aCons (eV 10) aNil))) (eCall f_law_over (aCons (eV 3) (aCons (eV 16) (aCons (eV 10) aNil)))))))) (sRet (eC (.bl false))) sNext))))
def b_put : SM := (sSeq (sUnp (.tp [(.nm 11), (.nm 12)]) (eTup (aCons (eOp2 oGet (eFrz (nLst (aCons (eC (.str [115, 104, 111, 114, 116])) (aCons (eC (.str [115, 104, 111, 114, 116])) (aCons (eC (.str [108, 111, 110, 103])) (aCons (eC (.str [101, 118, 101, 114])) (aCons (eC (.str [102, 108, 121])) aNil))))))) (eCall f_law_roll (aCons (eV 1) (aCons (eC (.int 5)) aNil)))) (aCons (eOp2 oAdd (eC (.int 600000)) (eCall f_law_roll (aCons (eV 1) (aCons (eC (.int 5000)) aNil)))) aNil)))) (sSeq (sSet 13 (eAnd (eOp2 oIn (eV 4) (eOp2 oGet (eV 3) (eC (.str [117, 112])))) (eOp2 oNeA (eV 11) (eC (.str [102, 108, 121]))))) (sSeq (sIf (tE (eOp2 oEqA (eOp2 oEqA (eTold [1, 2, 3] [65, 114, 99, 104, 105, 118, 101, 69, 114, 114, 111, 114] (eMeth 0 f_Keeping_put (eV 7) (aCons (eV 4) (aCons (eV 11) (aCons (eV 12) aNil))))) (eC (.str [65, 114, 99, 104, 105, 118, 101, 69, 114, 114, 111, 114]))) (eV 13))) (sRet (eC (.bl false))) sNext) (sIf (tE (eV 13)) (sPutDC (eOp2 oGet (eV 3) (eC (.str [107, 105, 110, 100, 115]))) (eV 4) (eTup (aCons (eV 11) (aCons (eV 12) aNil)))) sNext))))
def b_hold : SM := (sSeq (sSet 14 (eOp2 oAdd (eC (.str [104])) (eOpN oStr (aCons (eCall f_law_roll (aCons (eV 1) (aCons (eC (.int 2)) aNil))) aNil)))) (sSeq (sSet 15 (eOp2 oIn (eTup (aCons (eV 14) (aCons (eV 4) aNil))) (eOp2 oGet (eV 3) (eC (.str [104, 111, 108, 100, 115]))))) (sSeq (sSet 13 (eIf (tE (eOp2 oEqA (eV 9) (eC (.int 2)))) (eAnd (eOp2 oIn (eV 4) (eOp2 oGet (eV 3) (eC (.str [117, 112])))) (eNot (eV 15))) (eV 15))) (sSeq (sIf (tE (eOp2 oEqA (eOp2 oEqA (eTold [1, 2, 3] [65, 114, 99, 104, 105, 118, 101, 69, 114, 114, 111, 114] (eIf (tE (eOp2 oEqA (eV 9) (eC (.int 2)))) (eMeth 0 f_Keeping_hold (eV 7) (aCons (eV 14) (aCons (eV 4) aNil))) (eMeth 0 f_Keeping_free (eV 7) (aCons (eV 14) (aCons (eV 4) aNil))))) (eC (.str [65, 114, 99, 104, 105, 118, 101, 69, 114, 114, 111, 114]))) (eV 13))) (sRet (eC (.bl false))) sNext) (sIf (tE (eV 13)) (sPutDC (eV 3) (eC (.str [104, 111, 108, 100, 115])) (eIf (tE (eOp2 oEqA (eV 9) (eC (.int 2)))) (eFrz (nOp2 nCat (eOp2 oGet (eV 3) (eC (.str [104, 111, 108, 100, 115]))) (eFrz (nLst (aCons (eTup (aCons (eV 14) (aCons (eV 4) aNil))) aNil))))) (eFrz (nLc (iE (eOp2 oGet (eV 3) (eC (.str [104, 111, 108, 100, 115])))) (.nm 21) (tE (eOp2 oNeA (eV 21) (eTup (aCons (eV 14) (aCons (eV 4) aNil))))) (eV 21) [21])))) sNext)))))
def b_let : SM := (sSeq (sSet 13 (eAnd (eOp2 oIn (eV 4) (eOp2 oGet (eV 3) (eC (.str [117, 112])))) (eAnd (eOp2 oNotIn (eV 4) (eOp2 oGet (eV 3) (eC (.str [103, 111, 110, 101])))) (eOp2 oEqA (eFrz (nLc (iE (eCall f_law_under (aCons (eOp2 oGet (eV 3) (eC (.str [117, 112]))) (aCons (eV 4) aNil)))) (.nm 16) (Mir.tNot (tTru (eCall f_law_over (aCons (eV 3) (aCons (eV 16) (aCons (eV 10) aNil)))))) (eC (.int 1)) [16])) (eFrz (nLst aNil)))))) (sSeq (sIf (tE (eOp2 oEqA (eOp2 oEqA (eTold [1, 2, 3] [65, 114, 99, 104, 105, 118, 101, 69, 114, 114, 111, 114] (eMeth 0 f_Keeping_let_go (eV 7) (aCons (eV 4) (aCons (eV 10) aNil)))) (eC (.str [65, 114, 99, 104, 105, 118, 101, 69, 114, 114, 111, 114]))) (eV 13))) (sRet (eC (.bl false))) sNext) (sFor (iE (eIf (tE (eV 13)) (eCall f_law_under (aCons (eOp2 oGet (eV 3) (eC (.str [117, 112]))) (aCons (eV 4) aNil))) (eFrz (nLst aNil)))) (.nm 16) (sPutDC (eOp2 oGet (eV 3) (eC (.str [103, 111, 110, 101]))) (eV 16) (eGet2 (eOp2 oGet (eV 3) (eC (.str [103, 111, 110, 101]))) (eV 16) (eV 10))))))
def b_tail : SM := (sSeq (sSet 17 (eFrz (nLc (iE (eMeth 2 f_Holdings_all_marks (eV 2) aNil)) (.nm 16) (Mir.tAnd (tE (eOp2 oNotIn (eV 16) (eOp2 oGet (eV 3) (eC (.str [103, 111, 110, 101]))))) (tE (eOp2 oEqA (eFrz (nLc (iE (eCall f_law_under (aCons (eOp2 oGet (eV 3) (eC (.str [117, 112]))) (aCons (eV 16) aNil)))) (.nm 22) (Mir.tNot (tTru (eCall f_law_over (aCons (eV 3) (aCons (eV 22) (aCons (eV 10) aNil)))))) (eC (.int 1)) [22])) (eFrz (nLst aNil))))) (eV 16) [16]))) (sSeq (sIf (Mir.tOr (tE (eOp2 oNeA (eFrz (nOpN nList (aCons (eMeth 0 f_Keeping_due (eV 7) (aCons (eV 10) aNil)) aNil))) (eV 17))) (tE (eOp2 oNeA (eFld 0 5 (eV 7)) (eOp2 oGet (eV 3) (eC (.str [103, 111, 110, 101])))))) (sRet (eC (.bl false))) sNext) (sForD (eOp2 oGet (eV 3) (eC (.str [117, 112]))) (.nm 16) b_q)))
def b_step : SM := (sSeq (sUnp (.tp [(.nm 4), (.nm 9), (.nm 10)]) (eTup (aCons (eOp2 oGet (eC (.str [97, 98, 99, 100, 101, 102, 122])) (eCall f_law_roll (aCons (eV 1) (aCons (eC (.int 7)) aNil)))) (aCons (eCall f_law_roll (aCons (eV 1) (aCons (eC (.int 6)) aNil))) (aCons (eOp2 oAdd (eC (.int 600000)) (eCall f_law_roll (aCons (eV 1) (aCons (eC (.int 20000)) aNil)))) aNil))))) (sSeq (sIf (tE (eOp2 oLt (eV 9) (eC (.int 2)))) b_put (sIf (tE (eOp2 oLt (eV 9) (eC (.int 4)))) b_hold b_let)) b_tail))
def b_add : SM := (sSeq (sExpr (eMeth 2 f_Holdings_add (eV 2) (aCons (eC (.int 0)) (aCons (eV 4) (aCons (eV 5) (aCons (eV 6) (aCons (eC (.str [120])) aNil))))))) (sPutDC (eOp2 oGet (eV 3) (eC (.str [117, 112]))) (eV 4) (eV 6)))
def b_round : SM := (sSeq (sUnp (.tp [(.nm 2), (.nm 3)]) (eTup (aCons (eNew (nMake 2 f_Holdings___init__ aNil)) (aCons (eNew (nDctL [((eC (.str [117, 112])), (eNew (nDctL [((eC (.str [97])), (eC .non))]))), ((eC (.str [107, 105, 110, 100, 115])), (eNew (nDct0 0))), ((eC (.str [104, 111, 108, 100, 115])), (eFrz (nLst aNil))), ((eC (.str [103, 111, 110, 101])), (eNew (nDct0 0)))])) aNil)))) (sSeq (sExpr (eMeth 2 f_Holdings_add (eV 2) (aCons (eC (.int 0)) (aCons (eC (.str [97])) (aCons (eC (.str [102, 111, 110, 100, 115])) (aCons (eC .non) (aCons (eC (.str [120])) aNil))))))) (sSeq (sFor (iE (eFrz (nLst (aCons (eTup (aCons (eC (.str [98])) (aCons (eC (.str [115, 101, 114, 105, 101, 115])) (aCons (eC (.str [97])) aNil)))) (aCons (eTup (aCons (eC (.str [99])) (aCons (eC (.str [115, 101, 114, 105, 101, 115])) (aCons (eC (.str [97])) aNil)))) (aCons (eTup (aCons (eC (.str [100])) (aCons (eC (.str [102, 105, 108, 101])) (aCons (eC (.str [98])) aNil)))) (aCons (eTup (aCons (eC (.str [101])) (aCons (eC (.str [105, 116, 101, 109])) (aCons (eC (.str [100])) aNil)))) (aCons (eTup (aCons (eC (.str [102])) (aCons (eC (.str [105, 116, 101, 109])) (aCons (eC (.str [100])) aNil)))) aNil)))))))) (.tp [(.nm 4), (.nm 5), (.nm 6)]) b_add) (sSeq (sSet 7 (eNew (nMake 0 f_Keeping___init__ (aCons (eV 2) (aCons (eFrz (nDctL [((eC (.str [115, 104, 111, 114, 116])), (eC (.int 5))), ((eC (.str [108, 111, 110, 103])), (eC (.int 40))), ((eC (.str [101, 118, 101, 114])), (eC .non))])) aNil))))) (sFor (Mir.iRng1 (eCall f_law_roll (aCons (eV 1) (aCons (eC (.int 31)) aNil)))) (.nm 8) b_step)))))
def b_end : SM := (sSeq (sSet 16 (eNew (nMake 2 f_Holdings___init__ aNil))) (sSeq (sExpr (eMeth 2 f_Holdings_add (eV 16) (aCons (eC (.int 0)) (aCons (eC (.str [97])) (aCons (eC (.str [102, 111, 110, 100, 115])) (aCons (eC .non) (aCons (eC (.str [120])) aNil))))))) (sSeq (sSet 7 (eNew (nMake 0 f_Keeping___init__ (aCons (eV 16) (aCons (eFrz (nDctL [((eC (.str [115, 104, 111, 114, 116])), (eC (.int 5)))])) aNil))))) (sBad 20 (sBadThen 23 [1, 2, 3] [65, 114, 99, 104, 105, 118, 101, 69, 114, 114, 111, 114] [(eMeth 0 f_Keeping_put (eV 7) (aCons (eC (.str [122])) (aCons (eC (.str [115, 104, 111, 114, 116])) (aCons (eC (.int 5)) aNil)))), (eMeth 0 f_Keeping_put (eV 7) (aCons (eC (.str [97])) (aCons (eC (.str [108, 111, 110, 103])) (aCons (eC (.int 5)) aNil)))), (eMeth 0 f_Keeping_hold (eV 7) (aCons (eC (.str [104])) (aCons (eC (.str [122])) aNil))), (eMeth 0 f_Keeping_free (eV 7) (aCons (eC (.str [104])) (aCons (eC (.str [97])) aNil))), (eMeth 0 f_Keeping_let_go (eV 7) (aCons (eC (.str [97])) (aCons (eC (.int 5)) aNil)))] (sRet (eAnd (eOp2 oIsN (eMeth 0 f_Keeping_ends (eV 7) (aCons (eC (.str [97])) aNil)) (eC .non)) (eOp2 oEqA (eMeth 0 f_Keeping_due (eV 7) (aCons (eC (.int 900000)) aNil)) (eTup aNil)))))))))
def b_law_cut : SM := (sSeq (sFor (iE (eCall f_law_rounds (aCons (eV 0) (aCons (eC (.int 1)) aNil)))) (.nm 1) b_round) b_end)
theorem b_law_same : b_law = b_law_cut := rfl
end K04
/-! k04: the walk (printed). -/
namespace K04
open PySem PySem.Spec PyProof.Rows L2 Mir
def top (i : Nat) : Stmt := PySem.Challenge.pw_archivestack_k04_how_long_records_are_ke.main.body.getD i (.Pass ⟨0, 0, 0, 0⟩)
/-! the walk -/
abbrev s_wall : Stmt := (top 0)
abbrev s_is_long : Stmt := (top 9)
abbrev s_month_days : Stmt := (top 10)
abbrev s_year_start : Stmt := (top 11)
abbrev s_day_of : Stmt := (top 12)
abbrev s_date_of : Stmt := (top 13)
abbrev s_years_later : Stmt := (top 14)
abbrev s_Keeping___init__ : Stmt := (inClass (top 16) 0)
abbrev s_Keeping_put : Stmt := (inClass (top 16) 1)
abbrev s_Keeping_hold : Stmt := (inClass (top 16) 2)
abbrev s_Keeping_free : Stmt := (inClass (top 16) 3)
abbrev s_Keeping_is_held : Stmt := (inClass (top 16) 4)
abbrev s_Keeping_ends : Stmt := (inClass (top 16) 5)
abbrev s_Keeping_due : Stmt := (inClass (top 16) 6)
abbrev s_Keeping_is_over : Stmt := (inClass (top 16) 7)
abbrev s_Keeping_let_go : Stmt := (inClass (top 16) 8)
abbrev s_check_mark : Stmt := (top 21)
abbrev s_Record___init__ : Stmt := (inClass (top 22) 0)
abbrev s_Holdings___init__ : Stmt := (inClass (top 23) 0)
abbrev s_Holdings_record : Stmt := (inClass (top 23) 1)
abbrev s_Holdings_note : Stmt := (inClass (top 23) 2)
abbrev s_Holdings_check_day : Stmt := (inClass (top 23) 3)
abbrev s_Holdings_check_place : Stmt := (inClass (top 23) 4)
abbrev s_Holdings_add : Stmt := (inClass (top 23) 5)
abbrev s_Holdings_siblings : Stmt := (inClass (top 23) 6)
abbrev s_Holdings_move : Stmt := (inClass (top 23) 7)
abbrev s_Holdings_line : Stmt := (inClass (top 23) 8)
abbrev s_Holdings_under : Stmt := (inClass (top 23) 9)
abbrev s_Holdings_all_marks : Stmt := (inClass (top 23) 10)
abbrev s_Holdings_signature : Stmt := (inClass (top 23) 11)
abbrev s_Holdings_found_by : Stmt := (inClass (top 23) 12)
abbrev s_Holdings_places_of : Stmt := (inClass (top 23) 13)
abbrev s_Holdings_parent_on : Stmt := (inClass (top 23) 14)
abbrev s_Holdings_line_on : Stmt := (inClass (top 23) 15)
abbrev s_law_dice : Stmt := (top 25)
abbrev s_law_roll : Stmt := (top 26)
abbrev s_law_rounds : Stmt := (top 27)
abbrev s_law_told : Stmt := (top 28)
abbrev s_law_under : Stmt := (top 29)
abbrev s_law_line : Stmt := (top 30)
abbrev s_law_over : Stmt := (top 31)
abbrev s_law : Stmt := (top 32)
/-- the table of the code object of the law -/
abbrev tbA (K : PySem.W.Frag) : Addr := Hd.tbAt K ("law", none)
def lamQ : Str := (envOfC "law" (defScope s_law) 0 0 .none).qual ++ ("<lambda>" : Str)
def gq_day_of : Str := (envOfC "day_of" (defScope s_day_of) 0 0 .none).qual ++ ("<genexpr>" : Str)
def gq_Keeping_is_held : Str := (envOfC "Keeping.is_held" (defScope s_Keeping_is_held) 0 0 .none).qual ++ ("<genexpr>" : Str)
def gq_Keeping_due : Str := (envOfC "Keeping.due" (defScope s_Keeping_due) 0 0 .none).qual ++ ("<genexpr>" : Str)
def gq_check_mark : Str := (envOfC "check_mark" (defScope s_check_mark) 0 0 .none).qual ++ ("<genexpr>" : Str)
def gg (K : PySem.W.Frag) : G where
  K := K
  ci := fun i => match i with
    | 0 => some (He.ga K "Keeping", ["holdings", "table", "kinds", "days", "holds", "gone"])
    | 1 => some (He.ga K "Record", ["mark", "level", "parent", "title", "children"])
    | 2 => some (He.ga K "Holdings", ["records", "roots", "history"])
    | _ => none
  ex := fun i => match i with
    | 0 => some (He.ga K "ArchiveError")
    | 1 => some (He.ga K "DateError")
    | 2 => some (He.ga K "TreeError")
    | 3 => some (He.ga K "AccessError")
    | _ => none
  tb := [(tbA K, lamQ), (Hd.tbAt K ("day_of", none), gq_day_of), (Hd.tbAt K ("Keeping", some "is_held"), gq_Keeping_is_held), (Hd.tbAt K ("Keeping", some "due"), gq_Keeping_due), (Hd.tbAt K ("check_mark", none), gq_check_mark)]
structure TxF (K : PySem.W.Frag) (mg : Str → Option Value) : Prop where
  n_abs : mg "abs" = none
  n_all : mg "all" = none
  n_any : mg "any" = none
  n_dict : mg "dict" = none
  n_int : mg "int" = none
  n_len : mg "len" = none
  n_list : mg "list" = none
  n_min : mg "min" = none
  n_range : mg "range" = none
  n_str : mg "str" = none
  n_sum : mg "sum" = none
  n_tuple : mg "tuple" = none
  g_Holdings : mg "Holdings" = some (.ref (He.ga K "Holdings"))
  g_Keeping : mg "Keeping" = some (.ref (He.ga K "Keeping"))
  g_Record : mg "Record" = some (.ref (He.ga K "Record"))
  g__law_dice : mg "_law_dice" = some (.ref (He.fAd K ("_law_dice", none)))
  g__law_line : mg "_law_line" = some (.ref (He.fAd K ("_law_line", none)))
  g__law_over : mg "_law_over" = some (.ref (He.fAd K ("_law_over", none)))
  g__law_roll : mg "_law_roll" = some (.ref (He.fAd K ("_law_roll", none)))
  g__law_rounds : mg "_law_rounds" = some (.ref (He.fAd K ("_law_rounds", none)))
  g__law_under : mg "_law_under" = some (.ref (He.fAd K ("_law_under", none)))
  g_check_mark : mg "check_mark" = some (.ref (He.fAd K ("check_mark", none)))
  g_date_of : mg "date_of" = some (.ref (He.fAd K ("date_of", none)))
  g_day_of : mg "day_of" = some (.ref (He.fAd K ("day_of", none)))
  g_is_long : mg "is_long" = some (.ref (He.fAd K ("is_long", none)))
  g_month_days : mg "month_days" = some (.ref (He.fAd K ("month_days", none)))
  g_year_start : mg "year_start" = some (.ref (He.fAd K ("year_start", none)))
  g_years_later : mg "years_later" = some (.ref (He.fAd K ("years_later", none)))
  k_LEVELS : Con K mg "LEVELS" c_LEVELS
  k_MONTHS : Con K mg "MONTHS" c_MONTHS
  k_SIGNS_OF_MARKS : Con K mg "SIGNS_OF_MARKS" c_SIGNS_OF_MARKS
  tbn : ((gg K).tb.map (·.1)).Nodup
  i_LAST_YEAR : ∃ t, mg "LAST_YEAR" = some (.int 3000 t)
  i_MOST_RECORDS : ∃ t, mg "MOST_RECORDS" = some (.int 2000 t)
  q_Keeping : ClsOk (gg K) 0 (He.ga K "Keeping") ["holdings", "table", "kinds", "days", "holds", "gone"]
  mk_Keeping : Mk K (He.ga K "Keeping") (He.fAd K ("Keeping", some "__init__"))
  q_Record : ClsOk (gg K) 1 (He.ga K "Record") ["mark", "level", "parent", "title", "children"]
  mk_Record : Mk K (He.ga K "Record") (He.fAd K ("Record", some "__init__"))
  q_Holdings : ClsOk (gg K) 2 (He.ga K "Holdings") ["records", "roots", "history"]
  mk_Holdings : Mk K (He.ga K "Holdings") (He.fAd K ("Holdings", some "__init__"))
  m_Holdings_add : Meth K (He.ga K "Holdings") "add" (He.fAd K ("Holdings", some "add"))
  m_Holdings_all_marks : Meth K (He.ga K "Holdings") "all_marks" (He.fAd K ("Holdings", some "all_marks"))
  m_Holdings_check_day : Meth K (He.ga K "Holdings") "check_day" (He.fAd K ("Holdings", some "check_day"))
  m_Holdings_check_place : Meth K (He.ga K "Holdings") "check_place" (He.fAd K ("Holdings", some "check_place"))
  m_Holdings_line : Meth K (He.ga K "Holdings") "line" (He.fAd K ("Holdings", some "line"))
  m_Holdings_note : Meth K (He.ga K "Holdings") "note" (He.fAd K ("Holdings", some "note"))
  m_Holdings_record : Meth K (He.ga K "Holdings") "record" (He.fAd K ("Holdings", some "record"))
  m_Holdings_siblings : Meth K (He.ga K "Holdings") "siblings" (He.fAd K ("Holdings", some "siblings"))
  m_Holdings_under : Meth K (He.ga K "Holdings") "under" (He.fAd K ("Holdings", some "under"))
  m_Keeping_due : Meth K (He.ga K "Keeping") "due" (He.fAd K ("Keeping", some "due"))
  m_Keeping_ends : Meth K (He.ga K "Keeping") "ends" (He.fAd K ("Keeping", some "ends"))
  m_Keeping_free : Meth K (He.ga K "Keeping") "free" (He.fAd K ("Keeping", some "free"))
  m_Keeping_hold : Meth K (He.ga K "Keeping") "hold" (He.fAd K ("Keeping", some "hold"))
  m_Keeping_is_held : Meth K (He.ga K "Keeping") "is_held" (He.fAd K ("Keeping", some "is_held"))
  m_Keeping_is_over : Meth K (He.ga K "Keeping") "is_over" (He.fAd K ("Keeping", some "is_over"))
  m_Keeping_let_go : Meth K (He.ga K "Keeping") "let_go" (He.fAd K ("Keeping", some "let_go"))
  m_Keeping_put : Meth K (He.ga K "Keeping") "put" (He.fAd K ("Keeping", some "put"))
  e_ArchiveError : ExcOk (gg K) mg 0 "ArchiveError" (He.ga K "ArchiveError")
  e_DateError : ExcOk (gg K) mg 1 "DateError" (He.ga K "DateError")
  e_TreeError : ExcOk (gg K) mg 2 "TreeError" (He.ga K "TreeError")
  e_AccessError : ExcOk (gg K) mg 3 "AccessError" (He.ga K "AccessError")
  g__law_told : mg "_law_told" = some (.ref (He.fAd K ("_law_told", none)))
  x_told : Caught (gg K) (He.ga K "ArchiveError") [1, 2, 3]
  g_ArchiveError : mg "ArchiveError" = some (.ref (He.ga K "ArchiveError"))
abbrev ToldOk (K : PySem.W.Frag) : Prop := ∃ fd, FunD K "_law_told" "_law_told" (defArgs s_law_told) (defBody s_law_told) (defScope s_law_told) [] [] (He.fAd K ("_law_told", none)) fd
theorem sc_law_told : FnScope ["what"] ["what"] (defScope s_law_told) := ⟨rfl, rfl, rfl, by decide +kernel, rfl, by decide +kernel, by decide +kernel⟩
theorem xTo {X : Cx} {E : XK} {ma : EM} {k : Nat} {c : Addr} {params : Arguments} {body : Expr} {scope : Scope} {p2 lpos pos : Pos} (T : TxF X.K X.mg) (D : ToldOk X.K) (TB : LamX.TabB X.base X.mg c (tbA X.K)) (hcode : X.env.code = .ref c) (hq : X.env.qual ++ ("<lambda>" : Str) = lamQ) (hr : Room (k + 2) X.A) (L : LamX.LamS X.env.scope scope) (hdef : defaultsOf params X.env = ([], []))
    (hbind : ∀ (q : Str) (cl : List (Str × Addr)) (pm cv ctv : Value), bindArgs (PySem.W.kla_fn "<lambda>" q params body scope cl pm cv ctv) ⟨[], []⟩ = pure []) (hg : Gl X "_law_told")
    (hbody : ∀ (A : Around) (outer : List PySem.Env) (s : Shared) (H : Hp) (E : XK) (f c' : Addr), Room k (A.deeper (LamX.lamEnv X scope s.heap.objs.size f c')) → PE (LamX.lamCx X A outer s H E scope f c') body (rdE (gg X.K) E ma)) :
    PE X (.Call (.Name "_law_told" p2) [.Lambda params body scope lpos] [] pos) (rdE (gg X.K) E (eTold [1, 2, 3] [65, 114, 99, 104, 105, 118, 101, 69, 114, 114, 111, 114] ma)) := by
  obtain ⟨fd, F⟩ := D
  have hb : Binds X.K fd ["what"] [] := F.bindsN fun _ _ _ _ _ _ us hl => match us, hl with | [_], _ => rfl
  exact gTold (g := gg X.K) (Ng := ["what"]) (e := "ArchiveError") F (by decide +kernel) hb sc_law_told rfl (.inl rfl) rfl T.g_ArchiveError (fun _ => rfl) rfl T.x_told hg T.g__law_told TB hcode (by rw [hq]; exact List.mem_of_getElem? (i := 0) rfl) (by rw [hq]; exact uniqT T.tbn (List.mem_of_getElem? (i := 0) rfl)) hr L hdef hbind hbody
theorem lcB {X : Cx} {k ib iF j0 j1 : Nat} {fv bv ret2 : Str} {scope2 : Scope} {ms : List EM} {p2 p3 p4 p5 p6 p7 p8 p9 pos : Pos} (T : TxF X.K X.mg) (D : ToldOk X.K) (hret2 : ret2 = toS [65, 114, 99, 104, 105, 118, 101, 69, 114, 114, 111, 114]) (calm : X.calm = true) (nod : X.N.Nodup) (hg : scope2.names.lookup ("_law_told" : Str) = some .globalImplicit) (hgR : ∀ C cl, Gl (X.blk X.s_0 X.H_0 scope2 (compEnvC scope2 cl C X.env) []) "_law_told")
    (hr : Room (k + 2) X.A) (ok : BlkOk X.N X.env.scope scope2 [(fv, iF)]) (hN : X.N[iF]? = some fv) (hv : ∀ C cl, (compEnvC scope2 cl C X.env).scope.names.lookup fv = some .local) (hNb : X.N[ib]? = some bv) (hvb : Vis X.env.scope bv)
    (na : ∀ C cl, starEach [.Name fv p3] (compEnvC scope2 cl C X.env) = (false, eval (.Name fv p3) (compEnvC scope2 cl C X.env)) :: starEach [] (compEnvC scope2 cl C X.env) := by intro _ _; rfl) (hpl : ∀ C cl, (backTo pos (starEach [] (compEnvC scope2 cl C X.env))).any (·.1) = false := by intro _ _; rfl)
    (hfd : (fv == ("__debug__" : Str)) = false := by decide +kernel) (hfc : (fv == ("__classdict__" : Str)) = false := by decide +kernel) (hbd : (bv == ("__debug__" : Str)) = false := by decide +kernel) (hbc : (bv == ("__classdict__" : Str)) = false := by decide +kernel) (hs : ∀ z, foldedSetIterable (.Name bv p4) X.env z = pure z := by intro _; rfl) :
    PE X (.ListComp (.Constant (.int 1) j0 p5) [⟨.Name fv p6, .Name bv p4, [.Compare (.Call (.Name "_law_told" p2) [.Name fv p3] [] pos) [.NotEq] [.Constant (.str ret2) j1 p7] p8], 0⟩] scope2 p9) (tBadLc X (gg X.K) k ib iF [1, 2, 3] [65, 114, 99, 104, 105, 118, 101, 69, 114, 114, 111, 114] ms) := by
  obtain ⟨fd, F⟩ := D
  have hb : Binds X.K fd ["what"] [] := F.bindsN fun _ _ _ _ _ _ us hl => match us, hl with | [_], _ => rfl
  exact lcBad (g := gg X.K) (Ng := ["what"]) (e := "ArchiveError") F (by decide +kernel) hret2 hb sc_law_told rfl (.inl rfl) rfl T.g_ArchiveError (fun _ => rfl) rfl T.x_told calm nod hg hgR T.g__law_told hr ok hN hv hNb hvb na hpl (by decide +kernel) (by decide +kernel) (by decide +kernel) (by decide +kernel) hfd hfc hbd hbc hs
section
variable {P : Program} {w : World} {K : PySem.W.Frag} {mg : Str → Option Value} {base : Heap}
abbrev N_is_long : List Str := ["year"]
theorem sc_is_long : FnScope ["year"] ["year"] (defScope s_is_long) := ⟨rfl, rfl, rfl, by decide +kernel, rfl, by decide +kernel, by decide +kernel⟩
theorem k_is_long_year : (defScope s_is_long).names.lookup ("year" : Str) = some NameKind.local := by decide +kernel
theorem w_is_long {fd : FuncData} (T : TxF K mg) (F : FunD K "is_long" "is_long" (defArgs s_is_long) (defBody s_is_long) (defScope s_is_long) [] [] (He.fAd K ("is_long", none)) fd)   : DefOk P w K mg base (gg K) 1 (He.fAd K ("is_long", none)) ["year"] f_is_long := by
  have hb : Binds K fd ["year"] [] := F.bindsN fun _ _ _ _ _ _ us hl => match us, hl with | [_], _ => rfl
  refine ⟨⟨fd, dFn F sc_is_long (by decide) fun cdv A outer s H E B hcd hr => ?_, hb⟩, F.kp⟩
  exact (qOne (qRet (dAnd (cEqA hr rfl (bMod (dV 0 (hv := (Or.inl k_is_long_year))) dInt) dInt) (dOne (dOr (cNeA hr rfl (bMod (dV 0 (hv := (Or.inl k_is_long_year))) dInt) dInt) (dOne (cEqA hr rfl (bMod (dV 0 (hv := (Or.inl k_is_long_year))) dInt) dInt)))))))
abbrev N_month_days : List Str := ["year", "month"]
theorem sc_month_days : FnScope ["year", "month"] ["year", "month"] (defScope s_month_days) := ⟨rfl, rfl, rfl, by decide +kernel, rfl, by decide +kernel, by decide +kernel⟩
theorem k_month_days_DateError : (defScope s_month_days).names.lookup ("DateError" : Str) = some NameKind.globalImplicit := by decide +kernel
theorem k_month_days_LAST_YEAR : (defScope s_month_days).names.lookup ("LAST_YEAR" : Str) = some NameKind.globalImplicit := by decide +kernel
theorem k_month_days_MONTHS : (defScope s_month_days).names.lookup ("MONTHS" : Str) = some NameKind.globalImplicit := by decide +kernel
theorem k_month_days_is_long : (defScope s_month_days).names.lookup ("is_long" : Str) = some NameKind.globalImplicit := by decide +kernel
theorem k_month_days_month : (defScope s_month_days).names.lookup ("month" : Str) = some NameKind.local := by decide +kernel
theorem k_month_days_year : (defScope s_month_days).names.lookup ("year" : Str) = some NameKind.local := by decide +kernel
theorem w_month_days {fd : FuncData} (T : TxF K mg) (F : FunD K "month_days" "month_days" (defArgs s_month_days) (defBody s_month_days) (defScope s_month_days) [] [] (He.fAd K ("month_days", none)) fd) (d_is_long : DefOk P w K mg base (gg K) 1 (He.fAd K ("is_long", none)) ["year"] f_is_long)  : DefOk P w K mg base (gg K) 2 (He.fAd K ("month_days", none)) ["year", "month"] f_month_days := by
  have hb : Binds K fd ["year", "month"] [] := F.bindsN fun _ _ _ _ _ _ us hl => match us, hl with | [_, _], _ => rfl
  refine ⟨⟨fd, dFn F sc_month_days (by decide) fun cdv A outer s H E B hcd hr => ?_, hb⟩, F.kp⟩
  exact (qSeq (qIf (PW.pt (wOr (dTnot (tLeLe dInt (dV 0 (hv := (Or.inl k_month_days_year))) (gInt T.i_LAST_YEAR k_month_days_LAST_YEAR))) (wOr1 (dTnot (tLeLe dInt (dV 1 (hv := (Or.inl k_month_days_month))) dInt)))))
 (qOne (gRaise T.e_DateError rfl rfl (takes_of rfl rfl rfl rfl) k_month_days_DateError))
 qNil)
 (qOne (qRet (dIf (PW.pt (wAnd (tEqA hr rfl (dV 1 (hv := (Or.inl k_month_days_month))) dInt) (wAnd1 (dTru (gCall d_is_long hr (by decide) k_month_days_is_long T.g_is_long pF (aK (dV 0 (hv := (Or.inl k_month_days_year))) aN) (lenS len0)) rfl)))) dInt (gSub hr rfl (gCon rfl T.k_MONTHS k_month_days_MONTHS) (bSub (dV 1 (hv := (Or.inl k_month_days_month))) dInt))))))
abbrev N_year_start : List Str := ["year", "before"]
theorem sc_year_start : FnScope ["year", "before"] ["year"] (defScope s_year_start) := ⟨rfl, rfl, rfl, by decide +kernel, rfl, by decide +kernel, by decide +kernel⟩
theorem k_year_start_before : (defScope s_year_start).names.lookup ("before" : Str) = some NameKind.local := by decide +kernel
theorem k_year_start_year : (defScope s_year_start).names.lookup ("year" : Str) = some NameKind.local := by decide +kernel
theorem w_year_start {fd : FuncData} (T : TxF K mg) (F : FunD K "year_start" "year_start" (defArgs s_year_start) (defBody s_year_start) (defScope s_year_start) [] [] (He.fAd K ("year_start", none)) fd)   : DefOk P w K mg base (gg K) 1 (He.fAd K ("year_start", none)) ["year"] f_year_start := by
  have hb : Binds K fd ["year"] [] := F.bindsN fun _ _ _ _ _ _ us hl => match us, hl with | [_], _ => rfl
  refine ⟨⟨fd, dFn F sc_year_start (by decide) fun cdv A outer s H E B hcd hr => ?_, hb⟩, F.kp⟩
  exact (qSeq (qSet (i := 1) sc_year_start.nd rfl (Or.inl k_year_start_before) (bSub (dV 0 (hv := (Or.inl k_year_start_year))) dInt))
 (qOne (qRet (bAdd (bSub (bAdd (bMul dInt (dV 1 (hv := (Or.inl k_year_start_before)))) (bFdiv (dV 1 (hv := (Or.inl k_year_start_before))) dInt)) (bFdiv (dV 1 (hv := (Or.inl k_year_start_before))) dInt)) (bFdiv (dV 1 (hv := (Or.inl k_year_start_before))) dInt)))))
abbrev N_day_of : List Str := ["year", "month", "day", "one"]
theorem sc_day_of : FnScope ["year", "month", "day", "one"] ["year", "month", "day"] (defScope s_day_of) := ⟨rfl, rfl, rfl, by decide +kernel, rfl, by decide +kernel, by decide +kernel⟩
theorem k_day_of_DateError : (defScope s_day_of).names.lookup ("DateError" : Str) = some NameKind.globalImplicit := by decide +kernel
theorem k_day_of_day : (defScope s_day_of).names.lookup ("day" : Str) = some NameKind.local := by decide +kernel
theorem k_day_of_month : (defScope s_day_of).names.lookup ("month" : Str) = some NameKind.local := by decide +kernel
theorem k_day_of_month_days : (defScope s_day_of).names.lookup ("month_days" : Str) = some NameKind.globalImplicit := by decide +kernel
theorem k_day_of_range : (defScope s_day_of).names.lookup ("range" : Str) = some NameKind.globalImplicit := by decide +kernel
theorem k_day_of_sum : (defScope s_day_of).names.lookup ("sum" : Str) = some NameKind.globalImplicit := by decide +kernel
theorem k_day_of_year : (defScope s_day_of).names.lookup ("year" : Str) = some NameKind.cell := by decide +kernel
theorem k_day_of_year_start : (defScope s_day_of).names.lookup ("year_start" : Str) = some NameKind.globalImplicit := by decide +kernel
theorem w_day_of {fd : FuncData} (T : TxF K mg) (F : FunD K "day_of" "day_of" (defArgs s_day_of) (defBody s_day_of) (defScope s_day_of) [] [] (He.fAd K ("day_of", none)) fd) (d_month_days : DefOk P w K mg base (gg K) 2 (He.fAd K ("month_days", none)) ["year", "month"] f_month_days) (d_year_start : DefOk P w K mg base (gg K) 1 (He.fAd K ("year_start", none)) ["year"] f_year_start) {c : Addr} (TB : LamX.TabB base mg c (Hd.tbAt K ("day_of", none))) (hc : fd.code = .ref c) : DefOk P w K mg base (gg K) 5 (He.fAd K ("day_of", none)) ["year", "month", "day"] f_day_of := by
  have hb : Binds K fd ["year", "month", "day"] [] := F.bindsN fun _ _ _ _ _ _ us hl => match us, hl with | [_, _, _], _ => rfl
  refine ⟨⟨fd, dFn F sc_day_of (by decide) fun cdv A outer s H E B hcd hr => ?_, hb⟩, F.kp⟩
  exact (qSeq (qIf (dTnot (tLeLe dInt (dV 2 (hv := (Or.inl k_day_of_day))) (gCall d_month_days hr (by decide) k_day_of_month_days T.g_month_days pF (aK (dV 0 (hv := (Or.inr (Or.inl k_day_of_year)))) (aK (dV 1 (hv := (Or.inl k_day_of_month))) aN)) (lenS (lenS len0)))))
 (qOne (gRaise T.e_DateError rfl rfl (takes_of rfl rfl rfl rfl) k_day_of_DateError))
 qNil)
 (qOne (qRet (bSub (bAdd (bAdd (gCall d_year_start hr (by decide) k_day_of_year_start T.g_year_start pF (aK (dV 0 (hv := (Or.inr (Or.inl k_day_of_year)))) aN) (lenS len0)) (gSumG (genOk0 (k := 2) (cc := c) (P := Hd.tbAt K ("day_of", none)) (E' := fun _ _ _ => False) (own := [("one", 3)]) sc_day_of.nd TB (hcd.symm.trans hc) T.tbn (by exact List.mem_of_getElem? (i := 1) rfl) (by exact GX.geS_by (N := N_day_of) (sc := defScope s_day_of) (own := [("one", 3)]) (by decide +kernel)) (by exact (wR2 k_day_of_range T.n_range dInt (dV 1 (hv := (Or.inl k_day_of_month))))) (by decide) tgN (by exact fun _ _ _ _ _ _ => (pg_name (i := 3) sc_day_of.nd rfl (Or.inl rfl) (.inr rfl))) (by exact fun _ _ _ _ _ _ hr2 => (gCall d_month_days hr2 (by decide) rfl T.g_month_days (pB rfl rfl) (aK (dV 0 (hv := (Or.inr (Or.inr rfl)))) (aK (dV 3 (hv := (Or.inl rfl))) aN)) (lenS (lenS len0))))) hr k_day_of_sum T.n_sum)) (dV 2 (hv := (Or.inl k_day_of_day)))) dInt))))
abbrev N_date_of : List Str := ["number", "year", "left", "month"]
theorem sc_date_of : FnScope ["number", "year", "left", "month"] ["number"] (defScope s_date_of) := ⟨rfl, rfl, rfl, by decide +kernel, rfl, by decide +kernel, by decide +kernel⟩
theorem k_date_of_DateError : (defScope s_date_of).names.lookup ("DateError" : Str) = some NameKind.globalImplicit := by decide +kernel
theorem k_date_of_LAST_YEAR : (defScope s_date_of).names.lookup ("LAST_YEAR" : Str) = some NameKind.globalImplicit := by decide +kernel
theorem k_date_of_left : (defScope s_date_of).names.lookup ("left" : Str) = some NameKind.local := by decide +kernel
theorem k_date_of_month : (defScope s_date_of).names.lookup ("month" : Str) = some NameKind.local := by decide +kernel
theorem k_date_of_month_days : (defScope s_date_of).names.lookup ("month_days" : Str) = some NameKind.globalImplicit := by decide +kernel
theorem k_date_of_number : (defScope s_date_of).names.lookup ("number" : Str) = some NameKind.local := by decide +kernel
theorem k_date_of_year : (defScope s_date_of).names.lookup ("year" : Str) = some NameKind.local := by decide +kernel
theorem k_date_of_year_start : (defScope s_date_of).names.lookup ("year_start" : Str) = some NameKind.globalImplicit := by decide +kernel
theorem w_date_of {fd : FuncData} (T : TxF K mg) (F : FunD K "date_of" "date_of" (defArgs s_date_of) (defBody s_date_of) (defScope s_date_of) [] [] (He.fAd K ("date_of", none)) fd) (d_month_days : DefOk P w K mg base (gg K) 2 (He.fAd K ("month_days", none)) ["year", "month"] f_month_days) (d_year_start : DefOk P w K mg base (gg K) 1 (He.fAd K ("year_start", none)) ["year"] f_year_start)  : DefOk P w K mg base (gg K) 3 (He.fAd K ("date_of", none)) ["number"] f_date_of := by
  have hb : Binds K fd ["number"] [] := F.bindsN fun _ _ _ _ _ _ us hl => match us, hl with | [_], _ => rfl
  refine ⟨⟨fd, dFn F sc_date_of (by decide) fun cdv A outer s H E B hcd hr => ?_, hb⟩, F.kp⟩
  exact (qSeq (qIf (dTnot (tLeLt dInt (dV 0 (hv := (Or.inl k_date_of_number))) (gCall d_year_start hr (by decide) k_date_of_year_start T.g_year_start pF (aK (bAdd (gInt T.i_LAST_YEAR k_date_of_LAST_YEAR) dInt) aN) (lenS len0))))
 (qOne (gRaise T.e_DateError rfl rfl (takes_of rfl rfl rfl rfl) k_date_of_DateError))
 qNil)
 (qSeq (qSet (i := 1) sc_date_of.nd rfl (Or.inl k_date_of_year) (bAdd (bFdiv (dV 0 (hv := (Or.inl k_date_of_number))) dInt) dInt))
 (qSeq (qWhile (passes_of rfl) (PW.pt (wAnd (tLt (dV 1 (hv := (Or.inl k_date_of_year))) (gInt T.i_LAST_YEAR k_date_of_LAST_YEAR)) (wAnd1 (tLtE (gCall d_year_start hr (by decide) k_date_of_year_start T.g_year_start pF (aK (bAdd (dV 1 (hv := (Or.inl k_date_of_year))) dInt) aN) (lenS len0)) (dV 0 (hv := (Or.inl k_date_of_number)))))))
 (qOne (gAug (i := 1) iAdd sAdd sc_date_of.nd rfl (Or.inl k_date_of_year) dInt)))
 (qSeq (gPar (i := 2) (j := 3) rfl sc_date_of.nd rfl rfl (by decide) k_date_of_left k_date_of_month (srcV (bSub (dV 0 (hv := (Or.inl k_date_of_number))) (gCall d_year_start hr (by decide) k_date_of_year_start T.g_year_start pF (aK (dV 1 (hv := (Or.inl k_date_of_year))) aN) (lenS len0)))) (srcV dInt))
 (qSeq (qWhile (passes_of rfl) (tGtE (dV 2 (hv := (Or.inl k_date_of_left))) (gCall d_month_days hr (by decide) k_date_of_month_days T.g_month_days pF (aK (dV 1 (hv := (Or.inl k_date_of_year))) (aK (dV 3 (hv := (Or.inl k_date_of_month))) aN)) (lenS (lenS len0))))
 (qSeq (gAug (i := 2) iSub sSub sc_date_of.nd rfl (Or.inl k_date_of_left) (gCall d_month_days hr (by decide) k_date_of_month_days T.g_month_days pF (aK (dV 1 (hv := (Or.inl k_date_of_year))) (aK (dV 3 (hv := (Or.inl k_date_of_month))) aN)) (lenS (lenS len0))))
 (qOne (gAug (i := 3) iAdd sAdd sc_date_of.nd rfl (Or.inl k_date_of_month) dInt))))
 (qOne (qRet (xTup (aK (dV 1 (hv := (Or.inl k_date_of_year))) (aK (dV 3 (hv := (Or.inl k_date_of_month))) (aK (bAdd (dV 2 (hv := (Or.inl k_date_of_left))) dInt) aN)))))))))))
abbrev N_years_later : List Str := ["number", "years", "year", "month", "day"]
theorem sc_years_later : FnScope ["number", "years", "year", "month", "day"] ["number", "years"] (defScope s_years_later) := ⟨rfl, rfl, rfl, by decide +kernel, rfl, by decide +kernel, by decide +kernel⟩
theorem k_years_later_DateError : (defScope s_years_later).names.lookup ("DateError" : Str) = some NameKind.globalImplicit := by decide +kernel
theorem k_years_later_LAST_YEAR : (defScope s_years_later).names.lookup ("LAST_YEAR" : Str) = some NameKind.globalImplicit := by decide +kernel
theorem k_years_later_date_of : (defScope s_years_later).names.lookup ("date_of" : Str) = some NameKind.globalImplicit := by decide +kernel
theorem k_years_later_day : (defScope s_years_later).names.lookup ("day" : Str) = some NameKind.local := by decide +kernel
theorem k_years_later_day_of : (defScope s_years_later).names.lookup ("day_of" : Str) = some NameKind.globalImplicit := by decide +kernel
theorem k_years_later_min : (defScope s_years_later).names.lookup ("min" : Str) = some NameKind.globalImplicit := by decide +kernel
theorem k_years_later_month : (defScope s_years_later).names.lookup ("month" : Str) = some NameKind.local := by decide +kernel
theorem k_years_later_month_days : (defScope s_years_later).names.lookup ("month_days" : Str) = some NameKind.globalImplicit := by decide +kernel
theorem k_years_later_number : (defScope s_years_later).names.lookup ("number" : Str) = some NameKind.local := by decide +kernel
theorem k_years_later_year : (defScope s_years_later).names.lookup ("year" : Str) = some NameKind.local := by decide +kernel
theorem k_years_later_years : (defScope s_years_later).names.lookup ("years" : Str) = some NameKind.local := by decide +kernel
theorem w_years_later {fd : FuncData} (T : TxF K mg) (F : FunD K "years_later" "years_later" (defArgs s_years_later) (defBody s_years_later) (defScope s_years_later) [] [] (He.fAd K ("years_later", none)) fd) (d_month_days : DefOk P w K mg base (gg K) 2 (He.fAd K ("month_days", none)) ["year", "month"] f_month_days) (d_day_of : DefOk P w K mg base (gg K) 5 (He.fAd K ("day_of", none)) ["year", "month", "day"] f_day_of) (d_date_of : DefOk P w K mg base (gg K) 3 (He.fAd K ("date_of", none)) ["number"] f_date_of)  : DefOk P w K mg base (gg K) 6 (He.fAd K ("years_later", none)) ["number", "years"] f_years_later := by
  have hb : Binds K fd ["number", "years"] [] := F.bindsN fun _ _ _ _ _ _ us hl => match us, hl with | [_, _], _ => rfl
  refine ⟨⟨fd, dFn F sc_years_later (by decide) fun cdv A outer s H E B hcd hr => ?_, hb⟩, F.kp⟩
  exact (qSeq (gUnp (gCall d_date_of hr (by decide) k_years_later_date_of T.g_date_of pF (aK (dV 0 (hv := (Or.inl k_years_later_number))) aN) (lenS len0)) (pg_tup rfl (pgs_cons (pg_name (i := 2) sc_years_later.nd rfl (Or.inl k_years_later_year) (.inl rfl)) (pgs_cons (pg_name (i := 3) sc_years_later.nd rfl (Or.inl k_years_later_month) (.inl rfl)) (pgs_cons (pg_name (i := 4) sc_years_later.nd rfl (Or.inl k_years_later_day) (.inl rfl)) pgs_nil)))) (tgT (tgsC tgN (tgsC tgN (tgsC tgN tgsN))) rfl))
 (qSeq (qIf (dTnot (tLeLe dInt (bAdd (dV 2 (hv := (Or.inl k_years_later_year))) (dV 1 (hv := (Or.inl k_years_later_years)))) (gInt T.i_LAST_YEAR k_years_later_LAST_YEAR)))
 (qOne (gRaise T.e_DateError rfl rfl (takes_of rfl rfl rfl rfl) k_years_later_DateError))
 qNil)
 (qOne (qRet (gCall d_day_of hr (by decide) k_years_later_day_of T.g_day_of pF (aK (bAdd (dV 2 (hv := (Or.inl k_years_later_year))) (dV 1 (hv := (Or.inl k_years_later_years)))) (aK (dV 3 (hv := (Or.inl k_years_later_month))) (aK (kMin2 k_years_later_min T.n_min rfl (aK (dV 4 (hv := (Or.inl k_years_later_day))) (aK (gCall d_month_days hr (by decide) k_years_later_month_days T.g_month_days pF (aK (bAdd (dV 2 (hv := (Or.inl k_years_later_year))) (dV 1 (hv := (Or.inl k_years_later_years)))) (aK (dV 3 (hv := (Or.inl k_years_later_month))) aN)) (lenS (lenS len0))) aN))) aN))) (lenS (lenS (lenS len0))))))))
abbrev N_Keeping___init__ : List Str := ["self", "holdings", "table"]
theorem sc_Keeping___init__ : FnScope ["self", "holdings", "table"] ["self", "holdings", "table"] (defScope s_Keeping___init__) := ⟨rfl, rfl, rfl, by decide +kernel, rfl, by decide +kernel, by decide +kernel⟩
theorem k_Keeping___init___dict : (defScope s_Keeping___init__).names.lookup ("dict" : Str) = some NameKind.globalImplicit := by decide +kernel
theorem k_Keeping___init___holdings : (defScope s_Keeping___init__).names.lookup ("holdings" : Str) = some NameKind.local := by decide +kernel
theorem k_Keeping___init___self : (defScope s_Keeping___init__).names.lookup ("self" : Str) = some NameKind.local := by decide +kernel
theorem k_Keeping___init___table : (defScope s_Keeping___init__).names.lookup ("table" : Str) = some NameKind.local := by decide +kernel
theorem w_Keeping___init__ {fd : FuncData} (T : TxF K mg) (F : FunD K "__init__" "Keeping.__init__" (defArgs s_Keeping___init__) (defBody s_Keeping___init__) (defScope s_Keeping___init__) [] [] (He.fAd K ("Keeping", some "__init__")) fd)   : InitOk P w K mg base (gg K) 0 1 (He.fAd K ("Keeping", some "__init__")) ["self", "holdings", "table"] f_Keeping___init__ := by
  have hb : Binds K fd ["self", "holdings", "table"] [] := F.bindsN fun _ _ _ _ _ _ us hl => match us, hl with | [_, _, _], _ => rfl
  refine ⟨⟨fd, dInit T.q_Keeping.hc F sc_Keeping___init__ (by decide) (by decide) fun cdv A outer s H E B hr => ?_, hb⟩⟩
  exact (qSeq (gSetFldV (j := 0) T.q_Keeping rfl rfl (pv 0 (hv := (Or.inl k_Keeping___init___self))) (dV 1 (hv := (Or.inl k_Keeping___init___holdings))))
 (qSeq (gSetFldV (j := 1) T.q_Keeping rfl rfl (pv 0 (hv := (Or.inl k_Keeping___init___self))) (xFrz (kDictC k_Keeping___init___dict T.n_dict (aK (dV 2 (hv := (Or.inl k_Keeping___init___table))) aN))))
 (qSeq (gSetFldV (j := 2) T.q_Keeping rfl rfl (pv 0 (hv := (Or.inl k_Keeping___init___self))) (xNew yDct0))
 (qSeq (gSetFldV (j := 3) T.q_Keeping rfl rfl (pv 0 (hv := (Or.inl k_Keeping___init___self))) (xNew yDct0))
 (qSeq (gSetFldV (j := 4) T.q_Keeping rfl rfl (pv 0 (hv := (Or.inl k_Keeping___init___self))) (xNew (yLst aN)))
 (qOne (gSetFldV (j := 5) T.q_Keeping rfl rfl (pv 0 (hv := (Or.inl k_Keeping___init___self))) (xNew yDct0))))))))
abbrev N_Holdings_record : List Str := ["self", "mark"]
theorem sc_Holdings_record : FnScope ["self", "mark"] ["self", "mark"] (defScope s_Holdings_record) := ⟨rfl, rfl, rfl, by decide +kernel, rfl, by decide +kernel, by decide +kernel⟩
theorem k_Holdings_record_TreeError : (defScope s_Holdings_record).names.lookup ("TreeError" : Str) = some NameKind.globalImplicit := by decide +kernel
theorem k_Holdings_record_mark : (defScope s_Holdings_record).names.lookup ("mark" : Str) = some NameKind.local := by decide +kernel
theorem k_Holdings_record_self : (defScope s_Holdings_record).names.lookup ("self" : Str) = some NameKind.local := by decide +kernel
theorem w_Holdings_record {fd : FuncData} (T : TxF K mg) (F : FunD K "record" "Holdings.record" (defArgs s_Holdings_record) (defBody s_Holdings_record) (defScope s_Holdings_record) [] [] (He.fAd K ("Holdings", some "record")) fd)   : DefOk P w K mg base (gg K) 1 (He.fAd K ("Holdings", some "record")) ["self", "mark"] f_Holdings_record := by
  have hb : Binds K fd ["self", "mark"] [] := F.bindsN fun _ _ _ _ _ _ us hl => match us, hl with | [_, _], _ => rfl
  refine ⟨⟨fd, dFn F sc_Holdings_record (by decide) fun cdv A outer s H E B hcd hr => ?_, hb⟩, F.kp⟩
  exact (qSeq (qIf (tNotIn hr rfl (dV 1 (hv := (Or.inl k_Holdings_record_mark))) (gFld T.q_Holdings rfl (j := 0) rfl (dV 0 (hv := (Or.inl k_Holdings_record_self)))))
 (qOne (gRaise T.e_TreeError rfl rfl (takes_of rfl rfl rfl rfl) k_Holdings_record_TreeError))
 qNil)
 (qOne (qRet (gSub hr rfl (gFld T.q_Holdings rfl (j := 0) rfl (dV 0 (hv := (Or.inl k_Holdings_record_self)))) (dV 1 (hv := (Or.inl k_Holdings_record_mark)))))))
abbrev N_Keeping_put : List Str := ["self", "mark", "kind", "last"]
theorem sc_Keeping_put : FnScope ["self", "mark", "kind", "last"] ["self", "mark", "kind", "last"] (defScope s_Keeping_put) := ⟨rfl, rfl, rfl, by decide +kernel, rfl, by decide +kernel, by decide +kernel⟩
theorem k_Keeping_put_AccessError : (defScope s_Keeping_put).names.lookup ("AccessError" : Str) = some NameKind.globalImplicit := by decide +kernel
theorem k_Keeping_put_kind : (defScope s_Keeping_put).names.lookup ("kind" : Str) = some NameKind.local := by decide +kernel
theorem k_Keeping_put_last : (defScope s_Keeping_put).names.lookup ("last" : Str) = some NameKind.local := by decide +kernel
theorem k_Keeping_put_mark : (defScope s_Keeping_put).names.lookup ("mark" : Str) = some NameKind.local := by decide +kernel
theorem k_Keeping_put_self : (defScope s_Keeping_put).names.lookup ("self" : Str) = some NameKind.local := by decide +kernel
theorem w_Keeping_put {fd : FuncData} (T : TxF K mg) (F : FunD K "put" "Keeping.put" (defArgs s_Keeping_put) (defBody s_Keeping_put) (defScope s_Keeping_put) [] [] (He.fAd K ("Keeping", some "put")) fd) (d_Holdings_record : DefOk P w K mg base (gg K) 1 (He.fAd K ("Holdings", some "record")) ["self", "mark"] f_Holdings_record)  : DefOk P w K mg base (gg K) 2 (He.fAd K ("Keeping", some "put")) ["self", "mark", "kind", "last"] f_Keeping_put := by
  have hb : Binds K fd ["self", "mark", "kind", "last"] [] := F.bindsN fun _ _ _ _ _ _ us hl => match us, hl with | [_, _, _, _], _ => rfl
  refine ⟨⟨fd, dFn F sc_Keeping_put (by decide) fun cdv A outer s H E B hcd hr => ?_, hb⟩, F.kp⟩
  exact (qSeq (qExpr (gMeth T.q_Holdings rfl T.m_Holdings_record d_Holdings_record (by decide +kernel) hr (by decide) pF (gFld T.q_Keeping rfl (j := 0) rfl (dV 0 (hv := (Or.inl k_Keeping_put_self)))) (aK (dV 1 (hv := (Or.inl k_Keeping_put_mark))) aN) (lenS len0) rfl))
 (qSeq (qIf (tNotIn hr rfl (dV 2 (hv := (Or.inl k_Keeping_put_kind))) (gFld T.q_Keeping rfl (j := 1) rfl (dV 0 (hv := (Or.inl k_Keeping_put_self)))))
 (qOne (gRaise T.e_AccessError rfl rfl (takes_of rfl rfl rfl rfl) k_Keeping_put_AccessError))
 qNil)
 (qSeq (gPutDC hr (gFld T.q_Keeping rfl (j := 2) rfl (dV 0 (hv := (Or.inl k_Keeping_put_self)))) (dV 1 (hv := (Or.inl k_Keeping_put_mark))) (dV 2 (hv := (Or.inl k_Keeping_put_kind))))
 (qOne (gPutDC hr (gFld T.q_Keeping rfl (j := 3) rfl (dV 0 (hv := (Or.inl k_Keeping_put_self)))) (dV 1 (hv := (Or.inl k_Keeping_put_mark))) (dV 3 (hv := (Or.inl k_Keeping_put_last))))))))
abbrev N_Keeping_hold : List Str := ["self", "name", "mark"]
theorem sc_Keeping_hold : FnScope ["self", "name", "mark"] ["self", "name", "mark"] (defScope s_Keeping_hold) := ⟨rfl, rfl, rfl, by decide +kernel, rfl, by decide +kernel, by decide +kernel⟩
theorem k_Keeping_hold_AccessError : (defScope s_Keeping_hold).names.lookup ("AccessError" : Str) = some NameKind.globalImplicit := by decide +kernel
theorem k_Keeping_hold_mark : (defScope s_Keeping_hold).names.lookup ("mark" : Str) = some NameKind.local := by decide +kernel
theorem k_Keeping_hold_name : (defScope s_Keeping_hold).names.lookup ("name" : Str) = some NameKind.local := by decide +kernel
theorem k_Keeping_hold_self : (defScope s_Keeping_hold).names.lookup ("self" : Str) = some NameKind.local := by decide +kernel
theorem w_Keeping_hold {fd : FuncData} (T : TxF K mg) (F : FunD K "hold" "Keeping.hold" (defArgs s_Keeping_hold) (defBody s_Keeping_hold) (defScope s_Keeping_hold) [] [] (He.fAd K ("Keeping", some "hold")) fd) (d_Holdings_record : DefOk P w K mg base (gg K) 1 (He.fAd K ("Holdings", some "record")) ["self", "mark"] f_Holdings_record)  : DefOk P w K mg base (gg K) 2 (He.fAd K ("Keeping", some "hold")) ["self", "name", "mark"] f_Keeping_hold := by
  have hb : Binds K fd ["self", "name", "mark"] [] := F.bindsN fun _ _ _ _ _ _ us hl => match us, hl with | [_, _, _], _ => rfl
  refine ⟨⟨fd, dFn F sc_Keeping_hold (by decide) fun cdv A outer s H E B hcd hr => ?_, hb⟩, F.kp⟩
  exact (qSeq (qExpr (gMeth T.q_Holdings rfl T.m_Holdings_record d_Holdings_record (by decide +kernel) hr (by decide) pF (gFld T.q_Keeping rfl (j := 0) rfl (dV 0 (hv := (Or.inl k_Keeping_hold_self)))) (aK (dV 2 (hv := (Or.inl k_Keeping_hold_mark))) aN) (lenS len0) rfl))
 (qSeq (qIf (tIn hr rfl (xTup (aK (dV 1 (hv := (Or.inl k_Keeping_hold_name))) (aK (dV 2 (hv := (Or.inl k_Keeping_hold_mark))) aN))) (gFld T.q_Keeping rfl (j := 4) rfl (dV 0 (hv := (Or.inl k_Keeping_hold_self)))))
 (qOne (gRaise T.e_AccessError rfl rfl (takes_of rfl rfl rfl rfl) k_Keeping_hold_AccessError))
 qNil)
 (qOne (gAppC (gFld T.q_Keeping rfl (j := 4) rfl (dV 0 (hv := (Or.inl k_Keeping_hold_self)))) (xTup (aK (dV 1 (hv := (Or.inl k_Keeping_hold_name))) (aK (dV 2 (hv := (Or.inl k_Keeping_hold_mark))) aN)))))))
abbrev N_Keeping_free : List Str := ["self", "name", "mark"]
theorem sc_Keeping_free : FnScope ["self", "name", "mark"] ["self", "name", "mark"] (defScope s_Keeping_free) := ⟨rfl, rfl, rfl, by decide +kernel, rfl, by decide +kernel, by decide +kernel⟩
theorem k_Keeping_free_AccessError : (defScope s_Keeping_free).names.lookup ("AccessError" : Str) = some NameKind.globalImplicit := by decide +kernel
theorem k_Keeping_free_mark : (defScope s_Keeping_free).names.lookup ("mark" : Str) = some NameKind.local := by decide +kernel
theorem k_Keeping_free_name : (defScope s_Keeping_free).names.lookup ("name" : Str) = some NameKind.local := by decide +kernel
theorem k_Keeping_free_self : (defScope s_Keeping_free).names.lookup ("self" : Str) = some NameKind.local := by decide +kernel
theorem w_Keeping_free {fd : FuncData} (T : TxF K mg) (F : FunD K "free" "Keeping.free" (defArgs s_Keeping_free) (defBody s_Keeping_free) (defScope s_Keeping_free) [] [] (He.fAd K ("Keeping", some "free")) fd)   : DefOk P w K mg base (gg K) 1 (He.fAd K ("Keeping", some "free")) ["self", "name", "mark"] f_Keeping_free := by
  have hb : Binds K fd ["self", "name", "mark"] [] := F.bindsN fun _ _ _ _ _ _ us hl => match us, hl with | [_, _, _], _ => rfl
  refine ⟨⟨fd, dFn F sc_Keeping_free (by decide) fun cdv A outer s H E B hcd hr => ?_, hb⟩, F.kp⟩
  exact (qSeq (qIf (tNotIn hr rfl (xTup (aK (dV 1 (hv := (Or.inl k_Keeping_free_name))) (aK (dV 2 (hv := (Or.inl k_Keeping_free_mark))) aN))) (gFld T.q_Keeping rfl (j := 4) rfl (dV 0 (hv := (Or.inl k_Keeping_free_self)))))
 (qOne (gRaise T.e_AccessError rfl rfl (takes_of rfl rfl rfl rfl) k_Keeping_free_AccessError))
 qNil)
 (qOne (qExpr (gRemC hr rfl (gFld T.q_Keeping rfl (j := 4) rfl (dV 0 (hv := (Or.inl k_Keeping_free_self)))) (xTup (aK (dV 1 (hv := (Or.inl k_Keeping_free_name))) (aK (dV 2 (hv := (Or.inl k_Keeping_free_mark))) aN)))))))
abbrev N_Holdings_line : List Str := ["self", "mark", "found"]
theorem sc_Holdings_line : FnScope ["self", "mark", "found"] ["self", "mark"] (defScope s_Holdings_line) := ⟨rfl, rfl, rfl, by decide +kernel, rfl, by decide +kernel, by decide +kernel⟩
theorem k_Holdings_line_found : (defScope s_Holdings_line).names.lookup ("found" : Str) = some NameKind.local := by decide +kernel
theorem k_Holdings_line_mark : (defScope s_Holdings_line).names.lookup ("mark" : Str) = some NameKind.local := by decide +kernel
theorem k_Holdings_line_self : (defScope s_Holdings_line).names.lookup ("self" : Str) = some NameKind.local := by decide +kernel
theorem k_Holdings_line_tuple : (defScope s_Holdings_line).names.lookup ("tuple" : Str) = some NameKind.globalImplicit := by decide +kernel
theorem w_Holdings_line {fd : FuncData} (T : TxF K mg) (F : FunD K "line" "Holdings.line" (defArgs s_Holdings_line) (defBody s_Holdings_line) (defScope s_Holdings_line) [] [] (He.fAd K ("Holdings", some "line")) fd) (d_Holdings_record : DefOk P w K mg base (gg K) 1 (He.fAd K ("Holdings", some "record")) ["self", "mark"] f_Holdings_record)  : DefOk P w K mg base (gg K) 2 (He.fAd K ("Holdings", some "line")) ["self", "mark"] f_Holdings_line := by
  have hb : Binds K fd ["self", "mark"] [] := F.bindsN fun _ _ _ _ _ _ us hl => match us, hl with | [_, _], _ => rfl
  refine ⟨⟨fd, dFn F sc_Holdings_line (by decide) fun cdv A outer s H E B hcd hr => ?_, hb⟩, F.kp⟩
  exact (qSeq (qOwn (i := 2) sc_Holdings_line.nd rfl (Or.inl k_Holdings_line_found) (yLst aN))
 (qSeq (qWhile (passes_of rfl) (tIsNot (dV 1 (hv := (Or.inl k_Holdings_line_mark))) dNon)
 (qSeq (gAppV (i := 2) (pv 2 (hv := (Or.inl k_Holdings_line_found))) (dV 1 (hv := (Or.inl k_Holdings_line_mark))))
 (qOne (qSet (i := 1) sc_Holdings_line.nd rfl (Or.inl k_Holdings_line_mark) (gFld T.q_Record rfl (j := 2) rfl (gMeth T.q_Holdings rfl T.m_Holdings_record d_Holdings_record (by decide +kernel) hr (by decide) pF (dV 0 (hv := (Or.inl k_Holdings_line_self))) (aK (dV 1 (hv := (Or.inl k_Holdings_line_mark))) aN) (lenS len0) rfl))))))
 (qOne (qRet (kTuple k_Holdings_line_tuple T.n_tuple rfl (aK (dV 2 (hv := (Or.inl k_Holdings_line_found))) aN))))))
abbrev N_Keeping_is_held : List Str := ["self", "mark", "line", "name", "one"]
theorem sc_Keeping_is_held : FnScope ["self", "mark", "line", "name", "one"] ["self", "mark"] (defScope s_Keeping_is_held) := ⟨rfl, rfl, rfl, by decide +kernel, rfl, by decide +kernel, by decide +kernel⟩
theorem k_Keeping_is_held_any : (defScope s_Keeping_is_held).names.lookup ("any" : Str) = some NameKind.globalImplicit := by decide +kernel
theorem k_Keeping_is_held_line : (defScope s_Keeping_is_held).names.lookup ("line" : Str) = some NameKind.cell := by decide +kernel
theorem k_Keeping_is_held_mark : (defScope s_Keeping_is_held).names.lookup ("mark" : Str) = some NameKind.local := by decide +kernel
theorem k_Keeping_is_held_self : (defScope s_Keeping_is_held).names.lookup ("self" : Str) = some NameKind.local := by decide +kernel
theorem w_Keeping_is_held {fd : FuncData} (T : TxF K mg) (F : FunD K "is_held" "Keeping.is_held" (defArgs s_Keeping_is_held) (defBody s_Keeping_is_held) (defScope s_Keeping_is_held) [] [] (He.fAd K ("Keeping", some "is_held")) fd) (d_Holdings_line : DefOk P w K mg base (gg K) 2 (He.fAd K ("Holdings", some "line")) ["self", "mark"] f_Holdings_line) {c : Addr} (TB : LamX.TabB base mg c (Hd.tbAt K ("Keeping", some "is_held"))) (hc : fd.code = .ref c) : DefOk P w K mg base (gg K) 5 (He.fAd K ("Keeping", some "is_held")) ["self", "mark"] f_Keeping_is_held := by
  have hb : Binds K fd ["self", "mark"] [] := F.bindsN fun _ _ _ _ _ _ us hl => match us, hl with | [_, _], _ => rfl
  refine ⟨⟨fd, dFn F sc_Keeping_is_held (by decide) fun cdv A outer s H E B hcd hr => ?_, hb⟩, F.kp⟩
  exact (qSeq (qSet (i := 2) sc_Keeping_is_held.nd rfl (Or.inr k_Keeping_is_held_line) (gMeth T.q_Holdings rfl T.m_Holdings_line d_Holdings_line (by decide +kernel) hr (by decide) pF (gFld T.q_Keeping rfl (j := 0) rfl (dV 0 (hv := (Or.inl k_Keeping_is_held_self)))) (aK (dV 1 (hv := (Or.inl k_Keeping_is_held_mark))) aN) (lenS len0) rfl))
 (qOne (qRet (gAny (genOk0 (k := 2) (cc := c) (P := Hd.tbAt K ("Keeping", some "is_held")) (E' := fun _ _ _ => False) (own := [("name", 3), ("one", 4)]) sc_Keeping_is_held.nd TB (hcd.symm.trans hc) T.tbn (by exact List.mem_of_getElem? (i := 2) rfl) (by exact GX.geS_by (N := N_Keeping_is_held) (sc := defScope s_Keeping_is_held) (own := [("name", 3), ("one", 4)]) (by decide +kernel)) (by exact (wE rfl (gFld T.q_Keeping rfl (j := 4) rfl (dV 0 (hv := (Or.inl k_Keeping_is_held_self)))))) (by decide) (tgT (tgsC tgN (tgsC tgN tgsN)) rfl) (by exact fun _ _ _ _ _ _ => (pg_tup rfl (pgs_cons (pg_name (i := 3) sc_Keeping_is_held.nd rfl (Or.inl rfl) (.inr rfl)) (pgs_cons (pg_name (i := 4) sc_Keeping_is_held.nd rfl (Or.inl rfl) (.inr rfl)) pgs_nil)))) (by exact fun _ _ _ _ _ _ hr2 => (cIn hr2 rfl (dV 4 (hv := (Or.inl rfl))) (dV 2 (hv := (Or.inr (Or.inr rfl))))))) hr k_Keeping_is_held_any T.n_any))))
abbrev N_Keeping_ends : List Str := ["self", "mark"]
theorem sc_Keeping_ends : FnScope ["self", "mark"] ["self", "mark"] (defScope s_Keeping_ends) := ⟨rfl, rfl, rfl, by decide +kernel, rfl, by decide +kernel, by decide +kernel⟩
theorem k_Keeping_ends_mark : (defScope s_Keeping_ends).names.lookup ("mark" : Str) = some NameKind.local := by decide +kernel
theorem k_Keeping_ends_self : (defScope s_Keeping_ends).names.lookup ("self" : Str) = some NameKind.local := by decide +kernel
theorem k_Keeping_ends_years_later : (defScope s_Keeping_ends).names.lookup ("years_later" : Str) = some NameKind.globalImplicit := by decide +kernel
theorem w_Keeping_ends {fd : FuncData} (T : TxF K mg) (F : FunD K "ends" "Keeping.ends" (defArgs s_Keeping_ends) (defBody s_Keeping_ends) (defScope s_Keeping_ends) [] [] (He.fAd K ("Keeping", some "ends")) fd) (d_years_later : DefOk P w K mg base (gg K) 6 (He.fAd K ("years_later", none)) ["number", "years"] f_years_later)  : DefOk P w K mg base (gg K) 7 (He.fAd K ("Keeping", some "ends")) ["self", "mark"] f_Keeping_ends := by
  have hb : Binds K fd ["self", "mark"] [] := F.bindsN fun _ _ _ _ _ _ us hl => match us, hl with | [_, _], _ => rfl
  refine ⟨⟨fd, dFn F sc_Keeping_ends (by decide) fun cdv A outer s H E B hcd hr => ?_, hb⟩, F.kp⟩
  exact (qSeq (qIf (PW.pt (wOr (tNotIn hr rfl (dV 1 (hv := (Or.inl k_Keeping_ends_mark))) (gFld T.q_Keeping rfl (j := 2) rfl (dV 0 (hv := (Or.inl k_Keeping_ends_self))))) (wOr1 (tIs (gSub hr rfl (gFld T.q_Keeping rfl (j := 1) rfl (dV 0 (hv := (Or.inl k_Keeping_ends_self)))) (gSub hr rfl (gFld T.q_Keeping rfl (j := 2) rfl (dV 0 (hv := (Or.inl k_Keeping_ends_self)))) (dV 1 (hv := (Or.inl k_Keeping_ends_mark))))) dNon))))
 (qOne (qRet dNon))
 qNil)
 (qOne (qRet (gCall d_years_later hr (by decide) k_Keeping_ends_years_later T.g_years_later pF (aK (gSub hr rfl (gFld T.q_Keeping rfl (j := 3) rfl (dV 0 (hv := (Or.inl k_Keeping_ends_self)))) (dV 1 (hv := (Or.inl k_Keeping_ends_mark)))) (aK (gSub hr rfl (gFld T.q_Keeping rfl (j := 1) rfl (dV 0 (hv := (Or.inl k_Keeping_ends_self)))) (gSub hr rfl (gFld T.q_Keeping rfl (j := 2) rfl (dV 0 (hv := (Or.inl k_Keeping_ends_self)))) (dV 1 (hv := (Or.inl k_Keeping_ends_mark))))) aN)) (lenS (lenS len0))))))
abbrev N_Holdings_under : List Str := ["self", "mark", "found", "left", "here"]
theorem sc_Holdings_under : FnScope ["self", "mark", "found", "left", "here"] ["self", "mark"] (defScope s_Holdings_under) := ⟨rfl, rfl, rfl, by decide +kernel, rfl, by decide +kernel, by decide +kernel⟩
theorem k_Holdings_under_found : (defScope s_Holdings_under).names.lookup ("found" : Str) = some NameKind.local := by decide +kernel
theorem k_Holdings_under_here : (defScope s_Holdings_under).names.lookup ("here" : Str) = some NameKind.local := by decide +kernel
theorem k_Holdings_under_left : (defScope s_Holdings_under).names.lookup ("left" : Str) = some NameKind.local := by decide +kernel
theorem k_Holdings_under_mark : (defScope s_Holdings_under).names.lookup ("mark" : Str) = some NameKind.local := by decide +kernel
theorem k_Holdings_under_self : (defScope s_Holdings_under).names.lookup ("self" : Str) = some NameKind.local := by decide +kernel
theorem k_Holdings_under_tuple : (defScope s_Holdings_under).names.lookup ("tuple" : Str) = some NameKind.globalImplicit := by decide +kernel
theorem w_Holdings_under {fd : FuncData} (T : TxF K mg) (F : FunD K "under" "Holdings.under" (defArgs s_Holdings_under) (defBody s_Holdings_under) (defScope s_Holdings_under) [] [] (He.fAd K ("Holdings", some "under")) fd) (d_Holdings_record : DefOk P w K mg base (gg K) 1 (He.fAd K ("Holdings", some "record")) ["self", "mark"] f_Holdings_record)  : DefOk P w K mg base (gg K) 2 (He.fAd K ("Holdings", some "under")) ["self", "mark"] f_Holdings_under := by
  have hb : Binds K fd ["self", "mark"] [] := F.bindsN fun _ _ _ _ _ _ us hl => match us, hl with | [_, _], _ => rfl
  refine ⟨⟨fd, dFn F sc_Holdings_under (by decide) fun cdv A outer s H E B hcd hr => ?_, hb⟩, F.kp⟩
  exact (qSeq (gPar (i := 2) (j := 3) rfl sc_Holdings_under.nd rfl rfl (by decide) k_Holdings_under_found k_Holdings_under_left (srcO (yLst aN)) (srcO (yLst (aK (dV 1 (hv := (Or.inl k_Holdings_under_mark))) aN))))
 (qSeq (qExpr (gMeth T.q_Holdings rfl T.m_Holdings_record d_Holdings_record (by decide +kernel) hr (by decide) pF (dV 0 (hv := (Or.inl k_Holdings_under_self))) (aK (dV 1 (hv := (Or.inl k_Holdings_under_mark))) aN) (lenS len0) rfl))
 (qSeq (qWhile (passes_of rfl) (tNeA hr rfl (dV 3 (hv := (Or.inl k_Holdings_under_left))) (xFrz (yLst aN)))
 (qSeq (gPopV (i := 4) (j := 3) sc_Holdings_under.nd rfl (Or.inl k_Holdings_under_here) (pv 3 (hv := (Or.inl k_Holdings_under_left))))
 (qSeq (gAppV (i := 2) (pv 2 (hv := (Or.inl k_Holdings_under_found))) (dV 4 (hv := (Or.inl k_Holdings_under_here))))
 (qOne (gExtV (i := 3) sc_Holdings_under.nd rfl (Or.inl k_Holdings_under_left) (xFrz (yRev rfl (gFld T.q_Record rfl (j := 4) rfl (gMeth T.q_Holdings rfl T.m_Holdings_record d_Holdings_record (by decide +kernel) hr (by decide) pF (dV 0 (hv := (Or.inl k_Holdings_under_self))) (aK (dV 4 (hv := (Or.inl k_Holdings_under_here))) aN) (lenS len0) rfl)))))))))
 (qOne (qRet (kTuple k_Holdings_under_tuple T.n_tuple rfl (aK (dV 2 (hv := (Or.inl k_Holdings_under_found))) aN)))))))
abbrev N_Holdings_all_marks : List Str := ["self", "found", "root"]
theorem sc_Holdings_all_marks : FnScope ["self", "found", "root"] ["self"] (defScope s_Holdings_all_marks) := ⟨rfl, rfl, rfl, by decide +kernel, rfl, by decide +kernel, by decide +kernel⟩
theorem k_Holdings_all_marks_found : (defScope s_Holdings_all_marks).names.lookup ("found" : Str) = some NameKind.local := by decide +kernel
theorem k_Holdings_all_marks_root : (defScope s_Holdings_all_marks).names.lookup ("root" : Str) = some NameKind.local := by decide +kernel
theorem k_Holdings_all_marks_self : (defScope s_Holdings_all_marks).names.lookup ("self" : Str) = some NameKind.local := by decide +kernel
theorem k_Holdings_all_marks_tuple : (defScope s_Holdings_all_marks).names.lookup ("tuple" : Str) = some NameKind.globalImplicit := by decide +kernel
theorem w_Holdings_all_marks {fd : FuncData} (T : TxF K mg) (F : FunD K "all_marks" "Holdings.all_marks" (defArgs s_Holdings_all_marks) (defBody s_Holdings_all_marks) (defScope s_Holdings_all_marks) [] [] (He.fAd K ("Holdings", some "all_marks")) fd) (d_Holdings_under : DefOk P w K mg base (gg K) 2 (He.fAd K ("Holdings", some "under")) ["self", "mark"] f_Holdings_under)  : DefOk P w K mg base (gg K) 3 (He.fAd K ("Holdings", some "all_marks")) ["self"] f_Holdings_all_marks := by
  have hb : Binds K fd ["self"] [] := F.bindsN fun _ _ _ _ _ _ us hl => match us, hl with | [_], _ => rfl
  refine ⟨⟨fd, dFn F sc_Holdings_all_marks (by decide) fun cdv A outer s H E B hcd hr => ?_, hb⟩, F.kp⟩
  exact (qSeq (qOwn (i := 1) sc_Holdings_all_marks.nd rfl (Or.inl k_Holdings_all_marks_found) (yLst aN))
 (qSeq (qFor (passes_of rfl) rfl (wE rfl (gFld T.q_Holdings rfl (j := 1) rfl (dV 0 (hv := (Or.inl k_Holdings_all_marks_self))))) (pg_name (i := 2) sc_Holdings_all_marks.nd rfl (Or.inl k_Holdings_all_marks_root) (.inl rfl)) tgN
 (qOne (gExtV (i := 1) sc_Holdings_all_marks.nd rfl (Or.inl k_Holdings_all_marks_found) (gMeth T.q_Holdings rfl T.m_Holdings_under d_Holdings_under (by decide +kernel) hr (by decide) pF (dV 0 (hv := (Or.inl k_Holdings_all_marks_self))) (aK (dV 2 (hv := (Or.inl k_Holdings_all_marks_root))) aN) (lenS len0) rfl))))
 (qOne (qRet (kTuple k_Holdings_all_marks_tuple T.n_tuple rfl (aK (dV 1 (hv := (Or.inl k_Holdings_all_marks_found))) aN))))))
abbrev N_Keeping_is_over : List Str := ["self", "mark", "day", "end"]
theorem sc_Keeping_is_over : FnScope ["self", "mark", "day", "end"] ["self", "mark", "day"] (defScope s_Keeping_is_over) := ⟨rfl, rfl, rfl, by decide +kernel, rfl, by decide +kernel, by decide +kernel⟩
theorem k_Keeping_is_over_day : (defScope s_Keeping_is_over).names.lookup ("day" : Str) = some NameKind.local := by decide +kernel
theorem k_Keeping_is_over_end : (defScope s_Keeping_is_over).names.lookup ("end" : Str) = some NameKind.local := by decide +kernel
theorem k_Keeping_is_over_mark : (defScope s_Keeping_is_over).names.lookup ("mark" : Str) = some NameKind.local := by decide +kernel
theorem k_Keeping_is_over_self : (defScope s_Keeping_is_over).names.lookup ("self" : Str) = some NameKind.local := by decide +kernel
theorem w_Keeping_is_over {fd : FuncData} (T : TxF K mg) (F : FunD K "is_over" "Keeping.is_over" (defArgs s_Keeping_is_over) (defBody s_Keeping_is_over) (defScope s_Keeping_is_over) [] [] (He.fAd K ("Keeping", some "is_over")) fd) (d_Keeping_is_held : DefOk P w K mg base (gg K) 5 (He.fAd K ("Keeping", some "is_held")) ["self", "mark"] f_Keeping_is_held) (d_Keeping_ends : DefOk P w K mg base (gg K) 7 (He.fAd K ("Keeping", some "ends")) ["self", "mark"] f_Keeping_ends)  : DefOk P w K mg base (gg K) 8 (He.fAd K ("Keeping", some "is_over")) ["self", "mark", "day"] f_Keeping_is_over := by
  have hb : Binds K fd ["self", "mark", "day"] [] := F.bindsN fun _ _ _ _ _ _ us hl => match us, hl with | [_, _, _], _ => rfl
  refine ⟨⟨fd, dFn F sc_Keeping_is_over (by decide) fun cdv A outer s H E B hcd hr => ?_, hb⟩, F.kp⟩
  exact (qSeq (qIf (tIn hr rfl (dV 1 (hv := (Or.inl k_Keeping_is_over_mark))) (gFld T.q_Keeping rfl (j := 5) rfl (dV 0 (hv := (Or.inl k_Keeping_is_over_self)))))
 (qOne (qRet dBl))
 qNil)
 (qSeq (qSet (i := 3) sc_Keeping_is_over.nd rfl (Or.inl k_Keeping_is_over_end) (gMeth T.q_Keeping rfl T.m_Keeping_ends d_Keeping_ends (by decide +kernel) hr (by decide) pF (dV 0 (hv := (Or.inl k_Keeping_is_over_self))) (aK (dV 1 (hv := (Or.inl k_Keeping_is_over_mark))) aN) (lenS len0) rfl))
 (qOne (qRet (dAnd (cIsNot (dV 3 (hv := (Or.inl k_Keeping_is_over_end))) dNon) (dAnd (cLtE (dV 3 (hv := (Or.inl k_Keeping_is_over_end))) (dV 2 (hv := (Or.inl k_Keeping_is_over_day)))) (dOne (dNot (gMeth T.q_Keeping rfl T.m_Keeping_is_held d_Keeping_is_held (by decide +kernel) hr (by decide) pF (dV 0 (hv := (Or.inl k_Keeping_is_over_self))) (aK (dV 1 (hv := (Or.inl k_Keeping_is_over_mark))) aN) (lenS len0) rfl)))))))))
abbrev N_Keeping_due : List Str := ["self", "day", "found", "mark", "one"]
theorem sc_Keeping_due : FnScope ["self", "day", "found", "mark", "one"] ["self", "day"] (defScope s_Keeping_due) := ⟨rfl, rfl, rfl, by decide +kernel, rfl, by decide +kernel, by decide +kernel⟩
theorem k_Keeping_due_all : (defScope s_Keeping_due).names.lookup ("all" : Str) = some NameKind.globalImplicit := by decide +kernel
theorem k_Keeping_due_found : (defScope s_Keeping_due).names.lookup ("found" : Str) = some NameKind.local := by decide +kernel
theorem k_Keeping_due_mark : (defScope s_Keeping_due).names.lookup ("mark" : Str) = some NameKind.local := by decide +kernel
theorem k_Keeping_due_self : (defScope s_Keeping_due).names.lookup ("self" : Str) = some NameKind.cell := by decide +kernel
theorem k_Keeping_due_tuple : (defScope s_Keeping_due).names.lookup ("tuple" : Str) = some NameKind.globalImplicit := by decide +kernel
theorem w_Keeping_due {fd : FuncData} (T : TxF K mg) (F : FunD K "due" "Keeping.due" (defArgs s_Keeping_due) (defBody s_Keeping_due) (defScope s_Keeping_due) [] [] (He.fAd K ("Keeping", some "due")) fd) (d_Holdings_under : DefOk P w K mg base (gg K) 2 (He.fAd K ("Holdings", some "under")) ["self", "mark"] f_Holdings_under) (d_Holdings_all_marks : DefOk P w K mg base (gg K) 3 (He.fAd K ("Holdings", some "all_marks")) ["self"] f_Holdings_all_marks) (d_Keeping_is_over : DefOk P w K mg base (gg K) 8 (He.fAd K ("Keeping", some "is_over")) ["self", "mark", "day"] f_Keeping_is_over) {c : Addr} (TB : LamX.TabB base mg c (Hd.tbAt K ("Keeping", some "due"))) (hc : fd.code = .ref c) : DefOk P w K mg base (gg K) 11 (He.fAd K ("Keeping", some "due")) ["self", "day"] f_Keeping_due := by
  have hb : Binds K fd ["self", "day"] [] := F.bindsN fun _ _ _ _ _ _ us hl => match us, hl with | [_, _], _ => rfl
  refine ⟨⟨fd, dFn F sc_Keeping_due (by decide) fun cdv A outer s H E B hcd hr => ?_, hb⟩, F.kp⟩
  exact (qSeq (qOwn (i := 2) sc_Keeping_due.nd rfl (Or.inl k_Keeping_due_found) (yLst aN))
 (qSeq (qFor (passes_of rfl) rfl (wE rfl (gMeth0 T.q_Holdings rfl T.m_Holdings_all_marks d_Holdings_all_marks (by decide +kernel) hr (by decide) pF (gFld T.q_Keeping rfl (j := 0) rfl (dV 0 (hv := (Or.inr (Or.inl k_Keeping_due_self))))) rfl)) (pg_name (i := 3) sc_Keeping_due.nd rfl (Or.inl k_Keeping_due_mark) (.inl rfl)) tgN
 (qOne (qIf (PW.pt (wAnd (tNotIn hr rfl (dV 3 (hv := (Or.inl k_Keeping_due_mark))) (gFld T.q_Keeping rfl (j := 5) rfl (dV 0 (hv := (Or.inr (Or.inl k_Keeping_due_self)))))) (wAnd1 (dTru (gAll (genOk0 (k := 8) (cc := c) (P := Hd.tbAt K ("Keeping", some "due")) (E' := fun _ _ _ => False) (own := [("one", 4)]) sc_Keeping_due.nd TB (hcd.symm.trans hc) T.tbn (by exact List.mem_of_getElem? (i := 3) rfl) (by exact GX.geS_by (N := N_Keeping_due) (sc := defScope s_Keeping_due) (own := [("one", 4)]) (by decide +kernel)) (by exact (wE rfl (gMeth T.q_Holdings rfl T.m_Holdings_under d_Holdings_under (by decide +kernel) hr (by decide) pF (gFld T.q_Keeping rfl (j := 0) rfl (dV 0 (hv := (Or.inr (Or.inl k_Keeping_due_self))))) (aK (dV 3 (hv := (Or.inl k_Keeping_due_mark))) aN) (lenS len0) rfl))) (by decide) tgN (by exact fun _ _ _ _ _ _ => (pg_name (i := 4) sc_Keeping_due.nd rfl (Or.inl rfl) (.inr rfl))) (by exact fun _ _ _ _ _ _ hr2 => (gMeth T.q_Keeping rfl T.m_Keeping_is_over d_Keeping_is_over (by decide +kernel) hr2 (by decide) (pB rfl rfl) (dV 0 (hv := (Or.inr (Or.inr rfl)))) (aK (dV 4 (hv := (Or.inl rfl))) (aK (dV 1 (hv := (Or.inr (Or.inr rfl)))) aN)) (lenS (lenS len0)) rfl))) hr k_Keeping_due_all T.n_all) rfl))))
 (qOne (gAppV (i := 2) (pv 2 (hv := (Or.inl k_Keeping_due_found))) (dV 3 (hv := (Or.inl k_Keeping_due_mark)))))
 qNil)))
 (qOne (qRet (kTuple k_Keeping_due_tuple T.n_tuple rfl (aK (dV 2 (hv := (Or.inl k_Keeping_due_found))) aN))))))
abbrev N_Keeping_let_go : List Str := ["self", "mark", "day", "one"]
theorem sc_Keeping_let_go : FnScope ["self", "mark", "day", "one"] ["self", "mark", "day"] (defScope s_Keeping_let_go) := ⟨rfl, rfl, rfl, by decide +kernel, rfl, by decide +kernel, by decide +kernel⟩
theorem k_Keeping_let_go_AccessError : (defScope s_Keeping_let_go).names.lookup ("AccessError" : Str) = some NameKind.globalImplicit := by decide +kernel
theorem k_Keeping_let_go_day : (defScope s_Keeping_let_go).names.lookup ("day" : Str) = some NameKind.local := by decide +kernel
theorem k_Keeping_let_go_mark : (defScope s_Keeping_let_go).names.lookup ("mark" : Str) = some NameKind.local := by decide +kernel
theorem k_Keeping_let_go_one : (defScope s_Keeping_let_go).names.lookup ("one" : Str) = some NameKind.local := by decide +kernel
theorem k_Keeping_let_go_self : (defScope s_Keeping_let_go).names.lookup ("self" : Str) = some NameKind.local := by decide +kernel
theorem w_Keeping_let_go {fd : FuncData} (T : TxF K mg) (F : FunD K "let_go" "Keeping.let_go" (defArgs s_Keeping_let_go) (defBody s_Keeping_let_go) (defScope s_Keeping_let_go) [] [] (He.fAd K ("Keeping", some "let_go")) fd) (d_Holdings_under : DefOk P w K mg base (gg K) 2 (He.fAd K ("Holdings", some "under")) ["self", "mark"] f_Holdings_under) (d_Keeping_due : DefOk P w K mg base (gg K) 11 (He.fAd K ("Keeping", some "due")) ["self", "day"] f_Keeping_due)  : DefOk P w K mg base (gg K) 12 (He.fAd K ("Keeping", some "let_go")) ["self", "mark", "day"] f_Keeping_let_go := by
  have hb : Binds K fd ["self", "mark", "day"] [] := F.bindsN fun _ _ _ _ _ _ us hl => match us, hl with | [_, _, _], _ => rfl
  refine ⟨⟨fd, dFn F sc_Keeping_let_go (by decide) fun cdv A outer s H E B hcd hr => ?_, hb⟩, F.kp⟩
  exact (qSeq (qIf (tNotIn hr rfl (dV 1 (hv := (Or.inl k_Keeping_let_go_mark))) (gMeth T.q_Keeping rfl T.m_Keeping_due d_Keeping_due (by decide +kernel) hr (by decide) pF (dV 0 (hv := (Or.inl k_Keeping_let_go_self))) (aK (dV 2 (hv := (Or.inl k_Keeping_let_go_day))) aN) (lenS len0) rfl))
 (qOne (gRaise T.e_AccessError rfl rfl (takes_of rfl rfl rfl rfl) k_Keeping_let_go_AccessError))
 qNil)
 (qOne (qFor (passes_of rfl) rfl (wE rfl (gMeth T.q_Holdings rfl T.m_Holdings_under d_Holdings_under (by decide +kernel) hr (by decide) pF (gFld T.q_Keeping rfl (j := 0) rfl (dV 0 (hv := (Or.inl k_Keeping_let_go_self)))) (aK (dV 1 (hv := (Or.inl k_Keeping_let_go_mark))) aN) (lenS len0) rfl)) (pg_name (i := 3) sc_Keeping_let_go.nd rfl (Or.inl k_Keeping_let_go_one) (.inl rfl)) tgN
 (qOne (qExpr (gSetdV (gFld T.q_Keeping rfl (j := 5) rfl (dV 0 (hv := (Or.inl k_Keeping_let_go_self)))) (dV 3 (hv := (Or.inl k_Keeping_let_go_one))) (dV 2 (hv := (Or.inl k_Keeping_let_go_day))) ⟨rfl, rfl, rfl, rfl⟩))))))
abbrev N_check_mark : List Str := ["mark", "sign"]
theorem sc_check_mark : FnScope ["mark", "sign"] ["mark"] (defScope s_check_mark) := ⟨rfl, rfl, rfl, by decide +kernel, rfl, by decide +kernel, by decide +kernel⟩
theorem k_check_mark_TreeError : (defScope s_check_mark).names.lookup ("TreeError" : Str) = some NameKind.globalImplicit := by decide +kernel
theorem k_check_mark_any : (defScope s_check_mark).names.lookup ("any" : Str) = some NameKind.globalImplicit := by decide +kernel
theorem k_check_mark_len : (defScope s_check_mark).names.lookup ("len" : Str) = some NameKind.globalImplicit := by decide +kernel
theorem k_check_mark_mark : (defScope s_check_mark).names.lookup ("mark" : Str) = some NameKind.local := by decide +kernel
theorem w_check_mark {fd : FuncData} (T : TxF K mg) (F : FunD K "check_mark" "check_mark" (defArgs s_check_mark) (defBody s_check_mark) (defScope s_check_mark) [] [] (He.fAd K ("check_mark", none)) fd)  {c : Addr} (TB : LamX.TabB base mg c (Hd.tbAt K ("check_mark", none))) (hc : fd.code = .ref c) : DefOk P w K mg base (gg K) 3 (He.fAd K ("check_mark", none)) ["mark"] f_check_mark := by
  have hb : Binds K fd ["mark"] [] := F.bindsN fun _ _ _ _ _ _ us hl => match us, hl with | [_], _ => rfl
  refine ⟨⟨fd, dFn F sc_check_mark (by decide) fun cdv A outer s H E B hcd hr => ?_, hb⟩, F.kp⟩
  exact (qOne (qIf (PW.pt (wOr (dTnot (tLtLe dInt (kLenA k_check_mark_len T.n_len rfl (aK (dV 0 (hv := (Or.inl k_check_mark_mark))) aN)) dInt)) (wOr1 (dTru (gAny (genOk0 (k := 0) (cc := c) (P := Hd.tbAt K ("check_mark", none)) (E' := fun _ _ _ => False) (own := [("sign", 1)]) sc_check_mark.nd TB (hcd.symm.trans hc) T.tbn (by exact List.mem_of_getElem? (i := 4) rfl) (by exact GX.geS_by (N := N_check_mark) (sc := defScope s_check_mark) (own := [("sign", 1)]) (by decide +kernel)) (by exact (wE rfl (dV 0 (hv := (Or.inl k_check_mark_mark))))) (by decide) tgN (by exact fun _ _ _ _ _ _ => (pg_name (i := 1) sc_check_mark.nd rfl (Or.inl rfl) (.inr rfl))) (by exact fun _ _ _ _ _ _ hr2 => (cNotIn hr2 rfl (dV 1 (hv := (Or.inl rfl))) (gCon rfl T.k_SIGNS_OF_MARKS rfl)))) hr k_check_mark_any T.n_any) rfl))))
 (qOne (gRaise T.e_TreeError rfl rfl (takes_of rfl rfl rfl rfl) k_check_mark_TreeError))
 qNil))
abbrev N_Record___init__ : List Str := ["self", "mark", "level", "parent", "title"]
theorem sc_Record___init__ : FnScope ["self", "mark", "level", "parent", "title"] ["self", "mark", "level", "parent", "title"] (defScope s_Record___init__) := ⟨rfl, rfl, rfl, by decide +kernel, rfl, by decide +kernel, by decide +kernel⟩
theorem k_Record___init___level : (defScope s_Record___init__).names.lookup ("level" : Str) = some NameKind.local := by decide +kernel
theorem k_Record___init___mark : (defScope s_Record___init__).names.lookup ("mark" : Str) = some NameKind.local := by decide +kernel
theorem k_Record___init___parent : (defScope s_Record___init__).names.lookup ("parent" : Str) = some NameKind.local := by decide +kernel
theorem k_Record___init___self : (defScope s_Record___init__).names.lookup ("self" : Str) = some NameKind.local := by decide +kernel
theorem k_Record___init___title : (defScope s_Record___init__).names.lookup ("title" : Str) = some NameKind.local := by decide +kernel
theorem w_Record___init__ {fd : FuncData} (T : TxF K mg) (F : FunD K "__init__" "Record.__init__" (defArgs s_Record___init__) (defBody s_Record___init__) (defScope s_Record___init__) [] [] (He.fAd K ("Record", some "__init__")) fd)   : InitOk P w K mg base (gg K) 1 1 (He.fAd K ("Record", some "__init__")) ["self", "mark", "level", "parent", "title"] f_Record___init__ := by
  have hb : Binds K fd ["self", "mark", "level", "parent", "title"] [] := F.bindsN fun _ _ _ _ _ _ us hl => match us, hl with | [_, _, _, _, _], _ => rfl
  refine ⟨⟨fd, dInit T.q_Record.hc F sc_Record___init__ (by decide) (by decide) fun cdv A outer s H E B hr => ?_, hb⟩⟩
  exact (qSeq (gSetFldV (j := 0) T.q_Record rfl rfl (pv 0 (hv := (Or.inl k_Record___init___self))) (dV 1 (hv := (Or.inl k_Record___init___mark))))
 (qSeq (gSetFldV (j := 1) T.q_Record rfl rfl (pv 0 (hv := (Or.inl k_Record___init___self))) (dV 2 (hv := (Or.inl k_Record___init___level))))
 (qSeq (gSetFldV (j := 2) T.q_Record rfl rfl (pv 0 (hv := (Or.inl k_Record___init___self))) (dV 3 (hv := (Or.inl k_Record___init___parent))))
 (qSeq (gSetFldV (j := 3) T.q_Record rfl rfl (pv 0 (hv := (Or.inl k_Record___init___self))) (dV 4 (hv := (Or.inl k_Record___init___title))))
 (qOne (gSetFldV (j := 4) T.q_Record rfl rfl (pv 0 (hv := (Or.inl k_Record___init___self))) (xNew (yLst aN))))))))
abbrev N_Holdings___init__ : List Str := ["self"]
theorem sc_Holdings___init__ : FnScope ["self"] ["self"] (defScope s_Holdings___init__) := ⟨rfl, rfl, rfl, by decide +kernel, rfl, by decide +kernel, by decide +kernel⟩
theorem k_Holdings___init___self : (defScope s_Holdings___init__).names.lookup ("self" : Str) = some NameKind.local := by decide +kernel
theorem w_Holdings___init__ {fd : FuncData} (T : TxF K mg) (F : FunD K "__init__" "Holdings.__init__" (defArgs s_Holdings___init__) (defBody s_Holdings___init__) (defScope s_Holdings___init__) [] [] (He.fAd K ("Holdings", some "__init__")) fd)   : InitOk P w K mg base (gg K) 2 1 (He.fAd K ("Holdings", some "__init__")) ["self"] f_Holdings___init__ := by
  have hb : Binds K fd ["self"] [] := F.bindsN fun _ _ _ _ _ _ us hl => match us, hl with | [_], _ => rfl
  refine ⟨⟨fd, dInit T.q_Holdings.hc F sc_Holdings___init__ (by decide) (by decide) fun cdv A outer s H E B hr => ?_, hb⟩⟩
  exact (qSeq (gSetFldV (j := 0) T.q_Holdings rfl rfl (pv 0 (hv := (Or.inl k_Holdings___init___self))) (xNew yDct0))
 (qSeq (gSetFldV (j := 1) T.q_Holdings rfl rfl (pv 0 (hv := (Or.inl k_Holdings___init___self))) (xNew (yLst aN)))
 (qOne (gSetFldV (j := 2) T.q_Holdings rfl rfl (pv 0 (hv := (Or.inl k_Holdings___init___self))) (xNew (yLst aN))))))
abbrev N_Holdings_check_day : List Str := ["self", "day"]
theorem sc_Holdings_check_day : FnScope ["self", "day"] ["self", "day"] (defScope s_Holdings_check_day) := ⟨rfl, rfl, rfl, by decide +kernel, rfl, by decide +kernel, by decide +kernel⟩
theorem k_Holdings_check_day_TreeError : (defScope s_Holdings_check_day).names.lookup ("TreeError" : Str) = some NameKind.globalImplicit := by decide +kernel
theorem k_Holdings_check_day_day : (defScope s_Holdings_check_day).names.lookup ("day" : Str) = some NameKind.local := by decide +kernel
theorem k_Holdings_check_day_self : (defScope s_Holdings_check_day).names.lookup ("self" : Str) = some NameKind.local := by decide +kernel
theorem w_Holdings_check_day {fd : FuncData} (T : TxF K mg) (F : FunD K "check_day" "Holdings.check_day" (defArgs s_Holdings_check_day) (defBody s_Holdings_check_day) (defScope s_Holdings_check_day) [] [] (He.fAd K ("Holdings", some "check_day")) fd)   : DefOk P w K mg base (gg K) 1 (He.fAd K ("Holdings", some "check_day")) ["self", "day"] f_Holdings_check_day := by
  have hb : Binds K fd ["self", "day"] [] := F.bindsN fun _ _ _ _ _ _ us hl => match us, hl with | [_, _], _ => rfl
  refine ⟨⟨fd, dFn F sc_Holdings_check_day (by decide) fun cdv A outer s H E B hcd hr => ?_, hb⟩, F.kp⟩
  exact (qOne (qIf (PW.pt (wAnd (tNeA hr rfl (gFld T.q_Holdings rfl (j := 2) rfl (dV 0 (hv := (Or.inl k_Holdings_check_day_self)))) (xFrz (yLst aN))) (wAnd1 (tLt (dV 1 (hv := (Or.inl k_Holdings_check_day_day))) (gSub hr rfl (gSub hr rfl (gFld T.q_Holdings rfl (j := 2) rfl (dV 0 (hv := (Or.inl k_Holdings_check_day_self)))) (bNeg dInt)) dInt)))))
 (qOne (gRaise T.e_TreeError rfl rfl (takes_of rfl rfl rfl rfl) k_Holdings_check_day_TreeError))
 qNil))
abbrev N_Holdings_note : List Str := ["self", "day", "deed", "mark", "start", "end"]
theorem sc_Holdings_note : FnScope ["self", "day", "deed", "mark", "start", "end"] ["self", "day", "deed", "mark", "start", "end"] (defScope s_Holdings_note) := ⟨rfl, rfl, rfl, by decide +kernel, rfl, by decide +kernel, by decide +kernel⟩
theorem k_Holdings_note_day : (defScope s_Holdings_note).names.lookup ("day" : Str) = some NameKind.local := by decide +kernel
theorem k_Holdings_note_deed : (defScope s_Holdings_note).names.lookup ("deed" : Str) = some NameKind.local := by decide +kernel
theorem k_Holdings_note_end : (defScope s_Holdings_note).names.lookup ("end" : Str) = some NameKind.local := by decide +kernel
theorem k_Holdings_note_mark : (defScope s_Holdings_note).names.lookup ("mark" : Str) = some NameKind.local := by decide +kernel
theorem k_Holdings_note_self : (defScope s_Holdings_note).names.lookup ("self" : Str) = some NameKind.local := by decide +kernel
theorem k_Holdings_note_start : (defScope s_Holdings_note).names.lookup ("start" : Str) = some NameKind.local := by decide +kernel
theorem w_Holdings_note {fd : FuncData} (T : TxF K mg) (F : FunD K "note" "Holdings.note" (defArgs s_Holdings_note) (defBody s_Holdings_note) (defScope s_Holdings_note) [] [] (He.fAd K ("Holdings", some "note")) fd) (d_Holdings_check_day : DefOk P w K mg base (gg K) 1 (He.fAd K ("Holdings", some "check_day")) ["self", "day"] f_Holdings_check_day)  : DefOk P w K mg base (gg K) 2 (He.fAd K ("Holdings", some "note")) ["self", "day", "deed", "mark", "start", "end"] f_Holdings_note := by
  have hb : Binds K fd ["self", "day", "deed", "mark", "start", "end"] [] := F.bindsN fun _ _ _ _ _ _ us hl => match us, hl with | [_, _, _, _, _, _], _ => rfl
  refine ⟨⟨fd, dFn F sc_Holdings_note (by decide) fun cdv A outer s H E B hcd hr => ?_, hb⟩, F.kp⟩
  exact (qSeq (qExpr (gMeth T.q_Holdings rfl T.m_Holdings_check_day d_Holdings_check_day (by decide +kernel) hr (by decide) pF (dV 0 (hv := (Or.inl k_Holdings_note_self))) (aK (dV 1 (hv := (Or.inl k_Holdings_note_day))) aN) (lenS len0) rfl))
 (qOne (gAppC (gFld T.q_Holdings rfl (j := 2) rfl (dV 0 (hv := (Or.inl k_Holdings_note_self)))) (xTup (aK (dV 1 (hv := (Or.inl k_Holdings_note_day))) (aK (dV 2 (hv := (Or.inl k_Holdings_note_deed))) (aK (dV 3 (hv := (Or.inl k_Holdings_note_mark))) (aK (dV 4 (hv := (Or.inl k_Holdings_note_start))) (aK (dV 5 (hv := (Or.inl k_Holdings_note_end))) aN)))))))))
abbrev N_Holdings_check_place : List Str := ["self", "level", "parent"]
theorem sc_Holdings_check_place : FnScope ["self", "level", "parent"] ["self", "level", "parent"] (defScope s_Holdings_check_place) := ⟨rfl, rfl, rfl, by decide +kernel, rfl, by decide +kernel, by decide +kernel⟩
theorem k_Holdings_check_place_LEVELS : (defScope s_Holdings_check_place).names.lookup ("LEVELS" : Str) = some NameKind.globalImplicit := by decide +kernel
theorem k_Holdings_check_place_TreeError : (defScope s_Holdings_check_place).names.lookup ("TreeError" : Str) = some NameKind.globalImplicit := by decide +kernel
theorem k_Holdings_check_place_level : (defScope s_Holdings_check_place).names.lookup ("level" : Str) = some NameKind.local := by decide +kernel
theorem k_Holdings_check_place_parent : (defScope s_Holdings_check_place).names.lookup ("parent" : Str) = some NameKind.local := by decide +kernel
theorem k_Holdings_check_place_self : (defScope s_Holdings_check_place).names.lookup ("self" : Str) = some NameKind.local := by decide +kernel
theorem w_Holdings_check_place {fd : FuncData} (T : TxF K mg) (F : FunD K "check_place" "Holdings.check_place" (defArgs s_Holdings_check_place) (defBody s_Holdings_check_place) (defScope s_Holdings_check_place) [] [] (He.fAd K ("Holdings", some "check_place")) fd) (d_Holdings_record : DefOk P w K mg base (gg K) 1 (He.fAd K ("Holdings", some "record")) ["self", "mark"] f_Holdings_record)  : DefOk P w K mg base (gg K) 2 (He.fAd K ("Holdings", some "check_place")) ["self", "level", "parent"] f_Holdings_check_place := by
  have hb : Binds K fd ["self", "level", "parent"] [] := F.bindsN fun _ _ _ _ _ _ us hl => match us, hl with | [_, _, _], _ => rfl
  refine ⟨⟨fd, dFn F sc_Holdings_check_place (by decide) fun cdv A outer s H E B hcd hr => ?_, hb⟩, F.kp⟩
  exact (qSeq (qIf (tNotIn hr rfl (dV 1 (hv := (Or.inl k_Holdings_check_place_level))) (gCon rfl T.k_LEVELS k_Holdings_check_place_LEVELS))
 (qOne (gRaise T.e_TreeError rfl rfl (takes_of rfl rfl rfl rfl) k_Holdings_check_place_TreeError))
 qNil)
 (qSeq (qIf (tNeA hr rfl (cIs (dV 2 (hv := (Or.inl k_Holdings_check_place_parent))) dNon) (cEqA hr rfl (dV 1 (hv := (Or.inl k_Holdings_check_place_level))) (dStr [102, 111, 110, 100, 115])))
 (qOne (gRaise T.e_TreeError rfl rfl (takes_of rfl rfl rfl rfl) k_Holdings_check_place_TreeError))
 qNil)
 (qOne (qIf (PW.pt (wAnd (tIsNot (dV 2 (hv := (Or.inl k_Holdings_check_place_parent))) dNon) (wAnd1 (tGtE (gIndexK rfl (gCon rfl T.k_LEVELS k_Holdings_check_place_LEVELS) (gFld T.q_Record rfl (j := 1) rfl (gMeth T.q_Holdings rfl T.m_Holdings_record d_Holdings_record (by decide +kernel) hr (by decide) pF (dV 0 (hv := (Or.inl k_Holdings_check_place_self))) (aK (dV 2 (hv := (Or.inl k_Holdings_check_place_parent))) aN) (lenS len0) rfl))) (gIndexK rfl (gCon rfl T.k_LEVELS k_Holdings_check_place_LEVELS) (dV 1 (hv := (Or.inl k_Holdings_check_place_level))))))))
 (qOne (gRaise T.e_TreeError rfl rfl (takes_of rfl rfl rfl rfl) k_Holdings_check_place_TreeError))
 qNil))))
abbrev N_Holdings_siblings : List Str := ["self", "parent"]
theorem sc_Holdings_siblings : FnScope ["self", "parent"] ["self", "parent"] (defScope s_Holdings_siblings) := ⟨rfl, rfl, rfl, by decide +kernel, rfl, by decide +kernel, by decide +kernel⟩
theorem k_Holdings_siblings_parent : (defScope s_Holdings_siblings).names.lookup ("parent" : Str) = some NameKind.local := by decide +kernel
theorem k_Holdings_siblings_self : (defScope s_Holdings_siblings).names.lookup ("self" : Str) = some NameKind.local := by decide +kernel
theorem w_Holdings_siblings {fd : FuncData} (T : TxF K mg) (F : FunD K "siblings" "Holdings.siblings" (defArgs s_Holdings_siblings) (defBody s_Holdings_siblings) (defScope s_Holdings_siblings) [] [] (He.fAd K ("Holdings", some "siblings")) fd) (d_Holdings_record : DefOk P w K mg base (gg K) 1 (He.fAd K ("Holdings", some "record")) ["self", "mark"] f_Holdings_record)  : DefOk P w K mg base (gg K) 2 (He.fAd K ("Holdings", some "siblings")) ["self", "parent"] f_Holdings_siblings := by
  have hb : Binds K fd ["self", "parent"] [] := F.bindsN fun _ _ _ _ _ _ us hl => match us, hl with | [_, _], _ => rfl
  refine ⟨⟨fd, dFn F sc_Holdings_siblings (by decide) fun cdv A outer s H E B hcd hr => ?_, hb⟩, F.kp⟩
  exact (qOne (qRet (dIf (tIs (dV 1 (hv := (Or.inl k_Holdings_siblings_parent))) dNon) (gFld T.q_Holdings rfl (j := 1) rfl (dV 0 (hv := (Or.inl k_Holdings_siblings_self)))) (gFld T.q_Record rfl (j := 4) rfl (gMeth T.q_Holdings rfl T.m_Holdings_record d_Holdings_record (by decide +kernel) hr (by decide) pF (dV 0 (hv := (Or.inl k_Holdings_siblings_self))) (aK (dV 1 (hv := (Or.inl k_Holdings_siblings_parent))) aN) (lenS len0) rfl)))))
abbrev N_Holdings_add : List Str := ["self", "day", "mark", "level", "parent", "title"]
theorem sc_Holdings_add : FnScope ["self", "day", "mark", "level", "parent", "title"] ["self", "day", "mark", "level", "parent", "title"] (defScope s_Holdings_add) := ⟨rfl, rfl, rfl, by decide +kernel, rfl, by decide +kernel, by decide +kernel⟩
theorem k_Holdings_add_MOST_RECORDS : (defScope s_Holdings_add).names.lookup ("MOST_RECORDS" : Str) = some NameKind.globalImplicit := by decide +kernel
theorem k_Holdings_add_Record : (defScope s_Holdings_add).names.lookup ("Record" : Str) = some NameKind.globalImplicit := by decide +kernel
theorem k_Holdings_add_TreeError : (defScope s_Holdings_add).names.lookup ("TreeError" : Str) = some NameKind.globalImplicit := by decide +kernel
theorem k_Holdings_add_check_mark : (defScope s_Holdings_add).names.lookup ("check_mark" : Str) = some NameKind.globalImplicit := by decide +kernel
theorem k_Holdings_add_day : (defScope s_Holdings_add).names.lookup ("day" : Str) = some NameKind.local := by decide +kernel
theorem k_Holdings_add_len : (defScope s_Holdings_add).names.lookup ("len" : Str) = some NameKind.globalImplicit := by decide +kernel
theorem k_Holdings_add_level : (defScope s_Holdings_add).names.lookup ("level" : Str) = some NameKind.local := by decide +kernel
theorem k_Holdings_add_mark : (defScope s_Holdings_add).names.lookup ("mark" : Str) = some NameKind.local := by decide +kernel
theorem k_Holdings_add_parent : (defScope s_Holdings_add).names.lookup ("parent" : Str) = some NameKind.local := by decide +kernel
theorem k_Holdings_add_self : (defScope s_Holdings_add).names.lookup ("self" : Str) = some NameKind.local := by decide +kernel
theorem k_Holdings_add_title : (defScope s_Holdings_add).names.lookup ("title" : Str) = some NameKind.local := by decide +kernel
theorem w_Holdings_add {fd : FuncData} (T : TxF K mg) (F : FunD K "add" "Holdings.add" (defArgs s_Holdings_add) (defBody s_Holdings_add) (defScope s_Holdings_add) [] [] (He.fAd K ("Holdings", some "add")) fd) (d_check_mark : DefOk P w K mg base (gg K) 3 (He.fAd K ("check_mark", none)) ["mark"] f_check_mark) (d_Record___init__ : InitOk P w K mg base (gg K) 1 1 (He.fAd K ("Record", some "__init__")) ["self", "mark", "level", "parent", "title"] f_Record___init__) (d_Holdings_check_day : DefOk P w K mg base (gg K) 1 (He.fAd K ("Holdings", some "check_day")) ["self", "day"] f_Holdings_check_day) (d_Holdings_note : DefOk P w K mg base (gg K) 2 (He.fAd K ("Holdings", some "note")) ["self", "day", "deed", "mark", "start", "end"] f_Holdings_note) (d_Holdings_check_place : DefOk P w K mg base (gg K) 2 (He.fAd K ("Holdings", some "check_place")) ["self", "level", "parent"] f_Holdings_check_place) (d_Holdings_siblings : DefOk P w K mg base (gg K) 2 (He.fAd K ("Holdings", some "siblings")) ["self", "parent"] f_Holdings_siblings)  : DefOk P w K mg base (gg K) 4 (He.fAd K ("Holdings", some "add")) ["self", "day", "mark", "level", "parent", "title"] f_Holdings_add := by
  have hb : Binds K fd ["self", "day", "mark", "level", "parent", "title"] [] := F.bindsN fun _ _ _ _ _ _ us hl => match us, hl with | [_, _, _, _, _, _], _ => rfl
  refine ⟨⟨fd, dFn F sc_Holdings_add (by decide) fun cdv A outer s H E B hcd hr => ?_, hb⟩, F.kp⟩
  exact (qSeq (qExpr (gCall d_check_mark hr (by decide) k_Holdings_add_check_mark T.g_check_mark pF (aK (dV 2 (hv := (Or.inl k_Holdings_add_mark))) aN) (lenS len0)))
 (qSeq (qExpr (gMeth T.q_Holdings rfl T.m_Holdings_check_day d_Holdings_check_day (by decide +kernel) hr (by decide) pF (dV 0 (hv := (Or.inl k_Holdings_add_self))) (aK (dV 1 (hv := (Or.inl k_Holdings_add_day))) aN) (lenS len0) rfl))
 (qSeq (qIf (PW.pt (wOr (tIn hr rfl (dV 2 (hv := (Or.inl k_Holdings_add_mark))) (gFld T.q_Holdings rfl (j := 0) rfl (dV 0 (hv := (Or.inl k_Holdings_add_self))))) (wOr1 (tGtE (kLenA k_Holdings_add_len T.n_len rfl (aK (gFld T.q_Holdings rfl (j := 0) rfl (dV 0 (hv := (Or.inl k_Holdings_add_self)))) aN)) (gInt T.i_MOST_RECORDS k_Holdings_add_MOST_RECORDS)))))
 (qOne (gRaise T.e_TreeError rfl rfl (takes_of rfl rfl rfl rfl) k_Holdings_add_TreeError))
 qNil)
 (qSeq (qExpr (gMeth T.q_Holdings rfl T.m_Holdings_check_place d_Holdings_check_place (by decide +kernel) hr (by decide) pF (dV 0 (hv := (Or.inl k_Holdings_add_self))) (aK (dV 3 (hv := (Or.inl k_Holdings_add_level))) (aK (dV 4 (hv := (Or.inl k_Holdings_add_parent))) aN)) (lenS (lenS len0)) rfl))
 (qSeq (gPutDC hr (gFld T.q_Holdings rfl (j := 0) rfl (dV 0 (hv := (Or.inl k_Holdings_add_self)))) (dV 2 (hv := (Or.inl k_Holdings_add_mark))) (xNew (gMake T.q_Record rfl T.mk_Record d_Record___init__ hr (by decide) k_Holdings_add_Record T.g_Record pF (aK (dV 2 (hv := (Or.inl k_Holdings_add_mark))) (aK (dV 3 (hv := (Or.inl k_Holdings_add_level))) (aK (dV 4 (hv := (Or.inl k_Holdings_add_parent))) (aK (dV 5 (hv := (Or.inl k_Holdings_add_title))) aN)))) (lenS (lenS (lenS (lenS len0)))) rfl)))
 (qSeq (gAppC (gMeth T.q_Holdings rfl T.m_Holdings_siblings d_Holdings_siblings (by decide +kernel) hr (by decide) pF (dV 0 (hv := (Or.inl k_Holdings_add_self))) (aK (dV 4 (hv := (Or.inl k_Holdings_add_parent))) aN) (lenS len0) rfl) (dV 2 (hv := (Or.inl k_Holdings_add_mark))))
 (qOne (qExpr (gMeth T.q_Holdings rfl T.m_Holdings_note d_Holdings_note (by decide +kernel) hr (by decide) pF (dV 0 (hv := (Or.inl k_Holdings_add_self))) (aK (dV 1 (hv := (Or.inl k_Holdings_add_day))) (aK (dStr [97, 100, 100]) (aK (dV 2 (hv := (Or.inl k_Holdings_add_mark))) (aK dNon (aK (dV 4 (hv := (Or.inl k_Holdings_add_parent))) aN))))) (lenS (lenS (lenS (lenS (lenS len0))))) rfl)))))))))
abbrev N_law_dice : List Str := ["cell"]
theorem sc_law_dice : FnScope ["cell"] ["cell"] (defScope s_law_dice) := ⟨rfl, rfl, rfl, by decide +kernel, rfl, by decide +kernel, by decide +kernel⟩
theorem k_law_dice_abs : (defScope s_law_dice).names.lookup ("abs" : Str) = some NameKind.globalImplicit := by decide +kernel
theorem k_law_dice_cell : (defScope s_law_dice).names.lookup ("cell" : Str) = some NameKind.local := by decide +kernel
theorem k_law_dice_int : (defScope s_law_dice).names.lookup ("int" : Str) = some NameKind.globalImplicit := by decide +kernel
theorem w_law_dice {fd : FuncData} (T : TxF K mg) (F : FunD K "_law_dice" "_law_dice" (defArgs s_law_dice) (defBody s_law_dice) (defScope s_law_dice) [] [] (He.fAd K ("_law_dice", none)) fd)   : DefOk P w K mg base (gg K) 1 (He.fAd K ("_law_dice", none)) ["cell"] f_law_dice := by
  have hb : Binds K fd ["cell"] [] := F.bindsN fun _ _ _ _ _ _ us hl => match us, hl with | [_], _ => rfl
  refine ⟨⟨fd, dFn F sc_law_dice (by decide) fun cdv A outer s H E B hcd hr => ?_, hb⟩, F.kp⟩
  exact (qSeq (qIf (tLtLt (bSub dInt dInt) (dV 0 (hv := (Or.inl k_law_dice_cell))) dInt)
 (qOne (qRet (xNew (yLst (aK (kAbs k_law_dice_abs T.n_abs (aK (dV 0 (hv := (Or.inl k_law_dice_cell))) aN)) (aK dInt (aK dInt aN)))))))
 qNil)
 (qOne (qRet (xNew (yLst (aK (dV 0 (hv := (Or.inl k_law_dice_cell))) (aK (bAdd dInt (bMod (kInt k_law_dice_int T.n_int (aK (dV 0 (hv := (Or.inl k_law_dice_cell))) aN)) dInt)) (aK (kInt k_law_dice_int T.n_int (aK (cGtE (dV 0 (hv := (Or.inl k_law_dice_cell))) (bPow dInt dInt)) aN)) aN))))))))
abbrev N_law_roll : List Str := ["dice", "many", "found"]
theorem sc_law_roll : FnScope ["dice", "many", "found"] ["dice", "many"] (defScope s_law_roll) := ⟨rfl, rfl, rfl, by decide +kernel, rfl, by decide +kernel, by decide +kernel⟩
theorem k_law_roll_dice : (defScope s_law_roll).names.lookup ("dice" : Str) = some NameKind.local := by decide +kernel
theorem k_law_roll_found : (defScope s_law_roll).names.lookup ("found" : Str) = some NameKind.local := by decide +kernel
theorem k_law_roll_int : (defScope s_law_roll).names.lookup ("int" : Str) = some NameKind.globalImplicit := by decide +kernel
theorem k_law_roll_many : (defScope s_law_roll).names.lookup ("many" : Str) = some NameKind.local := by decide +kernel
theorem w_law_roll {fd : FuncData} (T : TxF K mg) (F : FunD K "_law_roll" "_law_roll" (defArgs s_law_roll) (defBody s_law_roll) (defScope s_law_roll) [] [] (He.fAd K ("_law_roll", none)) fd)   : DefOk P w K mg base (gg K) 1 (He.fAd K ("_law_roll", none)) ["dice", "many"] f_law_roll := by
  have hb : Binds K fd ["dice", "many"] [] := F.bindsN fun _ _ _ _ _ _ us hl => match us, hl with | [_, _], _ => rfl
  refine ⟨⟨fd, dFn F sc_law_roll (by decide) fun cdv A outer s H E B hcd hr => ?_, hb⟩, F.kp⟩
  exact (qSeq (qIf (PW.pt (wOr (tEqA hr rfl (gSub hr rfl (dV 0 (hv := (Or.inl k_law_roll_dice))) dInt) dInt) (wOr1 (PW.pt (wAnd (tEqA hr rfl (gSub hr rfl (dV 0 (hv := (Or.inl k_law_roll_dice))) dInt) dInt) (wAnd1 (tGt (gSub hr rfl (dV 0 (hv := (Or.inl k_law_roll_dice))) dInt) dInt)))))))
 (qSeq (qSet (i := 2) sc_law_roll.nd rfl (Or.inl k_law_roll_found) (bMod (kInt k_law_roll_int T.n_int (aK (gSub hr rfl (dV 0 (hv := (Or.inl k_law_roll_dice))) dInt) aN)) (dV 1 (hv := (Or.inl k_law_roll_many)))))
 (qSeq (gPutL rfl (dV 0 (hv := (Or.inl k_law_roll_dice))) dInt (bFdiv (gSub hr rfl (dV 0 (hv := (Or.inl k_law_roll_dice))) dInt) (dV 1 (hv := (Or.inl k_law_roll_many)))))
 (qOne (qRet (dV 2 (hv := (Or.inl k_law_roll_found)))))))
 qNil)
 (qSeq (gPutL rfl (dV 0 (hv := (Or.inl k_law_roll_dice))) dInt dInt)
 (qSeq (qIf (tGt (dV 1 (hv := (Or.inl k_law_roll_many))) dInt)
 (qDeads pss_never)
 qNil)
 (qSeq (gPutL rfl (dV 0 (hv := (Or.inl k_law_roll_dice))) dInt (bMod (kInt k_law_roll_int T.n_int (aK (bAdd (bAdd (bMul (gSub hr rfl (dV 0 (hv := (Or.inl k_law_roll_dice))) dInt) dInt) (bMul (gSub hr rfl (dV 0 (hv := (Or.inl k_law_roll_dice))) dInt) dInt)) dInt) aN)) dInt))
 (qSeq (gPutL rfl (dV 0 (hv := (Or.inl k_law_roll_dice))) dInt (bAdd (gSub hr rfl (dV 0 (hv := (Or.inl k_law_roll_dice))) dInt) dInt))
 (qOne (qRet (bMod (kInt k_law_roll_int T.n_int (aK (bFdiv (gSub hr rfl (dV 0 (hv := (Or.inl k_law_roll_dice))) dInt) dInt) aN)) (dV 1 (hv := (Or.inl k_law_roll_many)))))))))))
abbrev N_law_rounds : List Str := ["script", "most", "cells", "cell"]
theorem sc_law_rounds : FnScope ["script", "most", "cells", "cell"] ["script", "most"] (defScope s_law_rounds) := ⟨rfl, rfl, rfl, by decide +kernel, rfl, by decide +kernel, by decide +kernel⟩
theorem k_law_rounds_cells : (defScope s_law_rounds).names.lookup ("cells" : Str) = some NameKind.local := by decide +kernel
theorem k_law_rounds_most : (defScope s_law_rounds).names.lookup ("most" : Str) = some NameKind.local := by decide +kernel
theorem k_law_rounds_script : (defScope s_law_rounds).names.lookup ("script" : Str) = some NameKind.local := by decide +kernel
theorem w_law_rounds {fd : FuncData} (T : TxF K mg) (F : FunD K "_law_rounds" "_law_rounds" (defArgs s_law_rounds) (defBody s_law_rounds) (defScope s_law_rounds) [] [] (He.fAd K ("_law_rounds", none)) fd) (d_law_dice : DefOk P w K mg base (gg K) 1 (He.fAd K ("_law_dice", none)) ["cell"] f_law_dice)  : DefOk P w K mg base (gg K) 2 (He.fAd K ("_law_rounds", none)) ["script", "most"] f_law_rounds := by
  have hb : Binds K fd ["script", "most"] [] := F.bindsN fun _ _ _ _ _ _ us hl => match us, hl with | [_, _], _ => rfl
  refine ⟨⟨fd, dFn F sc_law_rounds (by decide) fun cdv A outer s H E B hcd hr => ?_, hb⟩, F.kp⟩
  exact (qSeq (qSet (i := 2) sc_law_rounds.nd rfl (Or.inl k_law_rounds_cells) (xFrz (ySl rfl (dV 0 (hv := (Or.inl k_law_rounds_script))) oNoP (oSomeP (dV 1 (hv := (Or.inl k_law_rounds_most)))))))
 (qSeq (qIf (tEqA hr rfl (dV 2 (hv := (Or.inl k_law_rounds_cells))) (xFrz (yLst aN)))
 (qOne (qSet (i := 2) sc_law_rounds.nd rfl (Or.inl k_law_rounds_cells) (xFrz (yLst (aK dInt aN)))))
 qNil)
 (qOne (qRet (xFrz (yLc0 (E' := fun _ _ _ => False) (own := [("cell", 3)]) rfl sc_law_rounds.nd (wE rfl (dV 2 (hv := (Or.inl k_law_rounds_cells)))) (blkOk_by (N := N_law_rounds) (sc := defScope s_law_rounds) (own := [("cell", 3)]) (by decide +kernel)) (by decide) tgN (fun _ _ _ _ _ => (pg_name (i := 3) sc_law_rounds.nd rfl (Or.inl rfl) (.inr rfl))) (fun _ _ _ _ _ => (gCall d_law_dice hr (by decide) rfl T.g__law_dice (pB rfl rfl) (aK (dV 3 (hv := (Or.inl rfl))) aN) (lenS len0)))))))))
abbrev N_law_line : List Str := ["up", "mark", "found"]
theorem sc_law_line : FnScope ["up", "mark", "found"] ["up", "mark"] (defScope s_law_line) := ⟨rfl, rfl, rfl, by decide +kernel, rfl, by decide +kernel, by decide +kernel⟩
theorem k_law_line_found : (defScope s_law_line).names.lookup ("found" : Str) = some NameKind.local := by decide +kernel
theorem k_law_line_mark : (defScope s_law_line).names.lookup ("mark" : Str) = some NameKind.local := by decide +kernel
theorem k_law_line_up : (defScope s_law_line).names.lookup ("up" : Str) = some NameKind.local := by decide +kernel
theorem w_law_line {fd : FuncData} (T : TxF K mg) (F : FunD K "_law_line" "_law_line" (defArgs s_law_line) (defBody s_law_line) (defScope s_law_line) [] [] (He.fAd K ("_law_line", none)) fd)   : DefOk P w K mg base (gg K) 1 (He.fAd K ("_law_line", none)) ["up", "mark"] f_law_line := by
  have hb : Binds K fd ["up", "mark"] [] := F.bindsN fun _ _ _ _ _ _ us hl => match us, hl with | [_, _], _ => rfl
  refine ⟨⟨fd, dFn F sc_law_line (by decide) fun cdv A outer s H E B hcd hr => ?_, hb⟩, F.kp⟩
  exact (qSeq (qSet (i := 2) sc_law_line.nd rfl (Or.inl k_law_line_found) (xFrz (yLst aN)))
 (qSeq (qWhile (passes_of rfl) (tIsNot (dV 1 (hv := (Or.inl k_law_line_mark))) dNon)
 (qOne (gPar (i := 2) (j := 1) rfl sc_law_line.nd rfl rfl (by decide) k_law_line_found k_law_line_mark (srcV (xFrz (yCat (dV 2 (hv := (Or.inl k_law_line_found))) (xFrz (yLst (aK (dV 1 (hv := (Or.inl k_law_line_mark))) aN)))))) (srcV (gSub hr rfl (dV 0 (hv := (Or.inl k_law_line_up))) (dV 1 (hv := (Or.inl k_law_line_mark))))))))
 (qOne (qRet (dV 2 (hv := (Or.inl k_law_line_found)))))))
abbrev N_law_under : List Str := ["up", "mark", "one"]
theorem sc_law_under : FnScope ["up", "mark", "one"] ["up", "mark"] (defScope s_law_under) := ⟨rfl, rfl, rfl, by decide +kernel, rfl, by decide +kernel, by decide +kernel⟩
theorem k_law_under_up : (defScope s_law_under).names.lookup ("up" : Str) = some NameKind.cell := by decide +kernel
theorem w_law_under {fd : FuncData} (T : TxF K mg) (F : FunD K "_law_under" "_law_under" (defArgs s_law_under) (defBody s_law_under) (defScope s_law_under) [] [] (He.fAd K ("_law_under", none)) fd) (d_law_line : DefOk P w K mg base (gg K) 1 (He.fAd K ("_law_line", none)) ["up", "mark"] f_law_line)  : DefOk P w K mg base (gg K) 2 (He.fAd K ("_law_under", none)) ["up", "mark"] f_law_under := by
  have hb : Binds K fd ["up", "mark"] [] := F.bindsN fun _ _ _ _ _ _ us hl => match us, hl with | [_, _], _ => rfl
  refine ⟨⟨fd, dFn F sc_law_under (by decide) fun cdv A outer s H E B hcd hr => ?_, hb⟩, F.kp⟩
  exact (qOne (qRet (xFrz (yLcD1 (E' := fun _ _ _ => False) (own := [("one", 2)]) rfl sc_law_under.nd (dV 0 (hv := (Or.inr (Or.inl k_law_under_up)))) (blkOk_by (N := N_law_under) (sc := defScope s_law_under) (own := [("one", 2)]) (by decide +kernel)) (by decide) tgN (fun _ _ _ _ _ => (pg_name (i := 2) sc_law_under.nd rfl (Or.inl rfl) (.inr rfl))) (fun _ _ _ _ _ => (tIn hr rfl (dV 1 (hv := (Or.inr (Or.inl rfl)))) (gCall d_law_line hr (by decide) rfl T.g__law_line (pB rfl rfl) (aK (dV 0 (hv := (Or.inr (Or.inl rfl)))) (aK (dV 2 (hv := (Or.inl rfl))) aN)) (lenS (lenS len0))))) (fun _ _ _ _ _ => (dV 2 (hv := (Or.inl rfl))))))))
abbrev N_law_over : List Str := ["own", "mark", "day", "kind", "last", "name", "one"]
theorem sc_law_over : FnScope ["own", "mark", "day", "kind", "last", "name", "one"] ["own", "mark", "day"] (defScope s_law_over) := ⟨rfl, rfl, rfl, by decide +kernel, rfl, by decide +kernel, by decide +kernel⟩
theorem k_law_over_day : (defScope s_law_over).names.lookup ("day" : Str) = some NameKind.local := by decide +kernel
theorem k_law_over_kind : (defScope s_law_over).names.lookup ("kind" : Str) = some NameKind.local := by decide +kernel
theorem k_law_over_last : (defScope s_law_over).names.lookup ("last" : Str) = some NameKind.local := by decide +kernel
theorem k_law_over_mark : (defScope s_law_over).names.lookup ("mark" : Str) = some NameKind.cell := by decide +kernel
theorem k_law_over_own : (defScope s_law_over).names.lookup ("own" : Str) = some NameKind.cell := by decide +kernel
theorem k_law_over_years_later : (defScope s_law_over).names.lookup ("years_later" : Str) = some NameKind.globalImplicit := by decide +kernel
theorem w_law_over {fd : FuncData} (T : TxF K mg) (F : FunD K "_law_over" "_law_over" (defArgs s_law_over) (defBody s_law_over) (defScope s_law_over) [] [] (He.fAd K ("_law_over", none)) fd) (d_years_later : DefOk P w K mg base (gg K) 6 (He.fAd K ("years_later", none)) ["number", "years"] f_years_later) (d_law_line : DefOk P w K mg base (gg K) 1 (He.fAd K ("_law_line", none)) ["up", "mark"] f_law_line)  : DefOk P w K mg base (gg K) 7 (He.fAd K ("_law_over", none)) ["own", "mark", "day"] f_law_over := by
  have hb : Binds K fd ["own", "mark", "day"] [] := F.bindsN fun _ _ _ _ _ _ us hl => match us, hl with | [_, _, _], _ => rfl
  refine ⟨⟨fd, dFn F sc_law_over (by decide) fun cdv A outer s H E B hcd hr => ?_, hb⟩, F.kp⟩
  exact (qSeq (qIf (tIn hr rfl (dV 1 (hv := (Or.inr (Or.inl k_law_over_mark)))) (gSub hr rfl (dV 0 (hv := (Or.inr (Or.inl k_law_over_own)))) (dStr [103, 111, 110, 101])))
 (qOne (qRet dBl))
 qNil)
 (qSeq (qIf (PW.pt (wOr (tNotIn hr rfl (dV 1 (hv := (Or.inr (Or.inl k_law_over_mark)))) (gSub hr rfl (dV 0 (hv := (Or.inr (Or.inl k_law_over_own)))) (dStr [107, 105, 110, 100, 115]))) (wOr1 (tNeA hr rfl (xFrz (yLc1 (E' := fun _ _ _ => False) (own := [("name", 5), ("one", 6)]) rfl sc_law_over.nd (wE rfl (gSub hr rfl (dV 0 (hv := (Or.inr (Or.inl k_law_over_own)))) (dStr [104, 111, 108, 100, 115]))) (blkOk_by (N := N_law_over) (sc := defScope s_law_over) (own := [("name", 5), ("one", 6)]) (by decide +kernel)) (by decide) (tgT (tgsC tgN (tgsC tgN tgsN)) rfl) (fun _ _ _ _ _ => (pg_tup rfl (pgs_cons (pg_name (i := 5) sc_law_over.nd rfl (Or.inl rfl) (.inr rfl)) (pgs_cons (pg_name (i := 6) sc_law_over.nd rfl (Or.inl rfl) (.inr rfl)) pgs_nil)))) (fun _ _ _ _ _ => (tIn hr rfl (dV 6 (hv := (Or.inl rfl))) (gCall d_law_line hr (by decide) rfl T.g__law_line (pB rfl rfl) (aK (gSub hr rfl (dV 0 (hv := (Or.inr (Or.inl rfl)))) (dStr [117, 112])) (aK (dV 1 (hv := (Or.inr (Or.inl rfl)))) aN)) (lenS (lenS len0))))) (fun _ _ _ _ _ => dInt))) (xFrz (yLst aN))))))
 (qOne (qRet dBl))
 qNil)
 (qSeq (gUnp (gSub hr rfl (gSub hr rfl (dV 0 (hv := (Or.inr (Or.inl k_law_over_own)))) (dStr [107, 105, 110, 100, 115])) (dV 1 (hv := (Or.inr (Or.inl k_law_over_mark))))) (pg_tup rfl (pgs_cons (pg_name (i := 3) sc_law_over.nd rfl (Or.inl k_law_over_kind) (.inl rfl)) (pgs_cons (pg_name (i := 4) sc_law_over.nd rfl (Or.inl k_law_over_last) (.inl rfl)) pgs_nil))) (tgT (tgsC tgN (tgsC tgN tgsN)) rfl))
 (qOne (qRet (dAnd (cIsNot (gSub hr rfl (xFrz (yDctL (ppsC (dStr [115, 104, 111, 114, 116]) dInt (ppsC (dStr [108, 111, 110, 103]) dInt (ppsC (dStr [101, 118, 101, 114]) dNon ppsN))) (by decide))) (dV 3 (hv := (Or.inl k_law_over_kind)))) dNon) (dOne (cLtE (gCall d_years_later hr (by decide) k_law_over_years_later T.g_years_later pF (aK (dV 4 (hv := (Or.inl k_law_over_last))) (aK (gSub hr rfl (xFrz (yDctL (ppsC (dStr [115, 104, 111, 114, 116]) dInt (ppsC (dStr [108, 111, 110, 103]) dInt ppsN)) (by decide))) (dV 3 (hv := (Or.inl k_law_over_kind)))) aN)) (lenS (lenS len0))) (dV 2 (hv := (Or.inl k_law_over_day)))))))))))
abbrev N_law : List Str := ["script", "dice", "holdings", "own", "mark", "level", "parent", "keeping", "step", "sort", "day", "kind", "last", "good", "name", "there", "one", "due", "held", "end", "bad", "row", "under", "f"]
theorem sc_law : FnScope ["script", "dice", "holdings", "own", "mark", "level", "parent", "keeping", "step", "sort", "day", "kind", "last", "good", "name", "there", "one", "due", "held", "end", "bad", "row", "under", "f"] ["script"] (defScope s_law) := ⟨rfl, rfl, rfl, by decide +kernel, rfl, by decide +kernel, by decide +kernel⟩
theorem k_law_Holdings : (defScope s_law).names.lookup ("Holdings" : Str) = some NameKind.globalImplicit := by decide +kernel
theorem k_law_Keeping : (defScope s_law).names.lookup ("Keeping" : Str) = some NameKind.globalImplicit := by decide +kernel
theorem k_law__law_over : (defScope s_law).names.lookup ("_law_over" : Str) = some NameKind.globalImplicit := by decide +kernel
theorem k_law__law_roll : (defScope s_law).names.lookup ("_law_roll" : Str) = some NameKind.globalImplicit := by decide +kernel
theorem k_law__law_rounds : (defScope s_law).names.lookup ("_law_rounds" : Str) = some NameKind.globalImplicit := by decide +kernel
theorem k_law__law_told : (defScope s_law).names.lookup ("_law_told" : Str) = some NameKind.globalImplicit := by decide +kernel
theorem k_law__law_under : (defScope s_law).names.lookup ("_law_under" : Str) = some NameKind.globalImplicit := by decide +kernel
theorem k_law_bad : (defScope s_law).names.lookup ("bad" : Str) = some NameKind.local := by decide +kernel
theorem k_law_day : (defScope s_law).names.lookup ("day" : Str) = some NameKind.cell := by decide +kernel
theorem k_law_dice : (defScope s_law).names.lookup ("dice" : Str) = some NameKind.local := by decide +kernel
theorem k_law_due : (defScope s_law).names.lookup ("due" : Str) = some NameKind.local := by decide +kernel
theorem k_law_end : (defScope s_law).names.lookup ("end" : Str) = some NameKind.local := by decide +kernel
theorem k_law_good : (defScope s_law).names.lookup ("good" : Str) = some NameKind.local := by decide +kernel
theorem k_law_held : (defScope s_law).names.lookup ("held" : Str) = some NameKind.local := by decide +kernel
theorem k_law_holdings : (defScope s_law).names.lookup ("holdings" : Str) = some NameKind.local := by decide +kernel
theorem k_law_keeping : (defScope s_law).names.lookup ("keeping" : Str) = some NameKind.cell := by decide +kernel
theorem k_law_kind : (defScope s_law).names.lookup ("kind" : Str) = some NameKind.cell := by decide +kernel
theorem k_law_last : (defScope s_law).names.lookup ("last" : Str) = some NameKind.cell := by decide +kernel
theorem k_law_level : (defScope s_law).names.lookup ("level" : Str) = some NameKind.local := by decide +kernel
theorem k_law_list : (defScope s_law).names.lookup ("list" : Str) = some NameKind.globalImplicit := by decide +kernel
theorem k_law_mark : (defScope s_law).names.lookup ("mark" : Str) = some NameKind.cell := by decide +kernel
theorem k_law_name : (defScope s_law).names.lookup ("name" : Str) = some NameKind.cell := by decide +kernel
theorem k_law_one : (defScope s_law).names.lookup ("one" : Str) = some NameKind.cell := by decide +kernel
theorem k_law_own : (defScope s_law).names.lookup ("own" : Str) = some NameKind.cell := by decide +kernel
theorem k_law_parent : (defScope s_law).names.lookup ("parent" : Str) = some NameKind.local := by decide +kernel
theorem k_law_range : (defScope s_law).names.lookup ("range" : Str) = some NameKind.globalImplicit := by decide +kernel
theorem k_law_script : (defScope s_law).names.lookup ("script" : Str) = some NameKind.local := by decide +kernel
theorem k_law_sort : (defScope s_law).names.lookup ("sort" : Str) = some NameKind.cell := by decide +kernel
theorem k_law_step : (defScope s_law).names.lookup ("step" : Str) = some NameKind.local := by decide +kernel
theorem k_law_str : (defScope s_law).names.lookup ("str" : Str) = some NameKind.globalImplicit := by decide +kernel
theorem k_law_there : (defScope s_law).names.lookup ("there" : Str) = some NameKind.local := by decide +kernel
theorem k_law_years_later : (defScope s_law).names.lookup ("years_later" : Str) = some NameKind.globalImplicit := by decide +kernel
end
end K04
/-! k04: the walk of the law (printed). -/
namespace K04
open PySem PySem.Spec PyProof.Rows L2 Mir
section
variable {P : Program} {w : World} {K : PySem.W.Frag} {mg : Str → Option Value} {base : Heap}
theorem w_law {fd : FuncData} (T : TxF K mg) (F : FunD K "law" "law" (defArgs s_law) (defBody s_law) (defScope s_law) [] [] (He.fAd K ("law", none)) fd) (d_years_later : DefOk P w K mg base (gg K) 6 (He.fAd K ("years_later", none)) ["number", "years"] f_years_later) (d_Keeping___init__ : InitOk P w K mg base (gg K) 0 1 (He.fAd K ("Keeping", some "__init__")) ["self", "holdings", "table"] f_Keeping___init__) (d_Keeping_put : DefOk P w K mg base (gg K) 2 (He.fAd K ("Keeping", some "put")) ["self", "mark", "kind", "last"] f_Keeping_put) (d_Keeping_hold : DefOk P w K mg base (gg K) 2 (He.fAd K ("Keeping", some "hold")) ["self", "name", "mark"] f_Keeping_hold) (d_Keeping_free : DefOk P w K mg base (gg K) 1 (He.fAd K ("Keeping", some "free")) ["self", "name", "mark"] f_Keeping_free) (d_Keeping_is_held : DefOk P w K mg base (gg K) 5 (He.fAd K ("Keeping", some "is_held")) ["self", "mark"] f_Keeping_is_held) (d_Keeping_ends : DefOk P w K mg base (gg K) 7 (He.fAd K ("Keeping", some "ends")) ["self", "mark"] f_Keeping_ends) (d_Holdings_all_marks : DefOk P w K mg base (gg K) 3 (He.fAd K ("Holdings", some "all_marks")) ["self"] f_Holdings_all_marks) (d_Keeping_is_over : DefOk P w K mg base (gg K) 8 (He.fAd K ("Keeping", some "is_over")) ["self", "mark", "day"] f_Keeping_is_over) (d_Keeping_due : DefOk P w K mg base (gg K) 11 (He.fAd K ("Keeping", some "due")) ["self", "day"] f_Keeping_due) (d_Keeping_let_go : DefOk P w K mg base (gg K) 12 (He.fAd K ("Keeping", some "let_go")) ["self", "mark", "day"] f_Keeping_let_go) (d_Holdings___init__ : InitOk P w K mg base (gg K) 2 1 (He.fAd K ("Holdings", some "__init__")) ["self"] f_Holdings___init__) (d_Holdings_add : DefOk P w K mg base (gg K) 4 (He.fAd K ("Holdings", some "add")) ["self", "day", "mark", "level", "parent", "title"] f_Holdings_add) (d_law_roll : DefOk P w K mg base (gg K) 1 (He.fAd K ("_law_roll", none)) ["dice", "many"] f_law_roll) (d_law_rounds : DefOk P w K mg base (gg K) 2 (He.fAd K ("_law_rounds", none)) ["script", "most"] f_law_rounds) (d_law_line : DefOk P w K mg base (gg K) 1 (He.fAd K ("_law_line", none)) ["up", "mark"] f_law_line) (d_law_under : DefOk P w K mg base (gg K) 2 (He.fAd K ("_law_under", none)) ["up", "mark"] f_law_under) (d_law_over : DefOk P w K mg base (gg K) 7 (He.fAd K ("_law_over", none)) ["own", "mark", "day"] f_law_over) {c : Addr} (DT : ToldOk K) (TB : LamX.TabB base mg c (tbA K)) (hc : fd.code = .ref c) : FnOk P w K mg base (L2.CX P w) 16 (He.fAd K ("law", none)) fd ["script"] (spOf (gg K) 1 f_law) := by
  refine dFn F sc_law (by decide) fun cdv A outer s H E B hcd hr => ?_
  exact (qSeq (qFor (passes_of rfl) rfl (wE rfl (gCall d_law_rounds hr (by decide) k_law__law_rounds T.g__law_rounds pF (aK (dV 0 (hv := (Or.inl k_law_script))) (aK dInt aN)) (lenS (lenS len0)))) (pg_name (i := 1) sc_law.nd rfl (Or.inl k_law_dice) (.inl rfl)) tgN
 (qSeq (gUnp (xTup (aK (xNew (gMake0 T.q_Holdings rfl T.mk_Holdings d_Holdings___init__ hr (by decide) k_law_Holdings T.g_Holdings pF rfl)) (aK (xNew (yDctL (ppsC (dStr [117, 112]) (xNew (yDctL (ppsC (dStr [97]) dNon ppsN) (by decide))) (ppsC (dStr [107, 105, 110, 100, 115]) (xNew yDct0) (ppsC (dStr [104, 111, 108, 100, 115]) (xFrz (yLst aN)) (ppsC (dStr [103, 111, 110, 101]) (xNew yDct0) ppsN)))) (by decide))) aN))) (pg_tup rfl (pgs_cons (pg_name (i := 2) sc_law.nd rfl (Or.inl k_law_holdings) (.inl rfl)) (pgs_cons (pg_name (i := 3) sc_law.nd rfl (Or.inr k_law_own) (.inl rfl)) pgs_nil))) (tgT (tgsC tgN (tgsC tgN tgsN)) rfl))
 (qSeq (qExpr (gMeth T.q_Holdings rfl T.m_Holdings_add d_Holdings_add (by decide +kernel) hr (by decide) pF (dV 2 (hv := (Or.inl k_law_holdings))) (aK dInt (aK (dStr [97]) (aK (dStr [102, 111, 110, 100, 115]) (aK dNon (aK (dStr [120]) aN))))) (lenS (lenS (lenS (lenS (lenS len0))))) rfl))
 (qSeq (qFor (passes_of rfl) rfl (wE rfl (xFrz (yLst (aK (xTup (aK (dStr [98]) (aK (dStr [115, 101, 114, 105, 101, 115]) (aK (dStr [97]) aN)))) (aK (xTup (aK (dStr [99]) (aK (dStr [115, 101, 114, 105, 101, 115]) (aK (dStr [97]) aN)))) (aK (xTup (aK (dStr [100]) (aK (dStr [102, 105, 108, 101]) (aK (dStr [98]) aN)))) (aK (xTup (aK (dStr [101]) (aK (dStr [105, 116, 101, 109]) (aK (dStr [100]) aN)))) (aK (xTup (aK (dStr [102]) (aK (dStr [105, 116, 101, 109]) (aK (dStr [100]) aN)))) aN)))))))) (pg_tup rfl (pgs_cons (pg_name (i := 4) sc_law.nd rfl (Or.inr k_law_mark) (.inl rfl)) (pgs_cons (pg_name (i := 5) sc_law.nd rfl (Or.inl k_law_level) (.inl rfl)) (pgs_cons (pg_name (i := 6) sc_law.nd rfl (Or.inl k_law_parent) (.inl rfl)) pgs_nil)))) (tgT (tgsC tgN (tgsC tgN (tgsC tgN tgsN))) rfl)
 (qSeq (qExpr (gMeth T.q_Holdings rfl T.m_Holdings_add d_Holdings_add (by decide +kernel) hr (by decide) pF (dV 2 (hv := (Or.inl k_law_holdings))) (aK dInt (aK (dV 4 (hv := (Or.inr (Or.inl k_law_mark)))) (aK (dV 5 (hv := (Or.inl k_law_level))) (aK (dV 6 (hv := (Or.inl k_law_parent))) (aK (dStr [120]) aN))))) (lenS (lenS (lenS (lenS (lenS len0))))) rfl))
 (qOne (gPutDC hr (gSub hr rfl (dV 3 (hv := (Or.inr (Or.inl k_law_own)))) (dStr [117, 112])) (dV 4 (hv := (Or.inr (Or.inl k_law_mark)))) (dV 6 (hv := (Or.inl k_law_parent)))))))
 (qSeq (qSet (i := 7) sc_law.nd rfl (Or.inr k_law_keeping) (xNew (gMake T.q_Keeping rfl T.mk_Keeping d_Keeping___init__ hr (by decide) k_law_Keeping T.g_Keeping pF (aK (dV 2 (hv := (Or.inl k_law_holdings))) (aK (xFrz (yDctL (ppsC (dStr [115, 104, 111, 114, 116]) dInt (ppsC (dStr [108, 111, 110, 103]) dInt (ppsC (dStr [101, 118, 101, 114]) dNon ppsN))) (by decide))) aN)) (lenS (lenS len0)) rfl)))
 (qOne (qFor (passes_of rfl) rfl (wR1 k_law_range T.n_range (gCall d_law_roll hr (by decide) k_law__law_roll T.g__law_roll pF (aK (dV 1 (hv := (Or.inl k_law_dice))) (aK dInt aN)) (lenS (lenS len0)))) (pg_name (i := 8) sc_law.nd rfl (Or.inl k_law_step) (.inl rfl)) tgN
 (qSeq (gUnp (xTup (aK (gSub hr rfl (dStr [97, 98, 99, 100, 101, 102, 122]) (gCall d_law_roll hr (by decide) k_law__law_roll T.g__law_roll pF (aK (dV 1 (hv := (Or.inl k_law_dice))) (aK dInt aN)) (lenS (lenS len0)))) (aK (gCall d_law_roll hr (by decide) k_law__law_roll T.g__law_roll pF (aK (dV 1 (hv := (Or.inl k_law_dice))) (aK dInt aN)) (lenS (lenS len0))) (aK (bAdd dInt (gCall d_law_roll hr (by decide) k_law__law_roll T.g__law_roll pF (aK (dV 1 (hv := (Or.inl k_law_dice))) (aK dInt aN)) (lenS (lenS len0)))) aN)))) (pg_tup rfl (pgs_cons (pg_name (i := 4) sc_law.nd rfl (Or.inr k_law_mark) (.inl rfl)) (pgs_cons (pg_name (i := 9) sc_law.nd rfl (Or.inr k_law_sort) (.inl rfl)) (pgs_cons (pg_name (i := 10) sc_law.nd rfl (Or.inr k_law_day) (.inl rfl)) pgs_nil)))) (tgT (tgsC tgN (tgsC tgN (tgsC tgN tgsN))) rfl))
 (qSeq (qIf (tLt (dV 9 (hv := (Or.inr (Or.inl k_law_sort)))) dInt)
 (qSeq (gUnp (xTup (aK (gSub hr rfl (xFrz (yLst (aK (dStr [115, 104, 111, 114, 116]) (aK (dStr [115, 104, 111, 114, 116]) (aK (dStr [108, 111, 110, 103]) (aK (dStr [101, 118, 101, 114]) (aK (dStr [102, 108, 121]) aN))))))) (gCall d_law_roll hr (by decide) k_law__law_roll T.g__law_roll pF (aK (dV 1 (hv := (Or.inl k_law_dice))) (aK dInt aN)) (lenS (lenS len0)))) (aK (bAdd dInt (gCall d_law_roll hr (by decide) k_law__law_roll T.g__law_roll pF (aK (dV 1 (hv := (Or.inl k_law_dice))) (aK dInt aN)) (lenS (lenS len0)))) aN))) (pg_tup rfl (pgs_cons (pg_name (i := 11) sc_law.nd rfl (Or.inr k_law_kind) (.inl rfl)) (pgs_cons (pg_name (i := 12) sc_law.nd rfl (Or.inr k_law_last) (.inl rfl)) pgs_nil))) (tgT (tgsC tgN (tgsC tgN tgsN)) rfl))
 (qSeq (qSet (i := 13) sc_law.nd rfl (Or.inl k_law_good) (dAnd (cIn hr rfl (dV 4 (hv := (Or.inr (Or.inl k_law_mark)))) (gSub hr rfl (dV 3 (hv := (Or.inr (Or.inl k_law_own)))) (dStr [117, 112]))) (dOne (cNeA hr rfl (dV 11 (hv := (Or.inr (Or.inl k_law_kind)))) (dStr [102, 108, 121])))))
 (qSeq (qIf (tEqA hr rfl (cEqA hr rfl (xTo T DT TB (hcd.symm.trans hc) rfl hr (LamX.lamS_by (sc := defScope s_law) (by decide +kernel)) rfl (fun _ _ _ _ _ => rfl) k_law__law_told fun A outer s H E f c hr2 => (gMeth T.q_Keeping rfl T.m_Keeping_put d_Keeping_put (by decide +kernel) hr2 (by decide) (pL rfl rfl rfl rfl) (dV 7 (hv := (Or.inr (Or.inr rfl)))) (aK (dV 4 (hv := (Or.inr (Or.inr rfl)))) (aK (dV 11 (hv := (Or.inr (Or.inr rfl)))) (aK (dV 12 (hv := (Or.inr (Or.inr rfl)))) aN))) (lenS (lenS (lenS len0))) rfl)) (dStr [65, 114, 99, 104, 105, 118, 101, 69, 114, 114, 111, 114])) (dV 13 (hv := (Or.inl k_law_good))))
 (qOne (qRet dBl))
 qNil)
 (qOne (qIf (dT (dV 13 (hv := (Or.inl k_law_good))))
 (qOne (gPutDC hr (gSub hr rfl (dV 3 (hv := (Or.inr (Or.inl k_law_own)))) (dStr [107, 105, 110, 100, 115])) (dV 4 (hv := (Or.inr (Or.inl k_law_mark)))) (xTup (aK (dV 11 (hv := (Or.inr (Or.inl k_law_kind)))) (aK (dV 12 (hv := (Or.inr (Or.inl k_law_last)))) aN)))))
 qNil)))))
 (qOne (qIf (tLt (dV 9 (hv := (Or.inr (Or.inl k_law_sort)))) dInt)
 (qSeq (qSet (i := 14) sc_law.nd rfl (Or.inr k_law_name) (bAdd (dStr [104]) (kStr k_law_str T.n_str (aK (gCall d_law_roll hr (by decide) k_law__law_roll T.g__law_roll pF (aK (dV 1 (hv := (Or.inl k_law_dice))) (aK dInt aN)) (lenS (lenS len0))) aN))))
 (qSeq (qSet (i := 15) sc_law.nd rfl (Or.inl k_law_there) (cIn hr rfl (xTup (aK (dV 14 (hv := (Or.inr (Or.inl k_law_name)))) (aK (dV 4 (hv := (Or.inr (Or.inl k_law_mark)))) aN))) (gSub hr rfl (dV 3 (hv := (Or.inr (Or.inl k_law_own)))) (dStr [104, 111, 108, 100, 115]))))
 (qSeq (qSet (i := 13) sc_law.nd rfl (Or.inl k_law_good) (dIf (tEqA hr rfl (dV 9 (hv := (Or.inr (Or.inl k_law_sort)))) dInt) (dAnd (cIn hr rfl (dV 4 (hv := (Or.inr (Or.inl k_law_mark)))) (gSub hr rfl (dV 3 (hv := (Or.inr (Or.inl k_law_own)))) (dStr [117, 112]))) (dOne (dNot (dV 15 (hv := (Or.inl k_law_there)))))) (dV 15 (hv := (Or.inl k_law_there)))))
 (qSeq (qIf (tEqA hr rfl (cEqA hr rfl (xTo T DT TB (hcd.symm.trans hc) rfl hr (LamX.lamS_by (sc := defScope s_law) (by decide +kernel)) rfl (fun _ _ _ _ _ => rfl) k_law__law_told fun A outer s H E f c hr2 => (dIf (tEqA hr2 rfl (dV 9 (hv := (Or.inr (Or.inr rfl)))) dInt) (gMeth T.q_Keeping rfl T.m_Keeping_hold d_Keeping_hold (by decide +kernel) hr2 (by decide) (pL rfl rfl rfl rfl) (dV 7 (hv := (Or.inr (Or.inr rfl)))) (aK (dV 14 (hv := (Or.inr (Or.inr rfl)))) (aK (dV 4 (hv := (Or.inr (Or.inr rfl)))) aN)) (lenS (lenS len0)) rfl) (gMeth T.q_Keeping rfl T.m_Keeping_free d_Keeping_free (by decide +kernel) hr2 (by decide) (pL rfl rfl rfl rfl) (dV 7 (hv := (Or.inr (Or.inr rfl)))) (aK (dV 14 (hv := (Or.inr (Or.inr rfl)))) (aK (dV 4 (hv := (Or.inr (Or.inr rfl)))) aN)) (lenS (lenS len0)) rfl))) (dStr [65, 114, 99, 104, 105, 118, 101, 69, 114, 114, 111, 114])) (dV 13 (hv := (Or.inl k_law_good))))
 (qOne (qRet dBl))
 qNil)
 (qOne (qIf (dT (dV 13 (hv := (Or.inl k_law_good))))
 (qOne (gPutDC hr (dV 3 (hv := (Or.inr (Or.inl k_law_own)))) (dStr [104, 111, 108, 100, 115]) (dIf (tEqA hr rfl (dV 9 (hv := (Or.inr (Or.inl k_law_sort)))) dInt) (xFrz (yCat (gSub hr rfl (dV 3 (hv := (Or.inr (Or.inl k_law_own)))) (dStr [104, 111, 108, 100, 115])) (xFrz (yLst (aK (xTup (aK (dV 14 (hv := (Or.inr (Or.inl k_law_name)))) (aK (dV 4 (hv := (Or.inr (Or.inl k_law_mark)))) aN))) aN))))) (xFrz (yLc1 (E' := fun _ _ _ => False) (own := [("row", 21)]) rfl sc_law.nd (wE rfl (gSub hr rfl (dV 3 (hv := (Or.inr (Or.inl k_law_own)))) (dStr [104, 111, 108, 100, 115]))) (blkOk_by (N := N_law) (sc := defScope s_law) (own := [("row", 21)]) (by decide +kernel)) (by decide) tgN (fun _ _ _ _ _ => (pg_name (i := 21) sc_law.nd rfl (Or.inl rfl) (.inr rfl))) (fun _ _ _ _ _ => (tNeA hr rfl (dV 21 (hv := (Or.inl rfl))) (xTup (aK (dV 14 (hv := (Or.inr (Or.inl rfl)))) (aK (dV 4 (hv := (Or.inr (Or.inl rfl)))) aN))))) (fun _ _ _ _ _ => (dV 21 (hv := (Or.inl rfl)))))))))
 qNil))))))
 (qSeq (qSet (i := 13) sc_law.nd rfl (Or.inl k_law_good) (dAnd (cIn hr rfl (dV 4 (hv := (Or.inr (Or.inl k_law_mark)))) (gSub hr rfl (dV 3 (hv := (Or.inr (Or.inl k_law_own)))) (dStr [117, 112]))) (dAnd (cNotIn hr rfl (dV 4 (hv := (Or.inr (Or.inl k_law_mark)))) (gSub hr rfl (dV 3 (hv := (Or.inr (Or.inl k_law_own)))) (dStr [103, 111, 110, 101]))) (dOne (cEqA hr rfl (xFrz (yLc1 (E' := fun _ _ _ => False) (own := [("one", 16)]) rfl sc_law.nd (wE rfl (gCall d_law_under hr (by decide) k_law__law_under T.g__law_under pF (aK (gSub hr rfl (dV 3 (hv := (Or.inr (Or.inl k_law_own)))) (dStr [117, 112])) (aK (dV 4 (hv := (Or.inr (Or.inl k_law_mark)))) aN)) (lenS (lenS len0)))) (blkOk_by (N := N_law) (sc := defScope s_law) (own := [("one", 16)]) (by decide +kernel)) (by decide) tgN (fun _ _ _ _ _ => (pg_name (i := 16) sc_law.nd rfl (Or.inl rfl) (.inr rfl))) (fun _ _ _ _ _ => (dTnot (dTru (gCall d_law_over hr (by decide) rfl T.g__law_over (pB rfl rfl) (aK (dV 3 (hv := (Or.inr (Or.inl rfl)))) (aK (dV 16 (hv := (Or.inl rfl))) (aK (dV 10 (hv := (Or.inr (Or.inl rfl)))) aN))) (lenS (lenS (lenS len0)))) rfl))) (fun _ _ _ _ _ => dInt))) (xFrz (yLst aN)))))))
 (qSeq (qIf (tEqA hr rfl (cEqA hr rfl (xTo T DT TB (hcd.symm.trans hc) rfl hr (LamX.lamS_by (sc := defScope s_law) (by decide +kernel)) rfl (fun _ _ _ _ _ => rfl) k_law__law_told fun A outer s H E f c hr2 => (gMeth T.q_Keeping rfl T.m_Keeping_let_go d_Keeping_let_go (by decide +kernel) hr2 (by decide) (pL rfl rfl rfl rfl) (dV 7 (hv := (Or.inr (Or.inr rfl)))) (aK (dV 4 (hv := (Or.inr (Or.inr rfl)))) (aK (dV 10 (hv := (Or.inr (Or.inr rfl)))) aN)) (lenS (lenS len0)) rfl)) (dStr [65, 114, 99, 104, 105, 118, 101, 69, 114, 114, 111, 114])) (dV 13 (hv := (Or.inl k_law_good))))
 (qOne (qRet dBl))
 qNil)
 (qOne (qFor (passes_of rfl) rfl (wE rfl (dIf (dT (dV 13 (hv := (Or.inl k_law_good)))) (gCall d_law_under hr (by decide) k_law__law_under T.g__law_under pF (aK (gSub hr rfl (dV 3 (hv := (Or.inr (Or.inl k_law_own)))) (dStr [117, 112])) (aK (dV 4 (hv := (Or.inr (Or.inl k_law_mark)))) aN)) (lenS (lenS len0))) (xFrz (yLst aN)))) (pg_name (i := 16) sc_law.nd rfl (Or.inr k_law_one) (.inl rfl)) tgN
 (qOne (gPutDC hr (gSub hr rfl (dV 3 (hv := (Or.inr (Or.inl k_law_own)))) (dStr [103, 111, 110, 101])) (dV 16 (hv := (Or.inr (Or.inl k_law_one)))) (gGet2 hr (gSub hr rfl (dV 3 (hv := (Or.inr (Or.inl k_law_own)))) (dStr [103, 111, 110, 101])) (dV 16 (hv := (Or.inr (Or.inl k_law_one)))) (dV 10 (hv := (Or.inr (Or.inl k_law_day)))) ⟨rfl, rfl, rfl, rfl⟩))))))))))
 (qSeq (qSetLc1 (E' := fun _ _ _ => False) (i := 17) (own := [("one", 16)]) rfl sc_law.nd rfl k_law_due rfl (wE rfl (gMeth0 T.q_Holdings rfl T.m_Holdings_all_marks d_Holdings_all_marks (by decide +kernel) hr (by decide) pF (dV 2 (hv := (Or.inl k_law_holdings))) rfl)) (blkOk_by (N := N_law) (sc := defScope s_law) (own := [("one", 16)]) (by decide +kernel)) (by decide) tgN (fun _ _ _ _ _ => (pg_name (i := 16) sc_law.nd rfl (Or.inl rfl) (.inr rfl))) (fun _ _ _ _ _ => (PW.pt (wAnd (tNotIn hr rfl (dV 16 (hv := (Or.inl rfl))) (gSub hr rfl (dV 3 (hv := (Or.inr (Or.inl rfl)))) (dStr [103, 111, 110, 101]))) (wAnd1 (tEqA hr rfl (xFrz (yLc1 (E' := fun _ _ _ => False) (own := [("under", 22)]) rfl sc_law.nd (wE rfl (gCall d_law_under hr (by decide) rfl T.g__law_under (pB rfl rfl) (aK (gSub hr rfl (dV 3 (hv := (Or.inr (Or.inl rfl)))) (dStr [117, 112])) (aK (dV 16 (hv := (Or.inl rfl))) aN)) (lenS (lenS len0)))) (blkOk_by (own := [("under", 22)]) (by rfl)) (by decide) tgN (fun _ _ _ _ _ => (pg_name (i := 22) sc_law.nd rfl (Or.inl rfl) (.inr rfl))) (fun _ _ _ _ _ => (dTnot (dTru (gCall d_law_over hr (by decide) rfl T.g__law_over (pB rfl rfl) (aK (dV 3 (hv := (Or.inr (Or.inl rfl)))) (aK (dV 22 (hv := (Or.inl rfl))) (aK (dV 10 (hv := (Or.inr (Or.inl rfl)))) aN))) (lenS (lenS (lenS len0)))) rfl))) (fun _ _ _ _ _ => dInt))) (xFrz (yLst aN))))))) (fun _ _ _ _ _ => (dV 16 (hv := (Or.inl rfl)))))
 (qSeq (qIf (PW.pt (wOr (tNeA hr rfl (xFrz (kList k_law_list T.n_list rfl (aK (gMeth T.q_Keeping rfl T.m_Keeping_due d_Keeping_due (by decide +kernel) hr (by decide) pF (dV 7 (hv := (Or.inr (Or.inl k_law_keeping)))) (aK (dV 10 (hv := (Or.inr (Or.inl k_law_day)))) aN) (lenS len0) rfl) aN))) (dV 17 (hv := (Or.inl k_law_due)))) (wOr1 (tNeA hr rfl (gFld T.q_Keeping rfl (j := 5) rfl (dV 7 (hv := (Or.inr (Or.inl k_law_keeping))))) (gSub hr rfl (dV 3 (hv := (Or.inr (Or.inl k_law_own)))) (dStr [103, 111, 110, 101]))))))
 (qOne (qRet dBl))
 qNil)
 (qOne (gForD (passes_of rfl) rfl (gSub hr rfl (dV 3 (hv := (Or.inr (Or.inl k_law_own)))) (dStr [117, 112])) (pg_name (i := 16) sc_law.nd rfl (Or.inr k_law_one) (.inl rfl)) tgN
 (qSeq (qSet (i := 18) sc_law.nd rfl (Or.inl k_law_held) (cNeA hr rfl (xFrz (yLc1 (E' := fun _ _ _ => False) (own := [("name", 14), ("mark", 4)]) rfl sc_law.nd (wE rfl (gSub hr rfl (dV 3 (hv := (Or.inr (Or.inl k_law_own)))) (dStr [104, 111, 108, 100, 115]))) (blkOk_by (N := N_law) (sc := defScope s_law) (own := [("name", 14), ("mark", 4)]) (by decide +kernel)) (by decide) (tgT (tgsC tgN (tgsC tgN tgsN)) rfl) (fun _ _ _ _ _ => (pg_tup rfl (pgs_cons (pg_name (i := 14) sc_law.nd rfl (Or.inl rfl) (.inr rfl)) (pgs_cons (pg_name (i := 4) sc_law.nd rfl (Or.inl rfl) (.inr rfl)) pgs_nil)))) (fun _ _ _ _ _ => (tIn hr rfl (dV 4 (hv := (Or.inl rfl))) (gCall d_law_line hr (by decide) rfl T.g__law_line (pB rfl rfl) (aK (gSub hr rfl (dV 3 (hv := (Or.inr (Or.inl rfl)))) (dStr [117, 112])) (aK (dV 16 (hv := (Or.inr (Or.inl rfl)))) aN)) (lenS (lenS len0))))) (fun _ _ _ _ _ => dInt))) (xFrz (yLst aN))))
 (qSeq (qSet (i := 11) sc_law.nd rfl (Or.inr k_law_kind) (gGet2 hr (gSub hr rfl (dV 3 (hv := (Or.inr (Or.inl k_law_own)))) (dStr [107, 105, 110, 100, 115])) (dV 16 (hv := (Or.inr (Or.inl k_law_one)))) (xTup (aK (dStr [101, 118, 101, 114]) (aK dInt aN))) ⟨rfl, rfl, rfl, rfl⟩))
 (qSeq (qSet (i := 19) sc_law.nd rfl (Or.inl k_law_end) (dIf (tEqA hr rfl (gSub hr rfl (dV 11 (hv := (Or.inr (Or.inl k_law_kind)))) dInt) (dStr [101, 118, 101, 114])) dNon (gCall d_years_later hr (by decide) k_law_years_later T.g_years_later pF (aK (gSub hr rfl (dV 11 (hv := (Or.inr (Or.inl k_law_kind)))) dInt) (aK (dIf (tEqA hr rfl (gSub hr rfl (dV 11 (hv := (Or.inr (Or.inl k_law_kind)))) dInt) (dStr [115, 104, 111, 114, 116])) dInt dInt) aN)) (lenS (lenS len0)))))
 (qOne (qIf (PW.pt (wOr (tNeA hr rfl (gMeth T.q_Keeping rfl T.m_Keeping_is_held d_Keeping_is_held (by decide +kernel) hr (by decide) pF (dV 7 (hv := (Or.inr (Or.inl k_law_keeping)))) (aK (dV 16 (hv := (Or.inr (Or.inl k_law_one)))) aN) (lenS len0) rfl) (dV 18 (hv := (Or.inl k_law_held)))) (wOr (tNeA hr rfl (gMeth T.q_Keeping rfl T.m_Keeping_ends d_Keeping_ends (by decide +kernel) hr (by decide) pF (dV 7 (hv := (Or.inr (Or.inl k_law_keeping)))) (aK (dV 16 (hv := (Or.inr (Or.inl k_law_one)))) aN) (lenS len0) rfl) (dV 19 (hv := (Or.inl k_law_end)))) (wOr1 (tNeA hr rfl (gMeth T.q_Keeping rfl T.m_Keeping_is_over d_Keeping_is_over (by decide +kernel) hr (by decide) pF (dV 7 (hv := (Or.inr (Or.inl k_law_keeping)))) (aK (dV 16 (hv := (Or.inr (Or.inl k_law_one)))) (aK (dV 10 (hv := (Or.inr (Or.inl k_law_day)))) aN)) (lenS (lenS len0)) rfl) (gCall d_law_over hr (by decide) k_law__law_over T.g__law_over pF (aK (dV 3 (hv := (Or.inr (Or.inl k_law_own)))) (aK (dV 16 (hv := (Or.inr (Or.inl k_law_one)))) (aK (dV 10 (hv := (Or.inr (Or.inl k_law_day)))) aN))) (lenS (lenS (lenS len0)))))))))
 (qOne (qRet dBl))
 qNil))))))))))))))))))
 (qSeq (qSet (i := 16) sc_law.nd rfl (Or.inr k_law_one) (xNew (gMake0 T.q_Holdings rfl T.mk_Holdings d_Holdings___init__ hr (by decide) k_law_Holdings T.g_Holdings pF rfl)))
 (qSeq (qExpr (gMeth T.q_Holdings rfl T.m_Holdings_add d_Holdings_add (by decide +kernel) hr (by decide) pF (dV 16 (hv := (Or.inr (Or.inl k_law_one)))) (aK dInt (aK (dStr [97]) (aK (dStr [102, 111, 110, 100, 115]) (aK dNon (aK (dStr [120]) aN))))) (lenS (lenS (lenS (lenS (lenS len0))))) rfl))
 (qSeq (qSet (i := 7) sc_law.nd rfl (Or.inr k_law_keeping) (xNew (gMake T.q_Keeping rfl T.mk_Keeping d_Keeping___init__ hr (by decide) k_law_Keeping T.g_Keeping pF (aK (dV 16 (hv := (Or.inr (Or.inl k_law_one)))) (aK (xFrz (yDctL (ppsC (dStr [115, 104, 111, 114, 116]) dInt ppsN) (by decide))) aN)) (lenS (lenS len0)) rfl)))
 (pssBad (k := 13) (bv := "bad") TB (hcd.symm.trans hc) (List.mem_of_getElem? (i := 0) rfl) (uniqT T.tbn (List.mem_of_getElem? (i := 0) rfl)) rfl sc_law.nd rfl (Or.inl k_law_bad) rfl (by decide) (by rfl) (.cons ⟨_, _, _, _, rfl, ⟨LamX.lamS_by (sc := defScope s_law) (by decide +kernel), rfl, fun _ _ _ _ _ => rfl, fun A outer s H E f c hr2 => (gMeth T.q_Keeping rfl T.m_Keeping_put d_Keeping_put (by decide +kernel) hr2 (by decide) (pL rfl rfl rfl rfl) (dV 7 (hv := (Or.inr (Or.inr rfl)))) (aK (dStr [122]) (aK (dStr [115, 104, 111, 114, 116]) (aK dInt aN))) (lenS (lenS (lenS len0))) rfl)⟩⟩
 (.cons ⟨_, _, _, _, rfl, ⟨LamX.lamS_by (sc := defScope s_law) (by decide +kernel), rfl, fun _ _ _ _ _ => rfl, fun A outer s H E f c hr2 => (gMeth T.q_Keeping rfl T.m_Keeping_put d_Keeping_put (by decide +kernel) hr2 (by decide) (pL rfl rfl rfl rfl) (dV 7 (hv := (Or.inr (Or.inr rfl)))) (aK (dStr [97]) (aK (dStr [108, 111, 110, 103]) (aK dInt aN))) (lenS (lenS (lenS len0))) rfl)⟩⟩
 (.cons ⟨_, _, _, _, rfl, ⟨LamX.lamS_by (sc := defScope s_law) (by decide +kernel), rfl, fun _ _ _ _ _ => rfl, fun A outer s H E f c hr2 => (gMeth T.q_Keeping rfl T.m_Keeping_hold d_Keeping_hold (by decide +kernel) hr2 (by decide) (pL rfl rfl rfl rfl) (dV 7 (hv := (Or.inr (Or.inr rfl)))) (aK (dStr [104]) (aK (dStr [122]) aN)) (lenS (lenS len0)) rfl)⟩⟩
 (.cons ⟨_, _, _, _, rfl, ⟨LamX.lamS_by (sc := defScope s_law) (by decide +kernel), rfl, fun _ _ _ _ _ => rfl, fun A outer s H E f c hr2 => (gMeth T.q_Keeping rfl T.m_Keeping_free d_Keeping_free (by decide +kernel) hr2 (by decide) (pL rfl rfl rfl rfl) (dV 7 (hv := (Or.inr (Or.inr rfl)))) (aK (dStr [104]) (aK (dStr [97]) aN)) (lenS (lenS len0)) rfl)⟩⟩
 (.cons ⟨_, _, _, _, rfl, ⟨LamX.lamS_by (sc := defScope s_law) (by decide +kernel), rfl, fun _ _ _ _ _ => rfl, fun A outer s H E f c hr2 => (gMeth T.q_Keeping rfl T.m_Keeping_let_go d_Keeping_let_go (by decide +kernel) hr2 (by decide) (pL rfl rfl rfl rfl) (dV 7 (hv := (Or.inr (Or.inr rfl)))) (aK (dStr [97]) (aK dInt aN)) (lenS (lenS len0)) rfl)⟩⟩
 .nil))))) fun fs => (badRet hr rfl (lcB (k := 13) (ib := 20) (iF := 23) T DT (by decide +kernel) rfl sc_law.nd rfl (fun _ _ => rfl) hr (blkOk_by (N := N_law) (sc := defScope s_law) (own := [("f", 23)]) (by decide +kernel)) rfl (fun _ _ => rfl) rfl (Or.inl k_law_bad)) (dAnd (cIs (gMeth T.q_Keeping rfl T.m_Keeping_ends d_Keeping_ends (by decide +kernel) hr (by decide) (pL rfl rfl rfl rfl) (dV 7 (hv := (Or.inr (Or.inl k_law_keeping)))) (aK (dStr [97]) aN) (lenS len0) rfl) dNon) (dOne (cEqA hr rfl (gMeth T.q_Keeping rfl T.m_Keeping_due d_Keeping_due (by decide +kernel) hr (by decide) (pL rfl rfl rfl rfl) (dV 7 (hv := (Or.inr (Or.inl k_law_keeping)))) (aK dInt aN) (lenS len0) rfl) (xTup aN))))))))))
end
end K04
/-! P1: plain laws of loops and comprehensions of mirrors. -/
namespace Mir
theorem forLoop_fold {α : Type} {tg : Tg} {body : SM} (env : α → Env) (sto : α → St) (F : α → D → α) (P : α → Prop) : ∀ (ds : List D) (a : α), P a →
    (∀ a d, P a → d ∈ ds → ∃ r1, bindT tg d (env a) = some r1 ∧ (body r1 (sto a) = .nx (env (F a d)) (sto (F a d)) ∨ body r1 (sto a) = .ct (env (F a d)) (sto (F a d))) ∧ P (F a d)) →
    forLoop tg body .free ds (env a) (sto a) = .nx (env (ds.foldl F a)) (sto (ds.foldl F a)) ∧ P (ds.foldl F a)
  | [], a, hp, _ => ⟨rfl, hp⟩
  | d :: ds, a, hp, h => by
    obtain ⟨r1, h1, h2, h3⟩ := h a d hp List.mem_cons_self
    have ih := forLoop_fold env sto F P ds (F a d) h3 fun a d hp hd => h a d hp (List.mem_cons_of_mem _ hd)
    refine ⟨?_, ih.2⟩
    rw [List.foldl_cons, ← ih.1]
    unfold forLoop
    rw [h1]
    rcases h2 with h2 | h2
    · dsimp only
      rw [h2]
      cases ds <;> simp [Watch.ok, forLoop]
    · dsimp only
      rw [h2]
      cases ds <;> simp [Watch.ok, forLoop]
/-- a loop over data that stays, by a relation: F tells what a turn makes of what is known -/
theorem forLoop_rel {α : Type} {tg : Tg} {body : SM} (R : α → Env → St → Prop) (F : α → D → α) : ∀ (ds : List D) (a : α) (r : Env) (s : St), R a r s →
    (∀ a r s d, d ∈ ds → R a r s → ∃ r1 r2 s2, bindT tg d r = some r1 ∧ (body r1 s = .nx r2 s2 ∨ body r1 s = .ct r2 s2) ∧ R (F a d) r2 s2) →
    ∃ r2 s2, forLoop tg body .free ds r s = .nx r2 s2 ∧ R (ds.foldl F a) r2 s2
  | [], a, r, s, h, _ => ⟨r, s, rfl, h⟩
  | d :: ds, a, r, s, h, k => by
    obtain ⟨r1, r2, s2, h1, h2, h3⟩ := k a r s d List.mem_cons_self h
    obtain ⟨r4, s4, h4, h5⟩ := forLoop_rel R F ds (F a d) r2 s2 h3 fun a r s d hd => k a r s d (List.mem_cons_of_mem _ hd)
    refine ⟨r4, s4, ?_, h5⟩
    unfold forLoop
    rw [h1]
    rcases h2 with h2 | h2
    · dsimp only
      rw [h2]
      exact (if_pos (show Watch.free.ok s2 = true from rfl)).trans h4
    · dsimp only
      rw [h2]
      exact (if_pos (show Watch.free.ok s2 = true from rfl)).trans h4
theorem lcLoop_map {tg : Tg} {t : TM} {e : EM} {vs : List Nat} {r : Env} {s : St} (c : D → Bool) (v : D → D) : ∀ (ds acc : List D), (∀ d ∈ ds, ∃ r1, bindT tg d (wipeE vs r) = some r1 ∧ t r1 s = .ok (c d) s ∧ (c d = true → e r1 s = .ok (.val (v d)) s)) → acc.length + ds.length ≤ lim →
    lcLoop tg t e vs .free r ds acc s = .ok (acc ++ (ds.filter c).map v) s
  | [], acc, _, _ => by simp [lcLoop]
  | d :: ds, acc, h, hl => by
    obtain ⟨r1, h1, h2, h3⟩ := h d List.mem_cons_self
    have hl' : acc.length + (ds.length + 1) ≤ lim := hl
    have rest := fun acc' hl => lcLoop_map c v ds acc' (fun d hd => h d (List.mem_cons_of_mem _ hd)) hl
    unfold lcLoop
    rw [h1]
    dsimp only
    rw [h2]
    cases hc : c d with
    | true =>
      dsimp only
      rw [h3 hc]
      dsimp only
      rw [if_pos ⟨rfl, by omega⟩, rest (acc ++ [v d]) (by simp; omega)]
      simp [hc]
    | false =>
      dsimp only
      rw [if_pos (show Watch.free.ok s = true from rfl), rest acc (by omega)]
      simp [hc]
/-! ### one step -/
theorem seq_nx {a b : SM} {r r1 : Env} {s s1 : St} (h : a r s = .nx r1 s1) : sSeq a b r s = b r1 s1 := by unfold sSeq; rw [h]
theorem seq_rt {a b : SM} {r : Env} {s s1 : St} {d : D} (h : a r s = .rt d s1) : sSeq a b r s = .rt d s1 := by unfold sSeq; rw [h]
theorem seq_exc {a b : SM} {r r1 : Env} {s s1 : St} {e : Nat} (h : a r s = .exc e r1 s1) : sSeq a b r s = .exc e r1 s1 := by unfold sSeq; rw [h]
theorem if_t {t : TM} {a b : SM} {r : Env} {s s1 : St} (h : t r s = .ok true s1) : sIf t a b r s = a r s1 := by unfold sIf sBind; rw [h]; rfl
theorem if_f {t : TM} {a b : SM} {r : Env} {s s1 : St} (h : t r s = .ok false s1) : sIf t a b r s = b r s1 := by unfold sIf sBind; rw [h]; rfl
theorem set_v {i : Nat} {e : EM} {r : Env} {s s1 : St} {d : D} (h : e r s = .ok (.val d) s1) (hi : i < r.length) : sSet i e r s = .nx (r.set i (.val d)) s1 := by unfold sSet sBind; rw [h]; exact if_pos hi
theorem fn_rt {n np : Nat} {body : SM} {ds : List D} {s s1 : St} {d : D} (hl : ds.length = np) (h : body (ds.map Slot.val ++ List.replicate (n - np) Slot.no) s = .rt d s1) : fn n np body ds s = .ok d s1 := by unfold fn; rw [if_pos hl, h]
theorem fn_exc {n np : Nat} {body : SM} {ds : List D} {r : Env} {s s1 : St} {e : Nat} (hl : ds.length = np) (h : body (ds.map Slot.val ++ List.replicate (n - np) Slot.no) s = .exc e r s1) : fn n np body ds s = .exc e s1 := by unfold fn; rw [if_pos hl, h]
theorem fn_nx {n np : Nat} {body : SM} {ds : List D} {r : Env} {s s1 : St} (hl : ds.length = np) (h : body (ds.map Slot.val ++ List.replicate (n - np) Slot.no) s = .nx r s1) : fn n np body ds s = .ok .non s1 := by unfold fn; rw [if_pos hl, h]
theorem or_f {a b : TM} {r : Env} {s s1 : St} (h : a r s = .ok false s1) : Mir.tOr a b r s = b r s1 := by unfold Mir.tOr; rw [h]; rfl
theorem or_t {a b : TM} {r : Env} {s s1 : St} (h : a r s = .ok true s1) : Mir.tOr a b r s = .ok true s1 := by unfold Mir.tOr; rw [h]; rfl
theorem and_f {a b : TM} {r : Env} {s s1 : St} (h : a r s = .ok false s1) : Mir.tAnd a b r s = .ok false s1 := by unfold Mir.tAnd; rw [h]; rfl
theorem and_t {a b : TM} {r : Env} {s s1 : St} (h : a r s = .ok true s1) : Mir.tAnd a b r s = b r s1 := by unfold Mir.tAnd; rw [h]; rfl
/-- .. over f's images -/
theorem forLoop_map {α β : Type} {tg : Tg} {body : SM} (f : β → D) (R : α → Env → St → Prop) (G : α → β → α) : ∀ (l : List β) (a : α) (r : Env) (s : St), R a r s →
    (∀ a r s z, z ∈ l → R a r s → ∃ r1 r2 s2, bindT tg (f z) r = some r1 ∧ (body r1 s = .nx r2 s2 ∨ body r1 s = .ct r2 s2) ∧ R (G a z) r2 s2) →
    ∃ r2 s2, forLoop tg body .free (l.map f) r s = .nx r2 s2 ∧ R (l.foldl G a) r2 s2
  | [], a, r, s, h, _ => ⟨r, s, rfl, h⟩
  | z :: l, a, r, s, h, k => by
    obtain ⟨r1, r2, s2, h1, h2, h3⟩ := k a r s z List.mem_cons_self h
    obtain ⟨r4, s4, h4, h5⟩ := forLoop_map f R G l (G a z) r2 s2 h3 fun a r s z hz => k a r s z (List.mem_cons_of_mem _ hz)
    refine ⟨r4, s4, ?_, h5⟩
    rw [List.map_cons]
    unfold forLoop
    rw [h1]
    rcases h2 with h2 | h2
    · dsimp only
      rw [h2]
      exact (if_pos (show Watch.free.ok s2 = true from rfl)).trans h4
    · dsimp only
      rw [h2]
      exact (if_pos (show Watch.free.ok s2 = true from rfl)).trans h4
end Mir
/-! P0: rules by which simp runs a mirror. -/
namespace Mir
def slotO (o : Option Slot) (s : St) : Out Opd := match o with
  | some (.val d) => .ok (.val d) s
  | some (.own c) => .ok (.bor c) s
  | _ => .bad
@[simp] theorem slotO_val (d : D) (s : St) : slotO (some (.val d)) s = .ok (.val d) s := rfl
@[simp] theorem slotO_own (c : Cell) (s : St) : slotO (some (.own c)) s = .ok (.bor c) s := rfl
@[simp] theorem eC_ap (d : D) (r : Env) (s : St) : eC d r s = .ok (.val d) s := rfl
@[simp] theorem eV_ap (i : Nat) (r : Env) (s : St) : eV i r s = slotO r[i]? s := by unfold eV slotO; rfl
@[simp] theorem bindok {α β : Type} (a : α) (s : St) (k : α → St → Out β) : (Out.ok a s).bind k = k a s := by simp only [Out.bind]
@[simp] theorem bindexc {α β : Type} (e : Nat) (s : St) (k : α → St → Out β) : (Out.exc e s).bind k = .exc e s := rfl
@[simp] theorem bindbad {α β : Type} (k : α → St → Out β) : (Out.bad : Out α).bind k = .bad := rfl
@[simp] theorem orBad_some {α : Type} (a : α) (s : St) : orBad s (some a) = .ok a s := rfl
@[simp] theorem orBad_none {α : Type} (s : St) : orBad s (none : Option α) = .bad := rfl
def op1K (f : Op1) (x : Opd) (s1 : St) : Out Opd := orBad s1 ((f s1 x).map Opd.val)
@[simp] theorem op1K_ap (f : Op1) (x : Opd) (s1 : St) : op1K f x s1 = orBad s1 ((f s1 x).map Opd.val) := by simp only [op1K]
def op2B (f : Op2) (x : Opd) (y : Opd) (s2 : St) : Out Opd := orBad s2 ((f s2 x y).map Opd.val)
@[simp] theorem op2B_ap (f : Op2) (x : Opd) (y : Opd) (s2 : St) : op2B f x y s2 = orBad s2 ((f s2 x y).map Opd.val) := by simp only [op2B]
def op2A (f : Op2) (b : EM) (r : Env) (x : Opd) (s1 : St) : Out Opd := (b r s1).bind (op2B f x)
@[simp] theorem op2A_ap (f : Op2) (b : EM) (r : Env) (x : Opd) (s1 : St) : op2A f b r x s1 = (b r s1).bind (op2B f x) := by simp only [op2A]
def acB (x : Opd) (xs : List Opd) (s2 : St) : Out (List Opd) := .ok (x :: xs) s2
@[simp] theorem acB_ap (x : Opd) (xs : List Opd) (s2 : St) : acB x xs s2 = .ok (x :: xs) s2 := by simp only [acB]
def acA (as : AM) (r : Env) (x : Opd) (s1 : St) : Out (List Opd) := (as r s1).bind (acB x)
@[simp] theorem acA_ap (as : AM) (r : Env) (x : Opd) (s1 : St) : acA as r x s1 = (as r s1).bind (acB x) := by simp only [acA]
def opnK (f : OpN) (xs : List Opd) (s1 : St) : Out Opd := orBad s1 ((f s1 xs).map Opd.val)
@[simp] theorem opnK_ap (f : OpN) (xs : List Opd) (s1 : St) : opnK f xs s1 = orBad s1 ((f s1 xs).map Opd.val) := by simp only [opnK]
def eifK (a b : EM) (r : Env) (c : Bool) (s1 : St) : Out Opd := if c = true then a r s1 else b r s1
@[simp] theorem eifK_ap (a b : EM) (r : Env) (c : Bool) (s1 : St) : eifK a b r c s1 = if c = true then a r s1 else b r s1 := by simp only [eifK]
def valK (d : D) (s2 : St) : Out Opd := .ok (.val d) s2
@[simp] theorem valK_ap (d : D) (s2 : St) : valK d s2 = .ok (.val d) s2 := by simp only [valK]
def frK (c : Cell) (s1 : St) : Out Opd := orBad s1 (c.frz.map Opd.val)
@[simp] theorem frK_ap (c : Cell) (s1 : St) : frK c s1 = orBad s1 (c.frz.map Opd.val) := by simp only [frK]
def nwK (c : Cell) (s1 : St) : Out Opd := .ok (.val (.ref s1.length)) (s1 ++ [c])
@[simp] theorem nwK_ap (c : Cell) (s1 : St) : nwK c s1 = .ok (.val (.ref s1.length)) (s1 ++ [c]) := by simp only [nwK]
def truK (x : Opd) (s1 : St) : Out Bool := orBad s1 (truth s1 x)
@[simp] theorem truK_ap (x : Opd) (s1 : St) : truK x s1 = orBad s1 (truth s1 x) := by simp only [truK]
def taK (b : TM) (r : Env) (x : Bool) (s1 : St) : Out Bool := if x = true then b r s1 else .ok false s1
@[simp] theorem taK_ap (b : TM) (r : Env) (x : Bool) (s1 : St) : taK b r x s1 = if x = true then b r s1 else .ok false s1 := by simp only [taK]
def toK (b : TM) (r : Env) (x : Bool) (s1 : St) : Out Bool := if x = true then .ok true s1 else b r s1
@[simp] theorem toK_ap (b : TM) (r : Env) (x : Bool) (s1 : St) : toK b r x s1 = if x = true then .ok true s1 else b r s1 := by simp only [toK]
def tnK (x : Bool) (s1 : St) : Out Bool := .ok (!x) s1
@[simp] theorem tnK_ap (x : Bool) (s1 : St) : tnK x s1 = .ok (!x) s1 := by simp only [tnK]
def ieK (x : Opd) (s1 : St) : Out (List D × Watch) := orBad s1 (itemsOf s1 x)
@[simp] theorem ieK_ap (x : Opd) (s1 : St) : ieK x s1 = orBad s1 (itemsOf s1 x) := by simp only [ieK]
def ienK (x : Opd) (s1 : St) : Out (List D × Watch) := orBad s1 (enumOf s1 x)
@[simp] theorem ienK_ap (x : Opd) (s1 : St) : ienK x s1 = orBad s1 (enumOf s1 x) := by simp only [ienK]
def no1K (f : St → Opd → Option Cell) (x : Opd) (s1 : St) : Out Cell := orBad s1 (f s1 x)
@[simp] theorem no1K_ap (f : St → Opd → Option Cell) (x : Opd) (s1 : St) : no1K f x s1 = orBad s1 (f s1 x) := by simp only [no1K]
def no2B (f : St → Opd → Opd → Option Cell) (x : Opd) (y : Opd) (s2 : St) : Out Cell := orBad s2 (f s2 x y)
@[simp] theorem no2B_ap (f : St → Opd → Opd → Option Cell) (x : Opd) (y : Opd) (s2 : St) : no2B f x y s2 = orBad s2 (f s2 x y) := by simp only [no2B]
def no2A (f : St → Opd → Opd → Option Cell) (b : EM) (r : Env) (x : Opd) (s1 : St) : Out Cell := (b r s1).bind (no2B f x)
@[simp] theorem no2A_ap (f : St → Opd → Opd → Option Cell) (b : EM) (r : Env) (x : Opd) (s1 : St) : no2A f b r x s1 = (b r s1).bind (no2B f x) := by simp only [no2A]
def nonK (f : NpN) (xs : List Opd) (s1 : St) : Out Cell := orBad s1 (f s1 xs)
@[simp] theorem nonK_ap (f : NpN) (xs : List Opd) (s1 : St) : nonK f xs s1 = orBad s1 (f s1 xs) := by simp only [nonK]
@[simp] theorem eOp1_ap (f : Op1) (a : EM) (r : Env) (s : St) : eOp1 f a r s = (a r s).bind (op1K f) := rfl
@[simp] theorem eOp2_ap (f : Op2) (a b : EM) (r : Env) (s : St) : eOp2 f a b r s = (a r s).bind (op2A f b r) := rfl
def chainK (f g : Op2) (c : EM) (r : Env) (x y : Opd) (s2 : St) (o : Option D) : Out Opd := match o with
  | some (.bl true) => (c r s2).bind (op2B g y)
  | some (.bl false) => .ok (.val (.bl false)) s2
  | _ => .bad
def chB (f g : Op2) (c : EM) (r : Env) (x : Opd) (y : Opd) (s2 : St) : Out Opd := chainK f g c r x y s2 (f s2 x y)
@[simp] theorem chB_ap (f g : Op2) (c : EM) (r : Env) (x : Opd) (y : Opd) (s2 : St) : chB f g c r x y s2 = chainK f g c r x y s2 (f s2 x y) := by simp only [chB]
def chA (f g : Op2) (b c : EM) (r : Env) (x : Opd) (s1 : St) : Out Opd := (b r s1).bind (chB f g c r x)
@[simp] theorem chA_ap (f g : Op2) (b c : EM) (r : Env) (x : Opd) (s1 : St) : chA f g b c r x s1 = (b r s1).bind (chB f g c r x) := by simp only [chA]
@[simp] theorem eChain_ap (f g : Op2) (a b c : EM) (r : Env) (s : St) : eChain f g a b c r s = (a r s).bind (chA f g b c r) := rfl
/-- both tests are of ints that are at hand -/
@[simp] theorem aNil_ap (r : Env) (s : St) : aNil r s = .ok [] s := rfl
@[simp] theorem aCons_ap (a : EM) (as : AM) (r : Env) (s : St) : aCons a as r s = (a r s).bind (acA as r) := rfl
@[simp] theorem eOpN_ap (f : OpN) (as : AM) (r : Env) (s : St) : eOpN f as r s = (as r s).bind (opnK f) := rfl
def andK (b : EM) (r : Env) (x : Opd) (s1 : St) : Out Opd := match x with
  | .val (.bl true) => b r s1
  | .val (.bl false) => .ok (.val (.bl false)) s1
  | _ => .bad
def orK (b : EM) (r : Env) (x : Opd) (s1 : St) : Out Opd := match x with
  | .val (.bl true) => .ok (.val (.bl true)) s1
  | .val (.bl false) => b r s1
  | _ => .bad
def notK (x : Opd) (s1 : St) : Out Opd := match x with
  | .val (.bl b) => .ok (.val (.bl (!b))) s1
  | _ => .bad
@[simp] theorem eAnd_ap (a b : EM) (r : Env) (s : St) : eAnd a b r s = (a r s).bind (andK b r) := rfl
@[simp] theorem eOr_ap (a b : EM) (r : Env) (s : St) : eOr a b r s = (a r s).bind (orK b r) := rfl
@[simp] theorem eNot_ap (a : EM) (r : Env) (s : St) : eNot a r s = (a r s).bind notK := rfl
@[simp] theorem andK_t (b : EM) (r : Env) (s : St) : andK b r (.val (.bl true)) s = b r s := rfl
@[simp] theorem andK_f (b : EM) (r : Env) (s : St) : andK b r (.val (.bl false)) s = .ok (.val (.bl false)) s := rfl
@[simp] theorem orK_t (b : EM) (r : Env) (s : St) : orK b r (.val (.bl true)) s = .ok (.val (.bl true)) s := rfl
@[simp] theorem orK_f (b : EM) (r : Env) (s : St) : orK b r (.val (.bl false)) s = b r s := rfl
@[simp] theorem notK_b (b : Bool) (s : St) : notK (.val (.bl b)) s = .ok (.val (.bl (!b))) s := rfl
theorem andK_sym (b : EM) (r : Env) (c : Bool) (s : St) : andK b r (.val (.bl c)) s = if c = true then b r s else .ok (.val (.bl false)) s := by cases c <;> rfl
theorem orK_sym (b : EM) (r : Env) (c : Bool) (s : St) : orK b r (.val (.bl c)) s = if c = true then .ok (.val (.bl true)) s else b r s := by cases c <;> rfl
/-- a value that both ways have -/
theorem andK_val (b : EM) (r : Env) (c : Bool) (d : Bool) (s : St) (h : c = true → b r s = .ok (.val (.bl d)) s) : andK b r (.val (.bl c)) s = .ok (.val (.bl (c && d))) s := by cases c <;> simp_all
theorem orK_val (b : EM) (r : Env) (c : Bool) (d : Bool) (s : St) (h : c = false → b r s = .ok (.val (.bl d)) s) : orK b r (.val (.bl c)) s = .ok (.val (.bl (c || d))) s := by cases c <;> simp_all
@[simp] theorem eIf_ap (t : TM) (a b : EM) (r : Env) (s : St) : eIf t a b r s = (t r s).bind (eifK a b r) := rfl
@[simp] theorem valsOf_nil : valsOf [] = some [] := rfl
@[simp] theorem valsOf_cons (d : D) (xs : List Opd) : valsOf (.val d :: xs) = (valsOf xs).map (d :: ·) := rfl
def tupK (s1 : St) (o : Option (List D)) : Out Opd := match o with
  | some ds => if ds.length ≤ lim then .ok (.val (.tup ds)) s1 else .bad
  | none => .bad
@[simp] theorem tupK_some (s : St) (ds : List D) : tupK s (some ds) = if ds.length ≤ lim then .ok (.val (.tup ds)) s else .bad := rfl
def etK (xs : List Opd) (s1 : St) : Out Opd := tupK s1 (valsOf xs)
@[simp] theorem etK_ap (xs : List Opd) (s1 : St) : etK xs s1 = tupK s1 (valsOf xs) := by simp only [etK]
@[simp] theorem eTup_ap (as : AM) (r : Env) (s : St) : eTup as r s = (as r s).bind etK := rfl
def callK (f : FM) (s1 : St) (o : Option (List D)) : Out Opd := match o with
  | some ds => (f ds s1).bind fun d s2 => .ok (.val d) s2
  | none => .bad
@[simp] theorem callK_some (f : FM) (s : St) (ds : List D) : callK f s (some ds) = (f ds s).bind valK := rfl
def ecK (f : FM) (xs : List Opd) (s1 : St) : Out Opd := callK f s1 (valsOf xs)
@[simp] theorem ecK_ap (f : FM) (xs : List Opd) (s1 : St) : ecK f xs s1 = callK f s1 (valsOf xs) := by simp only [ecK]
@[simp] theorem eCall_ap (f : FM) (as : AM) (r : Env) (s : St) : eCall f as r s = (as r s).bind (ecK f) := rfl
def methK (c : Nat) (f : FM) (as : AM) (r : Env) (s1 : St) (x : Opd) (o : Option (Nat × List D)) : Out Opd := match x, o with
  | .val d, some (c', _) => if c' = c then (as r s1).bind fun xs s2 => match valsOf xs with
      | some ds => (f (d :: ds) s2).bind fun e s3 => .ok (.val e) s3
      | none => .bad
    else .bad
  | _, _ => .bad
theorem callK_cons (f : FM) (d : D) (o : Option (List D)) (s2 : St) : (match o with
      | some ds => (f (d :: ds) s2).bind fun e s3 => .ok (Opd.val e) s3
      | none => .bad) = callK f s2 (o.map (d :: ·)) := by cases o <;> rfl
def mtB (f : FM) (d : D) (xs : List Opd) (s2 : St) : Out Opd := callK f s2 ((valsOf xs).map (d :: ·))
@[simp] theorem mtB_ap (f : FM) (d : D) (xs : List Opd) (s2 : St) : mtB f d xs s2 = callK f s2 ((valsOf xs).map (d :: ·)) := by simp only [mtB]
@[simp] theorem methK_some (c : Nat) (f : FM) (as : AM) (r : Env) (s : St) (d : D) (fs : List D) : methK c f as r s (.val d) (some (c, fs)) = (as r s).bind (mtB f d) := by
  unfold methK
  dsimp only
  rw [if_pos rfl]
  congr 1
  funext xs s2
  exact callK_cons f d _ s2
def mtA (c : Nat) (f : FM) (as : AM) (r : Env) (x : Opd) (s1 : St) : Out Opd := methK c f as r s1 x (insOf s1 x)
@[simp] theorem mtA_ap (c : Nat) (f : FM) (as : AM) (r : Env) (x : Opd) (s1 : St) : mtA c f as r x s1 = methK c f as r s1 x (insOf s1 x) := by simp only [mtA]
@[simp] theorem eMeth_ap (c : Nat) (f : FM) (o : EM) (as : AM) (r : Env) (s : St) : eMeth c f o as r s = (o r s).bind (mtA c f as r) := rfl
def fldK (c j : Nat) (s1 : St) (o : Option (Nat × List D)) : Out Opd := match o with
  | some (c', fs) => if c' = c then orBad s1 ((fs[j]?).map Opd.val) else .bad
  | none => .bad
@[simp] theorem fldK_some (c j : Nat) (s : St) (fs : List D) : fldK c j s (some (c, fs)) = orBad s ((fs[j]?).map Opd.val) := by simp [fldK]
def fdA (c j : Nat) (x : Opd) (s1 : St) : Out Opd := fldK c j s1 (insOf s1 x)
@[simp] theorem fdA_ap (c j : Nat) (x : Opd) (s1 : St) : fdA c j x s1 = fldK c j s1 (insOf s1 x) := by simp only [fdA]
@[simp] theorem eFld_ap (c j : Nat) (o : EM) (r : Env) (s : St) : eFld c j o r s = (o r s).bind (fdA c j) := rfl
def insK : Option Cell → Option (Nat × List D)
  | some (.ins c fs) => some (c, fs)
  | _ => none
@[simp] theorem insK_some (c : Nat) (fs : List D) : insK (some (.ins c fs)) = some (c, fs) := rfl
@[simp] theorem insOf_ref (s : St) (n : Nat) : insOf s (.val (.ref n)) = insK s[n]? := rfl
@[simp] theorem insOf_obj (s : St) (c : Nat) (fs : List D) : insOf s (.val (.obj c fs)) = some (c, fs) := rfl
@[simp] theorem insOf_bor (s : St) (c : Nat) (fs : List D) : insOf s (.bor (.ins c fs)) = some (c, fs) := rfl
def lstK (s1 : St) (o : Option (List D)) : Out Cell := match o with
  | some ds => if ds.length ≤ lim then .ok (.lst ds) s1 else .bad
  | none => .bad
@[simp] theorem lstK_some (s : St) (ds : List D) : lstK s (some ds) = if ds.length ≤ lim then .ok (.lst ds) s else .bad := rfl
def nlK (xs : List Opd) (s1 : St) : Out Cell := lstK s1 (valsOf xs)
@[simp] theorem nlK_ap (xs : List Opd) (s1 : St) : nlK xs s1 = lstK s1 (valsOf xs) := by simp only [nlK]
@[simp] theorem nLst_ap (as : AM) (r : Env) (s : St) : nLst as r s = (as r s).bind nlK := rfl
@[simp] theorem nDct0_ap (t : Nat) (r : Env) (s : St) : nDct0 t r s = .ok (.dct t []) s := rfl
@[simp] theorem nOp1_ap (f : St → Opd → Option Cell) (a : EM) (r : Env) (s : St) : nOp1 f a r s = (a r s).bind (no1K f) := rfl
@[simp] theorem nOp2_ap (f : St → Opd → Opd → Option Cell) (a b : EM) (r : Env) (s : St) : nOp2 f a b r s = (a r s).bind (no2A f b r) := rfl
@[simp] theorem nOpN_ap (f : NpN) (as : AM) (r : Env) (s : St) : nOpN f as r s = (as r s).bind (nonK f) := rfl
@[simp] theorem frz_lst (xs : List D) : (Cell.lst xs).frz = some (.lst xs) := rfl
@[simp] theorem frz_dct (t : Nat) (ps : List (D × D)) : (Cell.dct t ps).frz = some (.dct t ps) := rfl
@[simp] theorem frz_ins (c : Nat) (fs : List D) : (Cell.ins c fs).frz = some (.obj c fs) := rfl
@[simp] theorem eFrz_ap (n : NM) (r : Env) (s : St) : eFrz n r s = (n r s).bind frK := rfl
@[simp] theorem eNew_ap (n : NM) (r : Env) (s : St) : eNew n r s = (n r s).bind nwK := rfl
def teK (x : Opd) (s1 : St) : Out Bool := match x with
  | .val (.bl b) => .ok b s1
  | _ => .bad
@[simp] theorem teK_bl (b : Bool) (s : St) : teK (.val (.bl b)) s = .ok b s := rfl
@[simp] theorem tE_ap (a : EM) (r : Env) (s : St) : tE a r s = (a r s).bind teK := rfl
@[simp] theorem tTru_ap (a : EM) (r : Env) (s : St) : tTru a r s = (a r s).bind truK := rfl
@[simp] theorem tAnd_ap (a b : TM) (r : Env) (s : St) : Mir.tAnd a b r s = (a r s).bind (taK b r) := rfl
@[simp] theorem tOr_ap (a b : TM) (r : Env) (s : St) : Mir.tOr a b r s = (a r s).bind (toK b r) := rfl
@[simp] theorem tNot_ap (a : TM) (r : Env) (s : St) : Mir.tNot a r s = (a r s).bind tnK := rfl
@[simp] theorem tYes_ap (r : Env) (s : St) : Mir.tYes r s = .ok true s := rfl
@[simp] theorem iE_ap (a : EM) (r : Env) (s : St) : iE a r s = (a r s).bind ieK := rfl
@[simp] theorem iEnum_ap (a : EM) (r : Env) (s : St) : Mir.iEnum a r s = (a r s).bind ienK := rfl
@[simp] theorem items_lst (s : St) (xs : List D) : itemsOf s (.val (.lst xs)) = some (xs, .free) := rfl
@[simp] theorem items_tup (s : St) (xs : List D) : itemsOf s (.val (.tup xs)) = some (xs, .free) := rfl
@[simp] theorem enum_lst (s : St) (xs : List D) : enumOf s (.val (.lst xs)) = some (enumD 0 xs, .free) := rfl
@[simp] theorem enum_tup (s : St) (xs : List D) : enumOf s (.val (.tup xs)) = some (enumD 0 xs, .free) := rfl
def rng1K (x : Opd) (s1 : St) : Out (List D × Watch) := match x with
  | .val (.int j) => if -(2 ^ 62) ≤ j ∧ j < 2 ^ 62 then .ok (rangeD 0 j, .free) s1 else .bad
  | _ => .bad
def rng2K (x y : Opd) (s2 : St) : Out (List D × Watch) := match x, y with
  | .val (.int i), .val (.int j) => if -(2 ^ 62) ≤ i ∧ i < 2 ^ 62 ∧ -(2 ^ 62) ≤ j ∧ j < 2 ^ 62 then .ok (rangeD i j, .free) s2 else .bad
  | _, _ => .bad
def rgB (x : Opd) (y : Opd) (s2 : St) : Out (List D × Watch) := rng2K x y s2
@[simp] theorem rgB_ap (x : Opd) (y : Opd) (s2 : St) : rgB x y s2 = rng2K x y s2 := by simp only [rgB]
def rgA (b : EM) (r : Env) (x : Opd) (s1 : St) : Out (List D × Watch) := (b r s1).bind (rgB x)
@[simp] theorem rgA_ap (b : EM) (r : Env) (x : Opd) (s1 : St) : rgA b r x s1 = (b r s1).bind (rgB x) := by simp only [rgA]
@[simp] theorem iRng1_ap (a : EM) (r : Env) (s : St) : Mir.iRng1 a r s = (a r s).bind rng1K := by unfold Mir.iRng1 rng1K; rfl
@[simp] theorem iRng2_ap (a b : EM) (r : Env) (s : St) : Mir.iRng2 a b r s = (a r s).bind (rgA b r) := by unfold Mir.iRng2 rgA rgB rng2K; rfl
theorem rng1K_int {j : Int} (s : St) (h : -(2 ^ 62) ≤ j ∧ j < 2 ^ 62) : rng1K (.val (.int j)) s = .ok (rangeD 0 j, .free) s := if_pos h
theorem rng2K_int {i j : Int} (s : St) (h : -(2 ^ 62) ≤ i ∧ i < 2 ^ 62 ∧ -(2 ^ 62) ≤ j ∧ j < 2 ^ 62) : rng2K (.val (.int i)) (.val (.int j)) s = .ok (rangeD i j, .free) s := if_pos h
@[simp] theorem wok_free (s : St) : Watch.free.ok s = true := rfl
def nlcK (tg : Tg) (t : TM) (e : EM) (vs : List Nat) (r : Env) (p : List D × Watch) (s1 : St) : Out Cell := if p.2.ok s1 = true then lcRes (lcLoop tg t e vs p.2 r p.1 [] s1) else .bad
@[simp] theorem nlcK_ap (tg : Tg) (t : TM) (e : EM) (vs : List Nat) (r : Env) (p : List D × Watch) (s1 : St) : nlcK tg t e vs r p s1 = if p.2.ok s1 = true then lcRes (lcLoop tg t e vs p.2 r p.1 [] s1) else .bad := by simp only [nlcK]
@[simp] theorem nLc_ap (it : IM) (tg : Tg) (t : TM) (e : EM) (vs : List Nat) (r : Env) (s : St) : nLc it tg t e vs r s = (it r s).bind (nlcK tg t e vs r) := rfl
@[simp] theorem lcRes_ok (xs : List D) (s : St) : lcRes (.ok xs s) = .ok (.lst xs) s := rfl
/-! statements -/
@[simp] theorem sNext_ap (r : Env) (s : St) : sNext r s = .nx r s := rfl
def seqK (o : SOut) (b : SM) : SOut := match o with
  | .nx r1 s1 => b r1 s1
  | o => o
@[simp] theorem seqK_nx (r : Env) (s : St) (b : SM) : seqK (.nx r s) b = b r s := rfl
@[simp] theorem seqK_rt (d : D) (s : St) (b : SM) : seqK (.rt d s) b = .rt d s := rfl
@[simp] theorem seqK_exc (e : Nat) (r : Env) (s : St) (b : SM) : seqK (.exc e r s) b = .exc e r s := rfl
@[simp] theorem seqK_bk (r : Env) (s : St) (b : SM) : seqK (.bk r s) b = .bk r s := rfl
@[simp] theorem seqK_ct (r : Env) (s : St) (b : SM) : seqK (.ct r s) b = .ct r s := rfl
@[simp] theorem sSeq_ap (a b : SM) (r : Env) (s : St) : sSeq a b r s = seqK (a r s) b := by unfold sSeq seqK; rfl
@[simp] theorem sBind_ok {α : Type} (r : Env) (a : α) (s : St) (k : α → St → SOut) : sBind r (.ok a s) k = k a s := by simp only [sBind]
@[simp] theorem sBind_exc {α : Type} (r : Env) (e : Nat) (s : St) (k : α → St → SOut) : sBind r (.exc e s) k = .exc e r s := rfl
@[simp] theorem sBind_bad {α : Type} (r : Env) (k : α → St → SOut) : sBind r .bad k = .bad := rfl
def setK (i : Nat) (r : Env) (x : Opd) (s1 : St) : SOut := match x with
  | .val d => if i < r.length then .nx (r.set i (.val d)) s1 else .bad
  | .bor _ => .bad
@[simp] theorem setK_val (i : Nat) (r : Env) (d : D) (s : St) : setK i r (.val d) s = if i < r.length then .nx (r.set i (.val d)) s else .bad := rfl
@[simp] theorem sSet_ap (i : Nat) (e : EM) (r : Env) (s : St) : sSet i e r s = sBind r (e r s) (setK i r) := rfl
@[simp] theorem noIns_lst (xs : List D) : (Cell.lst xs).noIns = true := rfl
@[simp] theorem noIns_dct (t : Nat) (ps : List (D × D)) : (Cell.dct t ps).noIns = true := rfl
def ownK (i : Nat) (r : Env) (c : Cell) (s1 : St) : SOut := if i < r.length ∧ c.noIns = true then .nx (r.set i (.own c)) s1 else .bad
@[simp] theorem ownK_ap (i : Nat) (r : Env) (c : Cell) (s1 : St) : ownK i r c s1 = if i < r.length ∧ c.noIns = true then .nx (r.set i (.own c)) s1 else .bad := by simp only [ownK]
@[simp] theorem sOwn_ap (i : Nat) (n : NM) (r : Env) (s : St) : sOwn i n r s = sBind r (n r s) (ownK i r) := rfl
def unpK (r : Env) (s1 : St) (o : Option Env) : SOut := match o with
    | some r1 => .nx r1 s1
    | none => .bad
@[simp] theorem unpK_some (r r1 : Env) (s : St) : unpK r s (some r1) = .nx r1 s := rfl
def unpV (tg : Tg) (r : Env) (x : Opd) (s1 : St) : SOut := match x with
  | .val d => unpK r s1 (bindT tg d r)
  | .bor _ => .bad
@[simp] theorem unpV_val (tg : Tg) (r : Env) (d : D) (s : St) : unpV tg r (.val d) s = unpK r s (bindT tg d r) := rfl
@[simp] theorem sUnp_ap (tg : Tg) (e : EM) (r : Env) (s : St) : sUnp tg e r s = sBind r (e r s) (unpV tg r) := by
  unfold sUnp sBind
  cases e r s <;> rfl
def srcW (x : Opd) (s1 : St) : Out Slot := match x with
    | .val d => .ok (.val d) s1
    | .bor _ => .bad
@[simp] theorem srcV_val (d : D) (s : St) : srcW (.val d) s = .ok (.val d) s := rfl
@[simp] theorem src_v (e : EM) (r : Env) (s : St) : (Src.v e).run r s = (e r s).bind srcW := rfl
def sroK (c : Cell) (s1 : St) : Out Slot := if c.noIns = true then .ok (.own c) s1 else .bad
@[simp] theorem sroK_ap (c : Cell) (s1 : St) : sroK c s1 = if c.noIns = true then .ok (.own c) s1 else .bad := by simp only [sroK]
@[simp] theorem src_o (n : NM) (r : Env) (s : St) : (Src.o n).run r s = (n r s).bind sroK := rfl
def parB (i j : Nat) (r : Env) (x : Slot) (y : Slot) (s2 : St) : SOut := if i < r.length ∧ j < r.length ∧ i ≠ j then .nx ((r.set i x).set j y) s2 else .bad
@[simp] theorem parB_ap (i j : Nat) (r : Env) (x : Slot) (y : Slot) (s2 : St) : parB i j r x y s2 = if i < r.length ∧ j < r.length ∧ i ≠ j then .nx ((r.set i x).set j y) s2 else .bad := by simp only [parB]
def parA (i j : Nat) (b : Src) (r : Env) (x : Slot) (s1 : St) : SOut := sBind r (b.run r s1) (parB i j r x)
@[simp] theorem parA_ap (i j : Nat) (b : Src) (r : Env) (x : Slot) (s1 : St) : parA i j b r x s1 = sBind r (b.run r s1) (parB i j r x) := by simp only [parA]
@[simp] theorem sPar_ap (i j : Nat) (a b : Src) (r : Env) (s : St) : sPar i j a b r s = sBind r (a.run r s) (parA i j b r) := rfl
def sifK (a b : SM) (r : Env) (c : Bool) (s1 : St) : SOut := if c = true then a r s1 else b r s1
@[simp] theorem sifK_ap (a b : SM) (r : Env) (c : Bool) (s1 : St) : sifK a b r c s1 = if c = true then a r s1 else b r s1 := by simp only [sifK]
@[simp] theorem sIf_ap (t : TM) (a b : SM) (r : Env) (s : St) : sIf t a b r s = sBind r (t r s) (sifK a b r) := rfl
def retK (x : Opd) (s1 : St) : SOut := match x with
  | .val d => .rt d s1
  | .bor _ => .bad
@[simp] theorem retK_val (d : D) (s : St) : retK (.val d) s = .rt d s := rfl
@[simp] theorem sRet_ap (e : EM) (r : Env) (s : St) : sRet e r s = sBind r (e r s) retK := rfl
def retvK (s : St) (o : Option Slot) : SOut := match o with
  | some (.val d) => .rt d s
  | some (.own c) => match c.frz with
    | some d => .rt d s
    | none => .bad
  | _ => .bad
@[simp] theorem retvK_val (d : D) (s : St) : retvK s (some (.val d)) = .rt d s := rfl
@[simp] theorem retvK_lst (d : List D) (s : St) : retvK s (some (.own (.lst d))) = .rt (.lst d) s := rfl
@[simp] theorem retvK_dct (t : Nat) (d : List (D × D)) (s : St) : retvK s (some (.own (.dct t d))) = .rt (.dct t d) s := rfl
@[simp] theorem sRetV_ap (i : Nat) (r : Env) (s : St) : sRetV i r s = retvK s r[i]? := by unfold sRetV retvK; rfl
@[simp] theorem sRetN_ap (r : Env) (s : St) : sRetN r s = .rt .non s := rfl
def sexK (r : Env) (x : Opd) (s1 : St) : SOut := .nx r s1
@[simp] theorem sexK_ap (r : Env) (x : Opd) (s1 : St) : sexK r x s1 = .nx r s1 := by simp only [sexK]
@[simp] theorem sExpr_ap (e : EM) (r : Env) (s : St) : sExpr e r s = sBind r (e r s) (sexK r) := rfl
@[simp] theorem sRaise_ap (e : Nat) (r : Env) (s : St) : sRaise e r s = .exc e r s := rfl
@[simp] theorem sBreak_ap (r : Env) (s : St) : sBreak r s = .bk r s := rfl
@[simp] theorem sCont_ap (r : Env) (s : St) : sCont r s = .ct r s := rfl
def sfK (tg : Tg) (body : SM) (r : Env) (p : List D × Watch) (s1 : St) : SOut := if p.2.ok s1 = true then forLoop tg body p.2 p.1 r s1 else .bad
@[simp] theorem sfK_ap (tg : Tg) (body : SM) (r : Env) (p : List D × Watch) (s1 : St) : sfK tg body r p s1 = if p.2.ok s1 = true then forLoop tg body p.2 p.1 r s1 else .bad := by simp only [sfK]
@[simp] theorem sFor_ap (it : IM) (tg : Tg) (body : SM) (r : Env) (s : St) : sFor it tg body r s = sBind r (it r s) (sfK tg body r) := rfl
def augK (i : Nat) (f : Op2) (r : Env) (d : D) (x : Opd) (s1 : St) : SOut := match f s1 (.val d) x with
    | some v => .nx (r.set i (.val v)) s1
    | none => .bad
def augS (i : Nat) (f : Op2) (e : EM) (r : Env) (s : St) (o : Option Slot) : SOut := match o with
  | some (.val d) => sBind r (e r s) (augK i f r d)
  | _ => .bad
@[simp] theorem sAug_ap (i : Nat) (f : Op2) (e : EM) (r : Env) (s : St) : sAug i f e r s = augS i f e r s r[i]? := by unfold sAug augS; rfl
@[simp] theorem augS_val (i : Nat) (f : Op2) (e : EM) (r : Env) (s : St) (d : D) : augS i f e r s (some (.val d)) = sBind r (e r s) (augK i f r d) := rfl
theorem augK_some {i : Nat} {f : Op2} {r : Env} {d v : D} {x : Opd} {s : St} (h : f s (.val d) x = some v) : augK i f r d x s = .nx (r.set i (.val v)) s := by unfold augK; rw [h]
def appV2 (i : Nat) (r : Env) (s1 : St) (x : Opd) (o : Option Slot) : SOut := match x, o with
    | .val d, some (.own (.lst xs)) => if xs.length < lim then .nx (r.set i (.own (.lst (xs ++ [d])))) s1 else .bad
    | _, _ => .bad
def apK (i : Nat) (r : Env) (x : Opd) (s1 : St) : SOut := appV2 i r s1 x r[i]?
@[simp] theorem apK_ap (i : Nat) (r : Env) (x : Opd) (s1 : St) : apK i r x s1 = appV2 i r s1 x r[i]? := by simp only [apK]
def appV1 (i : Nat) (e : EM) (r : Env) (s : St) (o : Option Slot) : SOut := match o with
  | some (.own (.lst _)) => sBind r (e r s) (apK i r)
  | _ => .bad
@[simp] theorem sAppV_ap (i : Nat) (e : EM) (r : Env) (s : St) : sAppV i e r s = appV1 i e r s r[i]? := by unfold sAppV appV1; rfl
@[simp] theorem appV1_lst (i : Nat) (e : EM) (r : Env) (s : St) (xs : List D) : appV1 i e r s (some (.own (.lst xs))) = sBind r (e r s) (apK i r) := rfl
@[simp] theorem appV2_lst (i : Nat) (r : Env) (s : St) (d : D) (xs : List D) : appV2 i r s (.val d) (some (.own (.lst xs))) = if xs.length < lim then .nx (r.set i (.own (.lst (xs ++ [d])))) s else .bad := rfl
@[simp] theorem bindT_nm (i : Nat) (d : D) (r : Env) : bindT (.nm i) d r = if i < r.length then some (r.set i (.val d)) else none := rfl
@[simp] theorem bindT_tup (ts : List Tg) (ds : List D) (r : Env) : bindT (.tp ts) (.tup ds) r = bindTs ts ds r := rfl
@[simp] theorem bindTs_nil (r : Env) : bindTs [] [] r = some r := rfl
def btK (ts : List Tg) (ds : List D) (o : Option Env) : Option Env := match o with
    | some r' => bindTs ts ds r'
    | none => none
@[simp] theorem btK_some (ts : List Tg) (ds : List D) (r : Env) : btK ts ds (some r) = bindTs ts ds r := rfl
@[simp] theorem bindTs_cons (t : Tg) (ts : List Tg) (d : D) (ds : List D) (r : Env) : bindTs (t :: ts) (d :: ds) r = btK ts ds (bindT t d r) := by
  cases h : bindT t d r <;> simp [bindTs, h, btK]
@[simp] theorem wipe_nil (r : Env) : wipeE [] r = r := rfl
@[simp] theorem wipe_cons (v : Nat) (vs : List Nat) (r : Env) : wipeE (v :: vs) r = (wipeE vs r).set v .no := rfl
/-! operations on ints -/
@[simp] theorem oAdd_int (s : St) (i j : Int) : oAdd s (.val (.int i)) (.val (.int j)) = some (.int (i + j)) := rfl
@[simp] theorem oSub_int (s : St) (i j : Int) : oSub s (.val (.int i)) (.val (.int j)) = some (.int (i - j)) := rfl
@[simp] theorem oNeg_int (s : St) (i : Int) : oNeg s (.val (.int i)) = some (.int (-i)) := rfl
@[simp] theorem oLt_int (s : St) (i j : Int) : oLt s (.val (.int i)) (.val (.int j)) = some (.bl (decide (i < j))) := rfl
@[simp] theorem oLe_int (s : St) (i j : Int) : oLe s (.val (.int i)) (.val (.int j)) = some (.bl (decide (i ≤ j))) := rfl
@[simp] theorem oGt_int (s : St) (i j : Int) : oGt s (.val (.int i)) (.val (.int j)) = some (.bl (decide (j < i))) := rfl
@[simp] theorem oGe_int (s : St) (i j : Int) : oGe s (.val (.int i)) (.val (.int j)) = some (.bl (decide (j ≤ i))) := rfl
@[simp] theorem oEq_int (s : St) (i j : Int) : oEq s (.val (.int i)) (.val (.int j)) = some (.bl (decide (i = j))) := by simp [oEq, eqD, look, scalD]
@[simp] theorem oNe_int (s : St) (i j : Int) : oNe s (.val (.int i)) (.val (.int j)) = some (.bl (!decide (i = j))) := by simp [oNe, eqD, look, scalD]
@[simp] theorem oEq_bl (s : St) (i j : Bool) : oEq s (.val (.bl i)) (.val (.bl j)) = some (.bl (decide (i = j))) := by simp [oEq, eqD, look, scalD]
@[simp] theorem oNe_bl (s : St) (i j : Bool) : oNe s (.val (.bl i)) (.val (.bl j)) = some (.bl (!decide (i = j))) := by simp [oNe, eqD, look, scalD]
@[simp] theorem oEq_str (s : St) (i j : Tx) : oEq s (.val (.str i)) (.val (.str j)) = some (.bl (decide (i = j))) := by simp [oEq, eqD, look, scalD]
@[simp] theorem oNe_str (s : St) (i j : Tx) : oNe s (.val (.str i)) (.val (.str j)) = some (.bl (!decide (i = j))) := by simp [oNe, eqD, look, scalD]
@[simp] theorem oAbs_int (s : St) (i : Int) : oAbs s [.val (.int i)] = some (.int (if i < 0 then -i else i)) := rfl
@[simp] theorem oMax2_int (s : St) (i j : Int) : oMax2 s [.val (.int i), .val (.int j)] = some (.int (if j > i then j else i)) := rfl
@[simp] theorem oMin2_int (s : St) (i j : Int) : oMin2 s [.val (.int i), .val (.int j)] = some (.int (if j < i then j else i)) := rfl
@[simp] theorem oInt_int (s : St) (i : Int) : oInt s [.val (.int i)] = some (.int i) := rfl
@[simp] theorem oInt_bl (s : St) (k : Bool) : oInt s [.val (.bl k)] = some (.int (if k then 1 else 0)) := rfl
@[simp] theorem oIsN_non (s : St) : oIsN s (.val .non) (.val .non) = some (.bl true) := rfl
@[simp] theorem oIsN_tup (s : St) (xs : List D) : oIsN s (.val (.tup xs)) (.val .non) = some (.bl false) := rfl
@[simp] theorem oIsN_int (s : St) (i : Int) : oIsN s (.val (.int i)) (.val .non) = some (.bl false) := rfl
@[simp] theorem oNotN_non (s : St) : oNotN s (.val .non) (.val .non) = some (.bl false) := rfl
@[simp] theorem oNotN_tup (s : St) (xs : List D) : oNotN s (.val (.tup xs)) (.val .non) = some (.bl true) := rfl
@[simp] theorem oNotN_int (s : St) (i : Int) : oNotN s (.val (.int i)) (.val .non) = some (.bl true) := rfl
@[simp] theorem oMod_int {s : St} {i j : Int} (h : 0 < j) : oMod s (.val (.int i)) (.val (.int j)) = some (.int (i % j)) := if_pos h
@[simp] theorem oFdiv_int {s : St} {i j : Int} (h : 0 < j ∧ j < 1073741824) : oFdiv s (.val (.int i)) (.val (.int j)) = some (.int (i / j)) := if_pos h
@[simp] theorem chainK_t (f g : Op2) (c : EM) (r : Env) (x y : Opd) (s : St) : chainK f g c r x y s (some (.bl true)) = (c r s).bind (op2B g y) := rfl
@[simp] theorem chainK_f (f g : Op2) (c : EM) (r : Env) (x y : Opd) (s : St) : chainK f g c r x y s (some (.bl false)) = .ok (.val (.bl false)) s := rfl
theorem chain_int {f g : Op2} {a b c : EM} {r : Env} {s : St} {x y z : Opd} {p q : Bool} (ha : a r s = .ok x s) (hb : b r s = .ok y s) (hf : f s x y = some (.bl p)) (hc : c r s = .ok z s) (hg : g s y z = some (.bl q)) : eChain f g a b c r s = .ok (.val (.bl (p && q))) s := by
  rw [eChain_ap, ha, bindok, chA_ap, hb, bindok, chB_ap, hf]
  cases p
  · rfl
  · rw [chainK_t, hc, bindok, op2B_ap, hg]; rfl
end Mir
/-! Q0: simp rules for the newer constructs. -/
namespace Mir
@[simp] theorem dctU_int (s : St) (i : Int) : dctU s (.val (.int i)) = none := rfl
@[simp] theorem dctU_str (s : St) (i : Tx) : dctU s (.val (.str i)) = none := rfl
@[simp] theorem dctU_bl (s : St) (i : Bool) : dctU s (.val (.bl i)) = none := rfl
@[simp] theorem dctU_non (s : St) : dctU s (.val .non) = none := rfl
@[simp] theorem dctU_lst (s : St) (xs : List D) : dctU s (.val (.lst xs)) = none := rfl
@[simp] theorem dctU_tup (s : St) (xs : List D) : dctU s (.val (.tup xs)) = none := rfl
@[simp] theorem dctU_blst (s : St) (xs : List D) : dctU s (.bor (.lst xs)) = none := rfl
theorem oEqA_of {s : St} {x y : Opd} (h : dctU s x = none) : oEqA s x y = oEq s x y := by simp [oEqA, eqA, h, oEq]
theorem oNeA_of {s : St} {x y : Opd} (h : dctU s x = none) : oNeA s x y = oNe s x y := by simp [oNeA, eqA, h, oNe]
@[simp] theorem oEqA_int (s : St) (i : Int) (y : Opd) : oEqA s (.val (.int i)) y = oEq s (.val (.int i)) y := oEqA_of rfl
@[simp] theorem oNeA_int (s : St) (i : Int) (y : Opd) : oNeA s (.val (.int i)) y = oNe s (.val (.int i)) y := oNeA_of rfl
@[simp] theorem oEqA_str (s : St) (i : Tx) (y : Opd) : oEqA s (.val (.str i)) y = oEq s (.val (.str i)) y := oEqA_of rfl
@[simp] theorem oNeA_str (s : St) (i : Tx) (y : Opd) : oNeA s (.val (.str i)) y = oNe s (.val (.str i)) y := oNeA_of rfl
@[simp] theorem oEqA_bl (s : St) (i : Bool) (y : Opd) : oEqA s (.val (.bl i)) y = oEq s (.val (.bl i)) y := oEqA_of rfl
@[simp] theorem oNeA_bl (s : St) (i : Bool) (y : Opd) : oNeA s (.val (.bl i)) y = oNe s (.val (.bl i)) y := oNeA_of rfl
@[simp] theorem oEqA_lst (s : St) (i : List D) (y : Opd) : oEqA s (.val (.lst i)) y = oEq s (.val (.lst i)) y := oEqA_of rfl
@[simp] theorem oNeA_lst (s : St) (i : List D) (y : Opd) : oNeA s (.val (.lst i)) y = oNe s (.val (.lst i)) y := oNeA_of rfl
@[simp] theorem oEqA_tup (s : St) (i : List D) (y : Opd) : oEqA s (.val (.tup i)) y = oEq s (.val (.tup i)) y := oEqA_of rfl
@[simp] theorem oNeA_tup (s : St) (i : List D) (y : Opd) : oNeA s (.val (.tup i)) y = oNe s (.val (.tup i)) y := oNeA_of rfl
@[simp] theorem truth_bl (s : St) (b : Bool) : truth s (.val (.bl b)) = some b := rfl
@[simp] theorem oMul_lit {s : St} {j : Int} (i : Int) (h : small64 i = true) : oMul s (.val (.int i)) (.val (.int j)) = some (.int (i * j)) := by simp [oMul, h]
/-- a loop by a measure and what stays -/
theorem while_by {t : TM} {body : SM} {s : St} (I : Env → Prop) (m : Env → Nat) (hstep : ∀ r, I r → (t r s = .ok false s) ∨ (t r s = .ok true s ∧ ∃ r', body r s = .nx r' s ∧ I r' ∧ m r' < m r)) :
    ∀ (n : Nat) (r : Env), I r → m r < n → ∃ r', whileLoop t body n r s = .nx r' s ∧ I r' ∧ t r' s = .ok false s
  | 0, r, _, h => absurd h (Nat.not_lt_zero _)
  | n + 1, r, hi, h => by
    unfold whileLoop
    rcases hstep r hi with h1 | ⟨h1, r', h2, h3, h4⟩
    · rw [h1]
      exact ⟨r, rfl, hi, h1⟩
    · rw [h1]
      dsimp only
      rw [h2]
      exact while_by I m hstep n r' h3 (by omega)
/-- .. whatever the store -/
theorem while_all {t : TM} {body : SM} (I : Env → Prop) (m : Env → Nat) (hstep : ∀ r, I r → (∀ s, t r s = .ok false s) ∨ ((∀ s, t r s = .ok true s) ∧ ∃ r', (∀ s, body r s = .nx r' s) ∧ I r' ∧ m r' < m r)) :
    ∀ (n : Nat) (r : Env), I r → m r < n → ∃ r', (∀ s, whileLoop t body n r s = .nx r' s) ∧ I r' ∧ ∀ s, t r' s = .ok false s
  | 0, r, _, h => absurd h (Nat.not_lt_zero _)
  | n + 1, r, hi, h => by
    rcases hstep r hi with h1 | ⟨h1, r', h2, h3, h4⟩
    · refine ⟨r, fun s => ?_, hi, h1⟩
      unfold whileLoop
      rw [h1]
    · obtain ⟨r2, k1, k2, k3⟩ := while_all I m hstep n r' h3 (by omega)
      refine ⟨r2, fun s => ?_, k2, k3⟩
      unfold whileLoop
      rw [h1]
      dsimp only
      rw [h2]
      exact k1 s
end Mir
/-! Q1: days, plain. -/
namespace K04
open Mir
def long (y : Int) : Bool := decide (y % 4 = 0) && (!decide (y % 100 = 0) || decide (y % 400 = 0))
theorem is_long_ok (y : Int) (st : St) : f_is_long [.int y] st = .ok (.bl (long y)) st := by
  refine fn_rt rfl ?_
  unfold b_is_long long
  by_cases h1 : y % 4 = 0 <;> by_cases h2 : y % 100 = 0 <;> by_cases h3 : y % 400 = 0 <;> simp [h1, h2, h3]
def md (y m : Int) : Int := if m = 2 then (if long y = true then 29 else 28) else if m = 4 ∨ m = 6 ∨ m = 9 ∨ m = 11 then 30 else 31
theorem month_days_ok {y m : Int} (hy : 1 ≤ y ∧ y ≤ 3000) (hm : 1 ≤ m ∧ m ≤ 12) (st : St) : f_month_days [.int y, .int m] st = .ok (.int (md y m)) st := by
  refine fn_rt rfl ?_
  unfold b_month_days md
  have hl := is_long_ok y st
  rcases (by omega : m = 1 ∨ m = 2 ∨ m = 3 ∨ m = 4 ∨ m = 5 ∨ m = 6 ∨ m = 7 ∨ m = 8 ∨ m = 9 ∨ m = 10 ∨ m = 11 ∨ m = 12) with h | h | h | h | h | h | h | h | h | h | h | h <;> subst h <;> cases hlo : long y <;> rw [hlo] at hl <;> simp [hl, hy, oGet, dctOf, oIx, seqOf, atD, ixD]
def ys (y : Int) : Int := 365 * (y - 1) + (y - 1) / 4 - (y - 1) / 100 + (y - 1) / 400
theorem year_start_ok (y : Int) (st : St) : f_year_start [.int y] st = .ok (.int (ys y)) st := by
  refine fn_rt rfl ?_
  unfold b_year_start ys
  simp [small64]
/-- the days of the months ahead of m -/
def cum (y m : Int) : Int := (if m = 1 then 0 else if m = 2 then 31 else if m = 3 then 59 else if m = 4 then 90 else if m = 5 then 120 else if m = 6 then 151 else if m = 7 then 181 else if m = 8 then 212 else if m = 9 then 243 else if m = 10 then 273 else if m = 11 then 304 else 334) + (if 2 < m ∧ long y = true then 1 else 0)
theorem m12 {m : Int} (hm : 1 ≤ m ∧ m ≤ 12) : m = 1 ∨ m = 2 ∨ m = 3 ∨ m = 4 ∨ m = 5 ∨ m = 6 ∨ m = 7 ∨ m = 8 ∨ m = 9 ∨ m = 10 ∨ m = 11 ∨ m = 12 := by omega
theorem cum_next {y m : Int} (hm : 1 ≤ m ∧ m < 12) : cum y (m + 1) = cum y m + md y m := by
  rcases m12 (m := m) ⟨hm.1, by omega⟩ with h | h | h | h | h | h | h | h | h | h | h | h <;> subst h <;> cases hlo : long y <;> simp [cum, md, hlo] at *
theorem ys_next (y : Int) : ys (y + 1) = ys y + (365 + if long y = true then 1 else 0) := by
  unfold ys long
  by_cases h1 : y % 4 = 0 <;> by_cases h2 : y % 100 = 0 <;> by_cases h3 : y % 400 = 0 <;> simp [h1, h2, h3] <;> omega
theorem md_12 (y : Int) : cum y 12 + md y 12 = 365 + if long y = true then 1 else 0 := by cases hlo : long y <;> simp [cum, md, hlo]
theorem md_pos (y m : Int) : 28 ≤ md y m ∧ md y m ≤ 31 := by
  unfold md
  repeat' split
  all_goals omega
theorem cum_pos {y m : Int} (hm : 1 ≤ m ∧ m ≤ 12) : 0 ≤ cum y m := by
  unfold cum
  repeat' split
  all_goals omega
theorem genLoop_sum {tg : Tg} {t : TM} {e : EM} {vs : List Nat} {r : Env} {s : St} (v : D → Int) (Bd : Int) (hB : 0 ≤ Bd) : ∀ (ds : List D) (c : Int), (∀ d ∈ ds, ∃ r1, bindT tg d (wipeE vs r) = some r1 ∧ t r1 s = .ok true s ∧ e r1 s = .ok (.val (.int (v d))) s ∧ 0 ≤ v d ∧ v d ≤ Bd) → 0 ≤ c → c + Bd * ds.length < 2 ^ 62 → Bd < 2 ^ 62 →
    genLoop cSum tg t e vs .free r ds c s = .ok (c + (ds.map v).sum) s
  | [], c, _, _, _, _ => by simp [genLoop]
  | d :: ds, c, h, h0, h1, h2 => by
    obtain ⟨r1, a1, a2, a3, a4, a5⟩ := h d List.mem_cons_self
    have h1' : c + Bd * ((ds.length : Int) + 1) < 2 ^ 62 := by simpa using h1
    have e1 : Bd * ((ds.length : Int) + 1) = Bd * (ds.length : Int) + Bd := by rw [Int.mul_add, Int.mul_one]
    have nn : 0 ≤ Bd * (ds.length : Int) := Int.mul_nonneg hB (by omega)
    unfold genLoop
    rw [a1]
    dsimp only
    rw [a2]
    dsimp only
    rw [a3]
    dsimp only
    have c1 : cSum c (.int (v d)) = some (c + v d, false) := by
      show (if long63 (v d) = true ∧ long63 (c + v d) = true then some (c + v d, false) else none) = _
      rw [if_pos]
      unfold long63
      simp only [Bool.and_eq_true, decide_eq_true_eq]
      omega
    rw [c1]
    dsimp only
    rw [if_pos (show Watch.free.ok s = true from rfl), genLoop_sum v Bd hB ds (c + v d) (fun d hd => h d (List.mem_cons_of_mem _ hd)) (by omega) (by omega) h2]
    simp [Int.add_assoc]
def mdD (y : Int) : D → Int
  | .int k => md y k
  | _ => 0
theorem cum_sum {y m : Int} (hm : 1 ≤ m ∧ m ≤ 12) : ((rangeD 1 m).map (mdD y)).sum = cum y m := by
  rcases m12 hm with h | h | h | h | h | h | h | h | h | h | h | h <;> subst h <;> cases hlo : long y <;> simp [cum, rangeD, mdD, md, hlo, List.range, List.range.loop]
theorem eSum_ok {y m : Int} (hy : 1 ≤ y ∧ y ≤ 3000) (hm : 1 ≤ m ∧ m ≤ 12) (a b : Slot) (st : St) (r : Env) (h0 : r = [.val (.int y), .val (.int m), a, b]) :
    eSumG (Mir.iRng2 (eC (.int 1)) (eV 1)) (.nm 3) Mir.tYes (eCall f_month_days (aCons (eV 0) (aCons (eV 3) aNil))) [3] r st = .ok (.val (.int (cum y m))) st := by
  subst h0
  unfold eSumG eGen
  have hi : Mir.iRng2 (eC (.int 1)) (eV 1) [.val (.int y), .val (.int m), a, b] st = .ok (rangeD 1 m, .free) st := by
    simp
    exact rng2K_int st (by omega)
  rw [hi, bindok]
  dsimp only
  rw [if_pos (show Watch.free.ok st = true from rfl)]
  have k1 : ∀ d ∈ rangeD 1 m, ∃ r1, bindT (.nm 3) d (wipeE [3] [.val (.int y), .val (.int m), a, b]) = some r1 ∧ Mir.tYes r1 st = .ok true st ∧ eCall f_month_days (aCons (eV 0) (aCons (eV 3) aNil)) r1 st = .ok (.val (.int (mdD y d))) st ∧ 0 ≤ mdD y d ∧ mdD y d ≤ 31 := fun d hd => by
    unfold rangeD at hd
    obtain ⟨k, hk, rfl⟩ := List.mem_map.mp hd
    have hk2 : k < (m - 1).toNat := List.mem_range.mp hk
    have := md_pos y (1 + (k : Int))
    refine ⟨[.val (.int y), .val (.int m), a, .val (.int (1 + (k : Int)))], by simp, by simp, ?_, by simp only [mdD]; omega, by simp only [mdD]; omega⟩
    simp [month_days_ok hy (m := 1 + (k : Int)) (by omega) st, mdD]
  have k2 : (0 : Int) + 31 * (rangeD 1 m).length < 2 ^ 62 := by
    have : (rangeD 1 m).length = (m - 1).toNat := by simp [rangeD]
    rw [this]
    omega
  rw [genLoop_sum (mdD y) 31 (by omega) (rangeD 1 m) 0 k1 (by omega) k2 (by omega), cum_sum hm]
  simp [genK]
theorem day_of_ok {y m d : Int} (hy : 1 ≤ y ∧ y ≤ 3000) (hm : 1 ≤ m ∧ m ≤ 12) (hd : 1 ≤ d ∧ d ≤ md y m) (st : St) : f_day_of [.int y, .int m, .int d] st = .ok (.int (ys y + cum y m + d - 1)) st := by
  refine fn_rt rfl ?_
  unfold b_day_of
  have h1 := month_days_ok hy hm st
  have h2 := year_start_ok y st
  have h3 := eSum_ok hy hm (.val (.int d)) .no st _ rfl
  rw [sSeq_ap]
  simp [h1, h2, hd]
  rw [h3]
  simp
theorem ys_le {b : Int} (hb : 0 ≤ b) : ys (b + 1) ≤ 366 * b := by
  unfold ys
  have : b + 1 - 1 = b := by omega
  rw [this]
  omega
/-- the loop over years -/
theorem year_loop {n y0 : Int} (hy : 1 ≤ y0 ∧ y0 ≤ 3000) (h0 : ys y0 ≤ n) (h1 : n < ys 3001) : ∃ y, (∀ st, whileLoop (Mir.tAnd (tE (eOp2 oLt (eV 1) (eC (.int 3000)))) (tE (eOp2 oLe (eCall f_year_start (aCons (eOp2 oAdd (eV 1) (eC (.int 1))) aNil)) (eV 0)))) (sAug 1 oAdd (eC (.int 1))) fuel [.val (.int n), .val (.int y0), .no, .no] st = .nx [.val (.int n), .val (.int y), .no, .no] st) ∧
    1 ≤ y ∧ y ≤ 3000 ∧ ys y ≤ n ∧ n < ys (y + 1) := by
  obtain ⟨r', a1, ⟨y, rfl, a2, a3, a4⟩, a5⟩ := while_all (t := Mir.tAnd (tE (eOp2 oLt (eV 1) (eC (.int 3000)))) (tE (eOp2 oLe (eCall f_year_start (aCons (eOp2 oAdd (eV 1) (eC (.int 1))) aNil)) (eV 0)))) (body := sAug 1 oAdd (eC (.int 1)))
    (fun r => ∃ y : Int, r = [.val (.int n), .val (.int y), .no, .no] ∧ 1 ≤ y ∧ y ≤ 3000 ∧ ys y ≤ n) (fun r => match r with | [_, .val (.int y), _, _] => (3000 - y).toNat | _ => 0) (fun r ⟨y, hr, b1, b2, b3⟩ => by
      subst hr
      have hs := year_start_ok (y + 1)
      by_cases c1 : y < 3000
      · by_cases c2 : ys (y + 1) ≤ n
        · refine .inr ⟨fun st => by simp [c1, hs, c2], [.val (.int n), .val (.int (y + 1)), .no, .no], fun st => by simp [augK], ⟨y + 1, rfl, by omega, by omega, c2⟩, by dsimp only; omega⟩
        · exact .inl fun st => by simp [c1, hs, c2]
      · exact .inl fun st => by simp [c1]) fuel [.val (.int n), .val (.int y0), .no, .no] ⟨y0, rfl, hy.1, hy.2, h0⟩ (by dsimp only; unfold fuel; omega)
  refine ⟨y, a1, a2, a3, a4, ?_⟩
  have hs := year_start_ok (y + 1) []
  have a5 := a5 []
  by_cases c1 : y < 3000
  · by_cases c2 : ys (y + 1) ≤ n
    · simp [c1, hs, c2] at a5
    · omega
  · have : y = 3000 := by omega
    subst this
    exact h1
/-- the loop over months -/
theorem month_loop {n y left0 : Int} (hy : 1 ≤ y ∧ y ≤ 3000) (h0 : 0 ≤ left0) (h1 : left0 < 365 + if long y = true then 1 else 0) : ∃ m left, (∀ st, whileLoop (tE (eOp2 oGe (eV 2) (eCall f_month_days (aCons (eV 1) (aCons (eV 3) aNil))))) (sSeq (sAug 2 oSub (eCall f_month_days (aCons (eV 1) (aCons (eV 3) aNil)))) (sAug 3 oAdd (eC (.int 1)))) fuel
      [.val (.int n), .val (.int y), .val (.int left0), .val (.int 1)] st = .nx [.val (.int n), .val (.int y), .val (.int left), .val (.int m)] st) ∧ 1 ≤ m ∧ m ≤ 12 ∧ 0 ≤ left ∧ left < md y m ∧ left0 = cum y m + left := by
  obtain ⟨r', a1, ⟨m, left, rfl, a2, a3, a4, a6⟩, a5⟩ := while_all (t := tE (eOp2 oGe (eV 2) (eCall f_month_days (aCons (eV 1) (aCons (eV 3) aNil))))) (body := sSeq (sAug 2 oSub (eCall f_month_days (aCons (eV 1) (aCons (eV 3) aNil)))) (sAug 3 oAdd (eC (.int 1))))
    (fun r => ∃ m left : Int, r = [.val (.int n), .val (.int y), .val (.int left), .val (.int m)] ∧ 1 ≤ m ∧ m ≤ 12 ∧ 0 ≤ left ∧ left0 = cum y m + left) (fun r => match r with | [_, _, _, .val (.int m)] => (12 - m).toNat | _ => 0) (fun r ⟨m, left, hr, b1, b2, b3, b4⟩ => by
      subst hr
      have hs := month_days_ok hy ⟨b1, b2⟩
      by_cases c2 : md y m ≤ left
      · have hm : m < 12 := by
          by_cases q : m < 12
          · exact q
          · have : m = 12 := by omega
            subst this
            have := md_12 y
            omega
        refine .inr ⟨fun st => by simp [hs, c2], [.val (.int n), .val (.int y), .val (.int (left - md y m)), .val (.int (m + 1))], fun st => by simp [hs, augK], ⟨m + 1, left - md y m, rfl, by omega, by omega, by omega, ?_⟩, by dsimp only; omega⟩
        rw [cum_next ⟨b1, hm⟩]
        omega
      · exact .inl fun st => by simp [hs, c2]) fuel [.val (.int n), .val (.int y), .val (.int left0), .val (.int 1)] ⟨1, left0, rfl, by omega, by omega, h0, by simp [cum]⟩ (by dsimp only; unfold fuel; omega)
  refine ⟨m, left, a1, a2, a3, a4, ?_, a6⟩
  have hs := month_days_ok hy ⟨a2, a3⟩ []
  have a5 := a5 []
  by_cases c2 : md y m ≤ left
  · simp [hs, c2] at a5
  · omega
theorem date_of_ok {n : Int} (h0 : 0 ≤ n) (h1 : n < ys 3001) : ∃ y m d, (∀ st, f_date_of [.int n] st = .ok (.tup [.int y, .int m, .int d]) st) ∧ 1 ≤ y ∧ y ≤ 3000 ∧ 1 ≤ m ∧ m ≤ 12 ∧ 1 ≤ d ∧ d ≤ md y m ∧ n = ys y + cum y m + d - 1 := by
  have e1 : ys 3001 = 1095727 := by decide
  have hq : 0 ≤ n / 366 := by omega
  have hle : ys (n / 366 + 1) ≤ n := Int.le_trans (ys_le hq) (by omega)
  obtain ⟨y, w1, y1, y2, y3, y4⟩ := year_loop (n := n) (y0 := n / 366 + 1) ⟨by omega, by omega⟩ hle h1
  rw [ys_next] at y4
  obtain ⟨m, left, w2, m1, m2, m3, m4, m5⟩ := month_loop (n := n) (y := y) (left0 := n - ys y) ⟨y1, y2⟩ (by omega) (by omega)
  refine ⟨y, m, left + 1, fun st => ?_, y1, y2, m1, m2, by omega, by omega, by omega⟩
  refine fn_rt rfl ?_
  unfold b_date_of
  have hs := year_start_ok 3001 st
  have hs2 := year_start_ok y st
  unfold sWhile
  rw [sSeq_ap]
  simp [hs, h0, h1, hs2]
  rw [w1, seqK_nx, sSeq_ap]
  simp [hs2]
  rw [w2, seqK_nx]
  have hl : (3 : Nat) ≤ lim := by decide
  simp [hl]
theorem years_later_ok {n k : Int} (h0 : 0 ≤ n) (h1 : n < 1000000) (hk : 0 ≤ k ∧ k ≤ 200) : ∃ v, ∀ st, f_years_later [.int n, .int k] st = .ok (.int v) st := by
  have e1 : ys 3001 = 1095727 := by decide
  obtain ⟨y, m, d, a1, y1, y2, m1, m2, d1, d2, hn⟩ := date_of_ok h0 (by omega)
  have hy : y ≤ 2800 := by
    have := cum_pos (y := y) ⟨m1, m2⟩
    by_cases q : y ≤ 2800
    · exact q
    · have : ys y ≥ 1000000 := by
        unfold ys
        omega
      omega
  have hp := md_pos (y + k) m
  have a2 := month_days_ok (y := y + k) ⟨by omega, by omega⟩ ⟨m1, m2⟩
  have a3 := day_of_ok (y := y + k) (m := m) (d := if md (y + k) m < d then md (y + k) m else d) ⟨by omega, by omega⟩ ⟨m1, m2⟩ (by split <;> omega)
  refine ⟨ys (y + k) + cum (y + k) m + (if md (y + k) m < d then md (y + k) m else d) - 1, fun st => fn_rt rfl ?_⟩
  unfold b_years_later
  have q1 : (1 : Int) ≤ y + k := by omega
  have q2 : y + k ≤ 3000 := by omega
  rw [sSeq_ap]
  simp [a1, a2, a3, q1, q2]
end K04
/-! Q2: k04, plain: the store. -/
namespace K04
open Mir
/-! the store: cells 1 .. 20 are the tree -/
def rcd (m : Nat) (lv : Tx) (up : D) (ch : Nat) : Cell := .ins 1 [.str [m], .str lv, up, .str [120], .ref ch]
def fonds : Tx := [102, 111, 110, 100, 115]
def series : Tx := [115, 101, 114, 105, 101, 115]
def file : Tx := [102, 105, 108, 101]
def item : Tx := [105, 116, 101, 109]
def kUp : D := .str [117, 112]
def kKi : D := .str [107, 105, 110, 100, 115]
def kHo : D := .str [104, 111, 108, 100, 115]
def kGo : D := .str [103, 111, 110, 101]
def short : Tx := [115, 104, 111, 114, 116]
def lng : Tx := [108, 111, 110, 103]
def ever : Tx := [101, 118, 101, 114]
def upD : List (D × D) := [(.str [97], .non), (.str [98], .str [97]), (.str [99], .str [97]), (.str [100], .str [98]), (.str [101], .str [100]), (.str [102], .str [100])]
def tblD : List (D × D) := [(.str short, .int 5), (.str lng, .int 40), (.str ever, .non)]
def SS (dice up ks gs ow kn kd hs g2 : Cell) : St := [dice,
  .dct 0 [(.str [97], .ref 10), (.str [98], .ref 12), (.str [99], .ref 14), (.str [100], .ref 16), (.str [101], .ref 18), (.str [102], .ref 20)], .lst [.str [97]],
  .lst [.tup [.int 0, .str [97, 100, 100], .str [97], .non, .non], .tup [.int 0, .str [97, 100, 100], .str [98], .non, .str [97]], .tup [.int 0, .str [97, 100, 100], .str [99], .non, .str [97]], .tup [.int 0, .str [97, 100, 100], .str [100], .non, .str [98]], .tup [.int 0, .str [97, 100, 100], .str [101], .non, .str [100]], .tup [.int 0, .str [97, 100, 100], .str [102], .non, .str [100]]],
  .ins 2 [.ref 1, .ref 2, .ref 3],
  up, ks, gs, ow,
  .lst [.str [98], .str [99]], rcd 97 fonds .non 9,
  .lst [.str [100]], rcd 98 series (.str [97]) 11,
  .lst [], rcd 99 series (.str [97]) 13,
  .lst [.str [101], .str [102]], rcd 100 file (.str [98]) 15,
  .lst [], rcd 101 item (.str [100]) 17,
  .lst [], rcd 102 item (.str [100]) 19,
  kn, kd, hs, g2,
  .ins 0 [.ref 4, .dct 0 tblD, .ref 21, .ref 22, .ref 23, .ref 24]]
/-- the state: kinds, holds, what is gone (the law's, the program's) -/
structure Md where
  ks : List (D × D)
  hs : List D
  gs : List (D × D)
  g2 : List (D × D)
def fstT : D → D
  | .tup (a :: _) => a
  | _ => .non
def sndT : D → D
  | .tup [_, b] => b
  | _ => .non
def kn (ks : List (D × D)) : List (D × D) := ks.map fun p => (p.1, fstT p.2)
def kd (ks : List (D × D)) : List (D × D) := ks.map fun p => (p.1, sndT p.2)
/-- up: the law's tree, locked or not -/
def S (up : Cell) (di : Cell) (σ : Md) : St := SS di up (.dct 0 σ.ks) (.dct 0 σ.gs) (.dct 0 [(kUp, .ref 5), (kKi, .ref 6), (kHo, .lst σ.hs), (kGo, .ref 7)]) (.dct 0 (kn σ.ks)) (.dct 0 (kd σ.ks)) (.lst σ.hs) (.dct 0 σ.g2)
def upU : Cell := .dct 0 upD
def upL : Cell := .lck 0 upD
def IsUp (up : Cell) : Prop := up = upU ∨ up = upL
def lineT (m : Nat) : List D := if m = 97 then [.str [97]] else if m = 98 then [.str [98], .str [97]] else if m = 99 then [.str [99], .str [97]] else if m = 100 then [.str [100], .str [98], .str [97]] else if m = 101 then [.str [101], .str [100], .str [98], .str [97]] else [.str [102], .str [100], .str [98], .str [97]]
def underT (m : Nat) : List D := if m = 97 then [.str [97], .str [98], .str [100], .str [101], .str [102], .str [99]] else if m = 98 then [.str [98], .str [100], .str [101], .str [102]] else if m = 99 then [.str [99]] else if m = 100 then [.str [100], .str [101], .str [102]] else if m = 101 then [.str [101]] else [.str [102]]
def lunderT (m : Nat) : List D := if m = 97 then [.str [97], .str [98], .str [99], .str [100], .str [101], .str [102]] else if m = 98 then [.str [98], .str [100], .str [101], .str [102]] else if m = 99 then [.str [99]] else if m = 100 then [.str [100], .str [101], .str [102]] else if m = 101 then [.str [101]] else [.str [102]]
def Mk (m : Nat) : Prop := 97 ≤ m ∧ m ≤ 102
theorem mk6 {m : Nat} (h : Mk m) : m = 97 ∨ m = 98 ∨ m = 99 ∨ m = 100 ∨ m = 101 ∨ m = 102 := by unfold Mk at h; omega
section
variable {up di : Cell} {σ : Md} {m : Nat}
theorem line_ok (h : Mk m) : f_Holdings_line [.ref 4, .str [m]] (S up di σ) = .ok (.tup (lineT m)) (S up di σ) := by
  rcases mk6 h with h | h | h | h | h | h <;> subst h <;> kernel_rfl
theorem under_ok (h : Mk m) : f_Holdings_under [.ref 4, .str [m]] (S up di σ) = .ok (.tup (underT m)) (S up di σ) := by
  rcases mk6 h with h | h | h | h | h | h <;> subst h <;> kernel_rfl
def allT : List D := [.str [97], .str [98], .str [100], .str [101], .str [102], .str [99]]
theorem all_ok : f_Holdings_all_marks [.ref 4] (S up di σ) = .ok (.tup allT) (S up di σ) := by kernel_rfl
theorem rec_ok (h : Mk m) : ∃ n, f_Holdings_record [.ref 4, .str [m]] (S up di σ) = .ok (.ref n) (S up di σ) := by
  rcases mk6 h with h | h | h | h | h | h <;> subst h
  · exact ⟨10, by kernel_rfl⟩
  · exact ⟨12, by kernel_rfl⟩
  · exact ⟨14, by kernel_rfl⟩
  · exact ⟨16, by kernel_rfl⟩
  · exact ⟨18, by kernel_rfl⟩
  · exact ⟨20, by kernel_rfl⟩
theorem rec_z : f_Holdings_record [.ref 4, .str [122]] (S up di σ) = .exc 2 (S up di σ) := by kernel_rfl
theorem lline_ok (hu : IsUp up) (h : Mk m) : f_law_line [.ref 5, .str [m]] (S up di σ) = .ok (.lst (lineT m)) (S up di σ) := by
  rcases hu with rfl | rfl <;> rcases mk6 h with h | h | h | h | h | h <;> subst h <;> kernel_rfl
theorem lunder_ok (h : Mk m) : f_law_under [.ref 5, .str [m]] (S upU di σ) = .ok (.lst (lunderT m)) (S upU di σ) := by
  rcases mk6 h with h | h | h | h | h | h <;> subst h <;> kernel_rfl
theorem g0 : (S up di σ)[0]? = some di := rfl
theorem g4 : (S up di σ)[4]? = some (.ins 2 [.ref 1, .ref 2, .ref 3]) := rfl
theorem g5 : (S up di σ)[5]? = some up := rfl
theorem g6 : (S up di σ)[6]? = some (.dct 0 σ.ks) := rfl
theorem g7 : (S up di σ)[7]? = some (.dct 0 σ.gs) := rfl
theorem g8 : (S up di σ)[8]? = some (.dct 0 [(kUp, .ref 5), (kKi, .ref 6), (kHo, .lst σ.hs), (kGo, .ref 7)]) := rfl
theorem g21 : (S up di σ)[21]? = some (.dct 0 (kn σ.ks)) := rfl
theorem g22 : (S up di σ)[22]? = some (.dct 0 (kd σ.ks)) := rfl
theorem g23 : (S up di σ)[23]? = some (.lst σ.hs) := rfl
theorem g24 : (S up di σ)[24]? = some (.dct 0 σ.g2) := rfl
theorem g25 : (S up di σ)[25]? = some (.ins 0 [.ref 4, .dct 0 tblD, .ref 21, .ref 22, .ref 23, .ref 24]) := rfl
theorem slen : (S up di σ).length = 26 := rfl
theorem sdi (c : Cell) : (S up di σ).set 0 c = S up c σ := rfl
end
end K04
/-! Q3: k04, plain: held, ends, over. -/
namespace Mir
theorem genLoop_any {tg : Tg} {t : TM} {e : EM} {vs : List Nat} {w : Watch} {r : Env} {s : St} (v : D → Bool) (hw : w.ok s = true) : ∀ (ds : List D), (∀ d ∈ ds, ∃ r1, bindT tg d (wipeE vs r) = some r1 ∧ t r1 s = .ok true s ∧ e r1 s = .ok (.val (.bl (v d))) s) →
    genLoop cAny tg t e vs w r ds false s = .ok (ds.any v) s
  | [], _ => rfl
  | d :: ds, h => by
    obtain ⟨r1, a1, a2, a3⟩ := h d List.mem_cons_self
    unfold genLoop
    rw [a1]
    dsimp only
    rw [a2]
    dsimp only
    rw [a3]
    dsimp only
    cases hv : v d with
    | true => simp [cAny, hv]
    | false =>
      simp only [cAny]
      rw [if_pos hw, genLoop_any v hw ds fun d hd => h d (List.mem_cons_of_mem _ hd)]
      simp [hv]
theorem genLoop_all {tg : Tg} {t : TM} {e : EM} {vs : List Nat} {w : Watch} {r : Env} {s : St} (v : D → Bool) (hw : w.ok s = true) : ∀ (ds : List D), (∀ d ∈ ds, ∃ r1, bindT tg d (wipeE vs r) = some r1 ∧ t r1 s = .ok true s ∧ e r1 s = .ok (.val (.bl (v d))) s) →
    genLoop cAll tg t e vs w r ds true s = .ok (ds.all v) s
  | [], _ => rfl
  | d :: ds, h => by
    obtain ⟨r1, a1, a2, a3⟩ := h d List.mem_cons_self
    unfold genLoop
    rw [a1]
    dsimp only
    rw [a2]
    dsimp only
    rw [a3]
    dsimp only
    cases hv : v d with
    | false => simp [cAll, hv]
    | true =>
      simp only [cAll, Bool.not_true]
      rw [if_pos hw, genLoop_all v hw ds fun d hd => h d (List.mem_cons_of_mem _ hd)]
      simp [hv]
theorem in_dct {s : St} {n : Nat} {ps : List (D × D)} (h : s[n]? = some (.dct 0 ps)) (k : Tx) : oIn s (.val (.str k)) (.val (.ref n)) = some (.bl (hasD ps (.str k))) := by
  simp [oIn, inD, dctOf, h, kOk, flatK]
theorem nin_dct {s : St} {n : Nat} {ps : List (D × D)} (h : s[n]? = some (.dct 0 ps)) (k : Tx) : oNotIn s (.val (.str k)) (.val (.ref n)) = some (.bl (!hasD ps (.str k))) := by
  simp [oNotIn, inD, dctOf, h, kOk, flatK]
theorem get_dct {s : St} {n : Nat} {ps : List (D × D)} (h : s[n]? = some (.dct 0 ps)) (k : Tx) : oGet s (.val (.ref n)) (.val (.str k)) = lookD ps (.str k) := by
  simp [oGet, dctOf, h, kOk, flatK]
theorem shap_ones (l : List D) : shapL 19 (l.map fun _ => D.int 1) = true := by
  induction l with
  | nil => rfl
  | cons a l ih => simpa [shapL, shap] using ih
theorem ones_nil {l : List D} (c : D → Bool) : ((l.filter c).map fun _ => D.int 1).isEmpty = !l.any c := by
  induction l with
  | nil => rfl
  | cons a l ih =>
    cases h : c a
    · simp [h] at ih ⊢
      exact ih
    · simp [h]
theorem eq_ones {s : St} {l : List D} (c : D → Bool) (hl : l.length ≤ lim) : oEq s (.val (.lst ((l.filter c).map fun _ => .int 1))) (.val (.lst [])) = some (.bl (!l.any c)) := by
  have h1 : ((l.filter c).map fun _ => D.int 1).length ≤ lim := by
    rw [List.length_map]
    exact Nat.le_trans (List.length_filter_le _ _) hl
  have h2 := shap_ones (l.filter c)
  have e : eqv (.lst ((l.filter c).map fun _ => D.int 1)) (.lst []) = ((l.filter c).map fun _ => D.int 1).isEmpty := by
    cases (l.filter c).map fun _ => D.int 1 <;> simp [eqv, eqvL]
  have s1 : shap 20 (.lst ((l.filter c).map fun _ => D.int 1)) = true := by
    unfold shap
    simp [h2]
    simpa using h1
  have s2 : shap 20 (.lst []) = true := by simp [shap, shapL]
  simp only [oEq, eqD, look, scalD, s1, s2, Bool.false_eq_true, if_false, true_and, if_true, Option.map_some, e, ones_nil]
theorem ne_ones {s : St} {l : List D} (c : D → Bool) (hl : l.length ≤ lim) : oNe s (.val (.lst ((l.filter c).map fun _ => .int 1))) (.val (.lst [])) = some (.bl (l.any c)) := by
  have := eq_ones (s := s) c hl
  simp only [oEq, oNe, Option.map_eq_some_iff] at this ⊢
  obtain ⟨b, h1, h2⟩ := this
  exact ⟨b, h1, by cases h2; simp⟩
end Mir
namespace K04
open Mir
def Row (d : D) : Prop := ∃ n m, d = .tup [.str [104, n], .str [m]] ∧ (n = 48 ∨ n = 49) ∧ Mk m
def KindOk (d : D) : Prop := ∃ k l, d = .tup [.str k, .int l] ∧ (k = short ∨ k = lng ∨ k = ever) ∧ 600000 ≤ l ∧ l < 605000
def MkD (d : D) : Prop := ∃ m, d = .str [m] ∧ Mk m
structure Ok (σ : Md) : Prop where
  hs : ∀ d ∈ σ.hs, Row d
  hn : σ.hs.Nodup
  hl : σ.hs.length ≤ 12
  ks : ∀ p ∈ σ.ks, MkD p.1 ∧ KindOk p.2
  kn : (σ.ks.map (·.1)).Nodup
  gk : ∀ p ∈ σ.gs, MkD p.1 ∧ ∃ i, p.2 = .int i
  gn : (σ.gs.map (·.1)).Nodup
  g2 : ∀ k, lookD σ.g2 k = lookD σ.gs k
  gl : σ.g2.length = σ.gs.length
  g2n : (σ.g2.map (·.1)).Nodup
def heldB (hs : List D) (m : Nat) : Bool := hs.any fun row => (lineT m).any fun z => eqv z (sndT row)
theorem is_held_ok {up di : Cell} {σ : Md} (o : Ok σ) {m : Nat} (h : Mk m) : f_Keeping_is_held [.ref 25, .str [m]] (S up di σ) = .ok (.bl (heldB σ.hs m)) (S up di σ) := by
  refine fn_rt rfl ?_
  have e1 : b_Keeping_is_held ([.ref 25, .str [m]].map Slot.val ++ List.replicate (5 - 2) Slot.no) (S up di σ) = sRet (eAny (iE (eFld 0 4 (eV 0))) (.tp [(.nm 3), (.nm 4)]) Mir.tYes (eOp2 oIn (eV 4) (eV 2)) [3, 4]) [.val (.ref 25), .val (.str [m]), .val (.tup (lineT m)), .no, .no] (S up di σ) := by
    unfold b_Keeping_is_held
    rw [sSeq_ap]
    simp [g25, g4, line_ok h]
  rw [e1, sRet_ap]
  unfold eAny eGen
  have e2 : iE (eFld 0 4 (eV 0)) [.val (.ref 25), .val (.str [m]), .val (.tup (lineT m)), .no, .no] (S up di σ) = .ok (σ.hs, .cel 23 (.lst σ.hs)) (S up di σ) := by kernel_rfl
  have hw : (Watch.cel 23 (.lst σ.hs)).ok (S up di σ) = true := by simp [Watch.ok, g23]
  rw [e2, bindok]
  dsimp only
  rw [if_pos hw, genLoop_any (fun row => (lineT m).any fun z => eqv z (sndT row)) hw σ.hs fun d hd => ?_]
  · rfl
  · obtain ⟨n, c, rfl, hn, hc⟩ := o.hs d hd
    refine ⟨[.val (.ref 25), .val (.str [m]), .val (.tup (lineT m)), .val (.str [104, n]), .val (.str [c])], rfl, rfl, ?_⟩
    rcases mk6 h with h | h | h | h | h | h <;> subst h <;> kernel_rfl
end K04
/-! Q4: k04, plain: ends, over. -/
namespace Mir
theorem look_map (f : D → D) : ∀ (ps : List (D × D)) (k : D), lookD (ps.map fun p => (p.1, f p.2)) k = (lookD ps k).map f
  | [], _ => rfl
  | (a, d) :: ps, k => by
    have := look_map f ps k
    simp only [lookD, List.map_cons, List.find?_cons] at this ⊢
    by_cases e : a = k
    · simp [e]
    · simp only [decide_eq_false e]
      exact this
theorem has_look : ∀ (ps : List (D × D)) (k : D), hasD ps k = (lookD ps k).isSome
  | [], _ => rfl
  | (a, d) :: ps, k => by
    have := has_look ps k
    simp only [lookD, hasD, List.find?_cons, List.any_cons] at this ⊢
    by_cases e : a = k
    · simp [e]
    · simp only [decide_eq_false e, Bool.false_or]
      exact this
theorem look_mem {k d : D} : ∀ {ps : List (D × D)}, lookD ps k = some d → (k, d) ∈ ps
  | [], h => by cases h
  | (a, x) :: ps, h => by
    by_cases e : a = k
    · simp [lookD, e] at h
      subst h e
      exact List.mem_cons_self
    · have : lookD ps k = some d := by
        simp only [lookD, List.find?_cons, decide_eq_false e] at h ⊢
        exact h
      exact List.mem_cons_of_mem _ (look_mem this)
end Mir
namespace K04
open Mir
noncomputable def Y (n k : Int) : Int := open Classical in if h : ∃ v, ∀ st, f_years_later [.int n, .int k] st = .ok (.int v) st then Classical.choose h else 0
theorem Y_ok {n k : Int} (h0 : 0 ≤ n) (h1 : n < 1000000) (hk : 0 ≤ k ∧ k ≤ 200) (st : St) : f_years_later [.int n, .int k] st = .ok (.int (Y n k)) st := by
  have h := years_later_ok h0 h1 hk
  unfold Y
  rw [dif_pos h]
  exact Classical.choose_spec h st
def yrs (k : Tx) : Int := if k = short then 5 else 40
noncomputable def endD (ks : List (D × D)) (m : Nat) : D := match lookD ks (.str [m]) with
  | some (.tup [.str k, .int l]) => if k = ever then .non else .int (Y l (yrs k))
  | _ => .non
theorem tbl_get (s : St) (k : Tx) : oGet s (.val (.dct 0 tblD)) (.val (.str k)) = lookD tblD (.str k) := by simp [oGet, dctOf, kOk, flatK]
theorem tbl_in (s : St) (k : Tx) : oNotIn s (.val (.str k)) (.val (.dct 0 tblD)) = some (.bl (!hasD tblD (.str k))) := by simp [oNotIn, inD, dctOf, kOk, flatK]
theorem ends_ok {up di : Cell} {σ : Md} (o : Ok σ) {m : Nat} (h : Mk m) : f_Keeping_ends [.ref 25, .str [m]] (S up di σ) = .ok (endD σ.ks m) (S up di σ) := by
  refine fn_rt rfl ?_
  have f1 : ∀ k, lookD (kn σ.ks) k = (lookD σ.ks k).map fstT := look_map fstT σ.ks
  have f2 : ∀ k, lookD (kd σ.ks) k = (lookD σ.ks k).map sndT := look_map sndT σ.ks
  unfold b_Keeping_ends endD
  have n1 := nin_dct (g21 (up := up) (di := di) (σ := σ)) [m]
  have n2 := get_dct (g21 (up := up) (di := di) (σ := σ)) [m]
  have n3 := get_dct (g22 (up := up) (di := di) (σ := σ)) [m]
  rw [has_look, f1] at n1
  rw [f1] at n2
  rw [f2] at n3
  rw [sSeq_ap]
  cases hk : lookD σ.ks (.str [m]) with
  | none =>
    rw [hk] at n1
    simp [g25, n1]
  | some d =>
    obtain ⟨_, k, l, rfl, hkk, hl1, hl2⟩ := o.ks _ (look_mem hk)
    rw [hk] at n1 n2 n3
    simp only [Option.map_some, fstT, sndT, Option.isSome_some] at n1 n2 n3
    rcases hkk with rfl | rfl | rfl
    · have y := Y_ok (n := l) (k := 5) (by omega) (by omega) (by omega) (S up di σ)
      have t := tbl_get (S up di σ) short
      have t2 : lookD tblD (.str short) = some (.int 5) := by decide
      have t3 : ¬ short = ever := by decide
      rw [t2] at t
      simp [g25, n1, n2, n3, t, y, yrs, t3]
    · have y := Y_ok (n := l) (k := 40) (by omega) (by omega) (by omega) (S up di σ)
      have t := tbl_get (S up di σ) lng
      have t2 : lookD tblD (.str lng) = some (.int 40) := by decide
      have t3 : ¬ lng = ever := by decide
      have t4 : ¬ lng = short := by decide
      rw [t2] at t
      simp [g25, n1, n2, n3, t, y, yrs, t3, t4]
    · have t := tbl_get (S up di σ) ever
      have t2 : lookD tblD (.str ever) = some .non := by decide
      rw [t2] at t
      simp [g25, n1, n2, n3, t]
/-- what is over on the day d -/
noncomputable def overB (σ : Md) (m : Nat) (d : Int) : Bool := hasD σ.gs (.str [m]) || (match endD σ.ks m with
  | .int e => decide (e ≤ d) && !heldB σ.hs m
  | _ => false)
theorem endD_cases {σ : Md} (o : Ok σ) (m : Nat) : endD σ.ks m = .non ∨ ∃ e, endD σ.ks m = .int e := by
  unfold endD
  split
  · split
    · exact .inl rfl
    · exact .inr ⟨_, rfl⟩
  · exact .inl rfl
theorem is_over_ok {up di : Cell} {σ : Md} (o : Ok σ) {m : Nat} (h : Mk m) (d : Int) : f_Keeping_is_over [.ref 25, .str [m], .int d] (S up di σ) = .ok (.bl (overB σ m d)) (S up di σ) := by
  refine fn_rt rfl ?_
  unfold b_Keeping_is_over overB
  have n1 := in_dct (g24 (up := up) (di := di) (σ := σ)) [m]
  rw [has_look, o.g2, ← has_look] at n1
  have e := ends_ok (up := up) (di := di) o h
  have hh := is_held_ok (up := up) (di := di) o h
  rw [sSeq_ap]
  cases hg : hasD σ.gs (.str [m]) with
  | true =>
    rw [hg] at n1
    simp [g25, n1]
  | false =>
    rw [hg] at n1
    rcases endD_cases o m with q | ⟨z, q⟩
    · rw [q] at e
      simp [g25, n1, e, q]
    · rw [q] at e
      by_cases hz : z ≤ d <;> simp [g25, n1, e, q, hz, hh]
end K04
/-! Q5: k04, plain: the law's over, what is due. -/
namespace K04
open Mir
section
variable {up di : Cell} {σ : Md} {m : Nat}
theorem own_up (s : St) : lookD [(kUp, .ref 5), (kKi, .ref 6), (kHo, .lst σ.hs), (kGo, .ref 7)] (.str [117, 112]) = some (.ref 5) := by simp [lookD, kUp, kKi, kHo, kGo]
theorem gUp : oGet (S up di σ) (.val (.ref 8)) (.val (.str [117, 112])) = some (.ref 5) := by rw [get_dct g8]; simp [lookD, kUp, kKi, kHo, kGo]
theorem gKi : oGet (S up di σ) (.val (.ref 8)) (.val (.str [107, 105, 110, 100, 115])) = some (.ref 6) := by rw [get_dct g8]; simp [lookD, kUp, kKi, kHo, kGo]
theorem gHo : oGet (S up di σ) (.val (.ref 8)) (.val (.str [104, 111, 108, 100, 115])) = some (.lst σ.hs) := by rw [get_dct g8]; simp [lookD, kUp, kKi, kHo, kGo]
theorem gGo : oGet (S up di σ) (.val (.ref 8)) (.val (.str [103, 111, 110, 101])) = some (.ref 7) := by rw [get_dct g8]; simp [lookD, kUp, kKi, kHo, kGo]
def heldC (m : Nat) (row : D) : Bool := (lineT m).any fun z => eqv z (sndT row)
theorem heldB_eq (hs : List D) (m : Nat) : heldB hs m = hs.any (heldC m) := rfl
theorem lheld_ok (o : Ok σ) (hu : IsUp up) (h : Mk m) (d : Int) :
    eFrz (nLc (iE (eOp2 oGet (eV 0) (eC (.str [104, 111, 108, 100, 115])))) (.tp [(.nm 5), (.nm 6)]) (tE (eOp2 oIn (eV 6) (eCall f_law_line (aCons (eOp2 oGet (eV 0) (eC (.str [117, 112]))) (aCons (eV 1) aNil))))) (eC (.int 1)) [5, 6]) [.val (.ref 8), .val (.str [m]), .val (.int d), .no, .no, .no, .no] (S up di σ)
      = .ok (.val (.lst ((σ.hs.filter (heldC m)).map fun _ => .int 1))) (S up di σ) := by
  rw [eFrz_ap, nLc_ap]
  have e1 : iE (eOp2 oGet (eV 0) (eC (.str [104, 111, 108, 100, 115]))) [.val (.ref 8), .val (.str [m]), .val (.int d), .no, .no, .no, .no] (S up di σ) = .ok (σ.hs, .free) (S up di σ) := by
    simp [gHo]
  rw [e1, bindok, nlcK_ap]
  dsimp only
  rw [if_pos (show Watch.free.ok (S up di σ) = true from rfl), lcLoop_map (heldC m) (fun _ => .int 1) σ.hs [] (fun row hr => ?_) (by have := o.hl; simp; unfold lim; omega)]
  · simp
  · obtain ⟨n, c, rfl, hn, hc⟩ := o.hs row hr
    refine ⟨[.val (.ref 8), .val (.str [m]), .val (.int d), .no, .no, .val (.str [104, n]), .val (.str [c])], rfl, ?_, fun _ => rfl⟩
    rcases hu with rfl | rfl <;> rcases mk6 h with h | h | h | h | h | h <;> subst h <;> rcases mk6 hc with h | h | h | h | h | h <;> subst h <;> kernel_rfl
theorem hl_lim (o : Ok σ) : σ.hs.length ≤ lim := by have := o.hl; unfold lim; omega
def tbl2D : List (D × D) := [(.str short, .int 5), (.str lng, .int 40)]
theorem dct3 (r : Env) (s : St) : eFrz (nDctL [((eC (.str [115, 104, 111, 114, 116])), (eC (.int 5))), ((eC (.str [108, 111, 110, 103])), (eC (.int 40))), ((eC (.str [101, 118, 101, 114])), (eC .non))]) r s = .ok (.val (.dct 0 tblD)) s := by kernel_rfl
theorem dct2 (r : Env) (s : St) : eFrz (nDctL [((eC (.str [115, 104, 111, 114, 116])), (eC (.int 5))), ((eC (.str [108, 111, 110, 103])), (eC (.int 40)))]) r s = .ok (.val (.dct 0 tbl2D)) s := by kernel_rfl
theorem tbl2_get (s : St) (k : Tx) : oGet s (.val (.dct 0 tbl2D)) (.val (.str k)) = lookD tbl2D (.str k) := by simp [oGet, dctOf, kOk, flatK]
theorem law_over_ok (o : Ok σ) (hu : IsUp up) (h : Mk m) (d : Int) : f_law_over [.ref 8, .str [m], .int d] (S up di σ) = .ok (.bl (overB σ m d)) (S up di σ) := by
  refine fn_rt rfl ?_
  unfold b_law_over overB
  have n1 := in_dct (g7 (up := up) (di := di) (σ := σ)) [m]
  have n2 := nin_dct (g6 (up := up) (di := di) (σ := σ)) [m]
  have n3 := get_dct (g6 (up := up) (di := di) (σ := σ)) [m]
  have lh : tE (eOp2 oNeA (eFrz (nLc (iE (eOp2 oGet (eV 0) (eC (.str [104, 111, 108, 100, 115])))) (.tp [(.nm 5), (.nm 6)]) (tE (eOp2 oIn (eV 6) (eCall f_law_line (aCons (eOp2 oGet (eV 0) (eC (.str [117, 112]))) (aCons (eV 1) aNil))))) (eC (.int 1)) [5, 6])) (eFrz (nLst aNil))) [.val (.ref 8), .val (.str [m]), .val (.int d), .no, .no, .no, .no] (S up di σ) = .ok (heldB σ.hs m) (S up di σ) := by
    rw [tE_ap, eOp2_ap, lheld_ok o hu h d, bindok, op2A_ap]
    simp [ne_ones (heldC m) (hl_lim o), heldB_eq]
  rw [sSeq_ap]
  rw [has_look] at n2
  show seqK (sIf _ _ _ [.val (.ref 8), .val (.str [m]), .val (.int d), .no, .no, .no, .no] (S up di σ)) _ = _
  cases hg : hasD σ.gs (.str [m]) with
  | true =>
    rw [hg] at n1
    simp [gGo, n1]
  | false =>
    rw [hg] at n1
    unfold endD
    cases hk : lookD σ.ks (.str [m]) with
    | none =>
      rw [hk] at n2
      simp [gGo, n1, gKi, n2]
    | some dd =>
      obtain ⟨_, k, l, rfl, hkk, hl1, hl2⟩ := o.ks _ (look_mem hk)
      rw [hk] at n2 n3
      simp only [Option.isSome_some] at n2
      rw [sIf_ap]
      have t0 : tE (eOp2 oIn (eV 1) (eOp2 oGet (eV 0) (eC (.str [103, 111, 110, 101])))) [.val (.ref 8), .val (.str [m]), .val (.int d), .no, .no, .no, .no] (S up di σ) = .ok false (S up di σ) := by simp [gGo, n1]
      have t1 : tE (eOp2 oNotIn (eV 1) (eOp2 oGet (eV 0) (eC (.str [107, 105, 110, 100, 115])))) [.val (.ref 8), .val (.str [m]), .val (.int d), .no, .no, .no, .no] (S up di σ) = .ok false (S up di σ) := by simp [gKi, n2]
      rw [t0, sBind_ok, sifK_ap, if_neg Bool.false_ne_true, sNext_ap, seqK_nx, sSeq_ap, sIf_ap, or_f t1, lh, sBind_ok, sifK_ap]
      cases hh : heldB σ.hs m with
      | true =>
        rcases hkk with rfl | rfl | rfl <;> simp [short, lng, ever]
      | false =>
        rw [if_neg Bool.false_ne_true, sNext_ap, seqK_nx, sSeq_ap]
        have hu4 : sUnp (.tp [(.nm 3), (.nm 4)]) (eOp2 oGet (eOp2 oGet (eV 0) (eC (.str [107, 105, 110, 100, 115]))) (eV 1)) [.val (.ref 8), .val (.str [m]), .val (.int d), .no, .no, .no, .no] (S up di σ) = .nx [.val (.ref 8), .val (.str [m]), .val (.int d), .val (.str k), .val (.int l), .no, .no] (S up di σ) := by simp [gKi, n3]
        rw [hu4, seqK_nx, sRet_ap, eAnd_ap, eOp2_ap, eOp2_ap, dct3, bindok, op2A_ap]
        rcases hkk with rfl | rfl | rfl
        · have y := Y_ok (n := l) (k := 5) (by omega) (by omega) (by omega) (S up di σ)
          have t := tbl_get (S up di σ) short
          have t2 : lookD tblD (.str short) = some (.int 5) := by decide
          have t5 : lookD tbl2D (.str short) = some (.int 5) := by decide
          have t3 : ¬ short = ever := by decide
          rw [t2] at t
          simp [-eFrz_ap, dct2, tbl2_get, t5, t, y, yrs, t3]
        · have y := Y_ok (n := l) (k := 40) (by omega) (by omega) (by omega) (S up di σ)
          have t := tbl_get (S up di σ) lng
          have t2 : lookD tblD (.str lng) = some (.int 40) := by decide
          have t5 : lookD tbl2D (.str lng) = some (.int 40) := by decide
          have t3 : ¬ lng = ever := by decide
          have t4 : ¬ lng = short := by decide
          rw [t2] at t
          simp [-eFrz_ap, dct2, tbl2_get, t5, t, y, yrs, t3, t4]
        · have t := tbl_get (S up di σ) ever
          have t2 : lookD tblD (.str ever) = some .non := by decide
          rw [t2] at t
          simp [t]
end
end K04
/-! Q6: k04, plain: what is due. -/
namespace K04
open Mir
noncomputable def overD (σ : Md) (d : Int) : D → Bool
  | .str [m] => overB σ m d
  | _ => false
def under (x : D) : List D := match x with
  | .str [m] => underT m
  | _ => []
noncomputable def dueC (σ : Md) (d : Int) (x : D) : Bool := !hasD σ.gs x && (under x).all (overD σ d)
theorem under_mk {m : Nat} (h : Mk m) : ∀ x ∈ underT m, MkD x := by
  rcases mk6 h with h | h | h | h | h | h <;> subst h <;> intro x hx <;> simp [underT] at hx <;> (try rcases hx with rfl | rfl | rfl | rfl | rfl | rfl) <;> (try rcases hx with rfl | rfl | rfl | rfl) <;> (try rcases hx with rfl | rfl | rfl) <;> (try subst hx) <;> exact ⟨_, rfl, by unfold Mk; omega⟩
theorem lunder_mk {m : Nat} (h : Mk m) : ∀ x ∈ lunderT m, MkD x := by
  rcases mk6 h with h | h | h | h | h | h <;> subst h <;> intro x hx <;> simp [lunderT] at hx <;> (try rcases hx with rfl | rfl | rfl | rfl | rfl | rfl) <;> (try rcases hx with rfl | rfl | rfl | rfl) <;> (try rcases hx with rfl | rfl | rfl) <;> (try subst hx) <;> exact ⟨_, rfl, by unfold Mk; omega⟩
theorem all_mk : ∀ x ∈ allT, MkD x := under_mk (m := 97) ⟨by omega, by omega⟩
theorem lunder_all {m : Nat} (h : Mk m) (p : D → Bool) : (lunderT m).all p = (underT m).all p := by
  rcases mk6 h with h | h | h | h | h | h <;> subst h <;> simp [lunderT, underT]
  cases p (.str [99]) <;> simp
section
variable {up di : Cell} {σ : Md}
theorem due_all (o : Ok σ) {m : Nat} (h : Mk m) (d : Int) (x2 x4 : Slot) : eAll (iE (eMeth 2 f_Holdings_under (eFld 0 0 (eV 0)) (aCons (eV 3) aNil))) (.nm 4) Mir.tYes (eMeth 0 f_Keeping_is_over (eV 0) (aCons (eV 4) (aCons (eV 1) aNil))) [4] [.val (.ref 25), .val (.int d), x2, .val (.str [m]), x4] (S up di σ) = .ok (.val (.bl ((underT m).all (overD σ d)))) (S up di σ) := by
  unfold eAll eGen
  have e1 : iE (eMeth 2 f_Holdings_under (eFld 0 0 (eV 0)) (aCons (eV 3) aNil)) [.val (.ref 25), .val (.int d), x2, .val (.str [m]), x4] (S up di σ) = .ok (underT m, .free) (S up di σ) := by
    simp [g25, g4, under_ok h]
  rw [e1, bindok]
  dsimp only
  rw [if_pos (show Watch.free.ok (S up di σ) = true from rfl), genLoop_all (overD σ d) rfl (underT m) fun x hx => ?_]
  · rfl
  · obtain ⟨c, rfl, hc⟩ := under_mk h x hx
    refine ⟨[.val (.ref 25), .val (.int d), x2, .val (.str [m]), .val (.str [c])], rfl, rfl, ?_⟩
    simp [g25, is_over_ok o hc d, overD]
def dueBody : SM := sIf (Mir.tAnd (tE (eOp2 oNotIn (eV 3) (eFld 0 5 (eV 0)))) (tTru (eAll (iE (eMeth 2 f_Holdings_under (eFld 0 0 (eV 0)) (aCons (eV 3) aNil))) (.nm 4) Mir.tYes (eMeth 0 f_Keeping_is_over (eV 0) (aCons (eV 4) (aCons (eV 1) aNil))) [4]))) (sAppV 2 (eV 3)) sNext
theorem due_loop (o : Ok σ) (d : Int) (x4 : Slot) : ∀ (ds found : List D) (x3 : Slot), (∀ x ∈ ds, MkD x) → found.length + ds.length ≤ 100 → ∃ x3', forLoop (.nm 3) dueBody .free ds [.val (.ref 25), .val (.int d), .own (.lst found), x3, x4] (S up di σ) = .nx [.val (.ref 25), .val (.int d), .own (.lst (found ++ ds.filter (dueC σ d))), x3', x4] (S up di σ)
  | [], found, x3, _, _ => ⟨x3, by simp [forLoop]⟩
  | x :: ds, found, x3, hd, hl => by
    obtain ⟨m, rfl, hm⟩ := hd _ List.mem_cons_self
    have hl2 : found.length + (ds.length + 1) ≤ 100 := hl
    have n1 := nin_dct (g24 (up := up) (di := di) (σ := σ)) [m]
    rw [has_look, o.g2, ← has_look] at n1
    have da := due_all (up := up) (di := di) o hm d (.own (.lst found)) x4
    have hb : dueBody [.val (.ref 25), .val (.int d), .own (.lst found), .val (.str [m]), x4] (S up di σ) = .nx [.val (.ref 25), .val (.int d), .own (.lst (found ++ if dueC σ d (.str [m]) = true then [.str [m]] else [])), .val (.str [m]), x4] (S up di σ) := by
      unfold dueBody
      rw [sIf_ap]
      have t0 : tE (eOp2 oNotIn (eV 3) (eFld 0 5 (eV 0))) [.val (.ref 25), .val (.int d), .own (.lst found), .val (.str [m]), x4] (S up di σ) = .ok (!hasD σ.gs (.str [m])) (S up di σ) := by simp [g25, n1]
      cases hg : hasD σ.gs (.str [m]) with
      | true =>
        rw [hg] at t0
        rw [and_f t0]
        simp [dueC, hg]
      | false =>
        rw [hg] at t0
        rw [and_t t0, tTru_ap, da]
        have lm : found.length < lim := by unfold lim; omega
        cases ha : (underT m).all (overD σ d) <;> simp [dueC, hg, under, ha, lm]
    obtain ⟨x3', ih⟩ := due_loop o d x4 ds (found ++ if dueC σ d (.str [m]) = true then [.str [m]] else []) (.val (.str [m])) (fun x hx => hd x (List.mem_cons_of_mem _ hx)) (by split <;> simp <;> omega)
    refine ⟨x3', ?_⟩
    unfold forLoop
    simp only [bindT_nm, List.length_cons, List.length_nil]
    rw [if_pos (by omega)]
    simp only [List.set_cons_succ, List.set_cons_zero]
    rw [hb]
    dsimp only
    rw [if_pos (show Watch.free.ok (S up di σ) = true from rfl), ih]
    rw [List.filter_cons]
    cases dueC σ d (.str [m]) <;> simp
noncomputable def dueL (σ : Md) (d : Int) : List D := allT.filter (dueC σ d)
theorem due_ok (o : Ok σ) (d : Int) : f_Keeping_due [.ref 25, .int d] (S up di σ) = .ok (.tup (dueL σ d)) (S up di σ) := by
  refine fn_rt rfl ?_
  unfold b_Keeping_due
  obtain ⟨x3', h⟩ := due_loop (up := up) (di := di) o d .no allT [] .no all_mk (by decide)
  rw [sSeq_ap]
  simp only [sOwn_ap, nLst_ap, aNil_ap, bindok, nlK_ap, valsOf_nil, lstK_some, List.length_nil]
  rw [if_pos (by unfold lim; omega), sBind_ok, ownK_ap, if_pos ⟨by simp, rfl⟩, seqK_nx, sSeq_ap, sFor_ap]
  have e1 : iE (eMeth 2 f_Holdings_all_marks (eFld 0 0 (eV 0)) aNil) [.val (.ref 25), .val (.int d), .own (.lst []), .no, .no] (S up di σ) = .ok (allT, .free) (S up di σ) := by simp [g25, g4, all_ok]
  show seqK (sBind _ (iE _ [.val (.ref 25), .val (.int d), .own (.lst []), .no, .no] (S up di σ)) _) _ = _
  rw [e1, sBind_ok, sfK_ap]
  dsimp only
  rw [if_pos (show Watch.free.ok (S up di σ) = true from rfl)]
  show seqK (forLoop (.nm 3) dueBody .free allT [.val (.ref 25), .val (.int d), .own (.lst []), .no, .no] (S up di σ)) _ = _
  rw [h, seqK_nx]
  simp [oTuple, tupOf, listOf, dueL]
end
end K04
/-! Q7: k04, plain: the law's list of what is due; the questions of a turn. -/
namespace K04
open Mir
/-- the law's names -/
structure Ev where
  (a0 a4 a5 a6 a8 a9 a10 a11 a12 a13 a14 a15 a16 a17 a18 a19 a20 a21 a22 a23 : Slot)
def LE (e : Ev) : Env := [e.a0, .val (.ref 0), .val (.ref 4), .val (.ref 8), e.a4, e.a5, e.a6, .val (.ref 25), e.a8, e.a9, e.a10, e.a11, e.a12, e.a13, e.a14, e.a15, e.a16, e.a17, e.a18, e.a19, e.a20, e.a21, e.a22, e.a23]
section
variable {up di : Cell} {σ : Md} {e : Ev}
theorem items_call {f : FM} {as : AM} {r : Env} {s : St} {ds xs : List D} (h : as r s = .ok (ds.map Opd.val) s) (hf : f ds s = .ok (.lst xs) s) : iE (eCall f as) r s = .ok (xs, .free) s := by
  have hv : ∀ l : List D, valsOf (l.map Opd.val) = some l := by
    intro l
    induction l with
    | nil => rfl
    | cons a l ih => simp [ih]
  rw [iE_ap, eCall_ap, h, bindok, ecK_ap, hv, callK_some, hf]
  simp
/-- the inner list: what is not over -/
theorem notover_ok (o : Ok σ) {m : Nat} (h : Mk m) {d : Int} (hd : e.a10 = .val (.int d)) (i j : Nat) (hij : (i = 16 ∧ j = 4) ∨ (i = 22 ∧ j = 16)) (hm : (LE e)[j]? = some (.val (.str [m]))) :
    tE (eOp2 oEqA (eFrz (nLc (iE (eCall f_law_under (aCons (eOp2 oGet (eV 3) (eC (.str [117, 112]))) (aCons (eV j) aNil)))) (.nm i) (Mir.tNot (tTru (eCall f_law_over (aCons (eV 3) (aCons (eV i) (aCons (eV 10) aNil)))))) (eC (.int 1)) [i])) (eFrz (nLst aNil))) (LE e) (S upU di σ) = .ok ((underT m).all (overD σ d)) (S upU di σ) := by
  have e1 : iE (eCall f_law_under (aCons (eOp2 oGet (eV 3) (eC (.str [117, 112]))) (aCons (eV j) aNil))) (LE e) (S upU di σ) = .ok (lunderT m, .free) (S upU di σ) := by
    refine items_call (ds := [.ref 5, .str [m]]) ?_ (lunder_ok h)
    have h3 : (LE e)[3]? = some (.val (.ref 8)) := rfl
    simp [h3, hm, gUp]
  have e2 : eFrz (nLc (iE (eCall f_law_under (aCons (eOp2 oGet (eV 3) (eC (.str [117, 112]))) (aCons (eV j) aNil)))) (.nm i) (Mir.tNot (tTru (eCall f_law_over (aCons (eV 3) (aCons (eV i) (aCons (eV 10) aNil)))))) (eC (.int 1)) [i]) (LE e) (S upU di σ) = .ok (.val (.lst (((lunderT m).filter fun x => !overD σ d x).map fun _ => .int 1))) (S upU di σ) := by
    rw [eFrz_ap, nLc_ap, e1, bindok, nlcK_ap]
    dsimp only
    rw [if_pos (show Watch.free.ok (S upU di σ) = true from rfl), lcLoop_map (fun x => !overD σ d x) (fun _ => .int 1) (lunderT m) [] (fun x hx => ?_) (by rcases mk6 h with h | h | h | h | h | h <;> subst h <;> simp [lunderT, lim])]
    · simp
    · obtain ⟨c, rfl, hc⟩ := lunder_mk h x hx
      have lo := law_over_ok (up := upU) (di := di) o (.inl rfl) hc d
      rcases hij with ⟨rfl, rfl⟩ | ⟨rfl, rfl⟩
      · refine ⟨LE { e with a16 := .val (.str [c]) }, rfl, ?_, fun _ => rfl⟩
        have h3 : (LE { e with a16 := .val (.str [c]) })[3]? = some (.val (.ref 8)) := rfl
        have h4 : (LE { e with a16 := .val (.str [c]) })[16]? = some (.val (.str [c])) := rfl
        have h5 : (LE { e with a16 := .val (.str [c]) })[10]? = some (.val (.int d)) := congrArg some hd
        simp [h3, h4, h5, lo, overD]
      · refine ⟨LE { e with a22 := .val (.str [c]) }, rfl, ?_, fun _ => rfl⟩
        have h3 : (LE { e with a22 := .val (.str [c]) })[3]? = some (.val (.ref 8)) := rfl
        have h4 : (LE { e with a22 := .val (.str [c]) })[22]? = some (.val (.str [c])) := rfl
        have h5 : (LE { e with a22 := .val (.str [c]) })[10]? = some (.val (.int d)) := congrArg some hd
        simp [h3, h4, h5, lo, overD]
  rw [tE_ap, eOp2_ap, e2, bindok, op2A_ap]
  have hl : (lunderT m).length ≤ lim := by rcases mk6 h with h | h | h | h | h | h <;> subst h <;> simp [lunderT, lim]
  have eo := eq_ones (s := S upU di σ) (fun x => !overD σ d x) hl
  simp [eo]
  rw [← lunder_all h]
  generalize lunderT m = l
  induction l with
  | nil => rfl
  | cons a l ih => simp [ih]
/-- the law's list of what is due -/
theorem ldue_ok (o : Ok σ) {d : Int} (hd : e.a10 = .val (.int d)) : eFrz (nLc (iE (eMeth 2 f_Holdings_all_marks (eV 2) aNil)) (.nm 16) (Mir.tAnd (tE (eOp2 oNotIn (eV 16) (eOp2 oGet (eV 3) (eC (.str [103, 111, 110, 101]))))) (tE (eOp2 oEqA (eFrz (nLc (iE (eCall f_law_under (aCons (eOp2 oGet (eV 3) (eC (.str [117, 112]))) (aCons (eV 16) aNil)))) (.nm 22) (Mir.tNot (tTru (eCall f_law_over (aCons (eV 3) (aCons (eV 22) (aCons (eV 10) aNil)))))) (eC (.int 1)) [22])) (eFrz (nLst aNil))))) (eV 16) [16]) (LE e) (S upU di σ) = .ok (.val (.lst (dueL σ d))) (S upU di σ) := by
  rw [eFrz_ap, nLc_ap]
  have e1 : iE (eMeth 2 f_Holdings_all_marks (eV 2) aNil) (LE e) (S upU di σ) = .ok (allT, .free) (S upU di σ) := by
    have h2 : (LE e)[2]? = some (.val (.ref 4)) := rfl
    simp [h2, g4, all_ok]
  rw [e1, bindok, nlcK_ap]
  dsimp only
  rw [if_pos (show Watch.free.ok (S upU di σ) = true from rfl), lcLoop_map (dueC σ d) (fun x => x) allT [] (fun x hx => ?_) (by simp [allT, lim])]
  · simp [dueL]
  · obtain ⟨c, rfl, hc⟩ := all_mk x hx
    refine ⟨LE { e with a16 := .val (.str [c]) }, rfl, ?_, fun _ => rfl⟩
    have n1 := nin_dct (g7 (up := upU) (di := di) (σ := σ)) [c]
    have h3 : (LE { e with a16 := .val (.str [c]) })[3]? = some (.val (.ref 8)) := rfl
    have h4 : (LE { e with a16 := .val (.str [c]) })[16]? = some (.val (.str [c])) := rfl
    have t0 : tE (eOp2 oNotIn (eV 16) (eOp2 oGet (eV 3) (eC (.str [103, 111, 110, 101])))) (LE { e with a16 := .val (.str [c]) }) (S upU di σ) = .ok (!hasD σ.gs (.str [c])) (S upU di σ) := by simp [h3, h4, gGo, n1]
    have t1 := notover_ok (di := di) (e := { e with a16 := .val (.str [c]) }) o hc hd 22 16 (.inr ⟨rfl, rfl⟩) h4
    cases hg : hasD σ.gs (.str [c]) with
    | true =>
      rw [hg] at t0
      rw [and_f t0]
      simp [dueC, hg]
    | false =>
      rw [hg] at t0
      rw [and_t t0, t1]
      simp [dueC, hg, under]
end
end K04
/-! Q8: k04, plain: the questions of a turn. -/
namespace Mir
theorem eGet2_dct {d k e : EM} {r : Env} {s : St} {n : Nat} {ps : List (D × D)} {kk : Tx} {w : D} (h1 : d r s = .ok (.val (.ref n)) s) (hn : s[n]? = some (.dct 0 ps)) (h2 : k r s = .ok (.val (.str kk)) s) (h3 : e r s = .ok (.val w) s) :
    eGet2 d k e r s = .ok (.val ((lookD ps (.str kk)).getD w)) s := by
  unfold eGet2
  rw [h1, bindok, if_pos (by simp [dctOf, hn]), h2, bindok, h3, bindok]
  simp [getK, dctOf, hn, kOk, flatK]
end Mir
namespace K04
open Mir
section
variable {up di : Cell} {σ : Md} {e : Ev}
theorem qheld_ok (o : Ok σ) (hu : IsUp up) {c : Nat} (hc : Mk c) (h16 : e.a16 = .val (.str [c])) :
    eOp2 oNeA (eFrz (nLc (iE (eOp2 oGet (eV 3) (eC (.str [104, 111, 108, 100, 115])))) (.tp [(.nm 14), (.nm 4)]) (tE (eOp2 oIn (eV 4) (eCall f_law_line (aCons (eOp2 oGet (eV 3) (eC (.str [117, 112]))) (aCons (eV 16) aNil))))) (eC (.int 1)) [14, 4])) (eFrz (nLst aNil)) (LE e) (S up di σ) = .ok (.val (.bl (heldB σ.hs c))) (S up di σ) := by
  have e1 : iE (eOp2 oGet (eV 3) (eC (.str [104, 111, 108, 100, 115]))) (LE e) (S up di σ) = .ok (σ.hs, .free) (S up di σ) := by
    have h3 : (LE e)[3]? = some (.val (.ref 8)) := rfl
    simp [h3, gHo]
  have e2 : eFrz (nLc (iE (eOp2 oGet (eV 3) (eC (.str [104, 111, 108, 100, 115])))) (.tp [(.nm 14), (.nm 4)]) (tE (eOp2 oIn (eV 4) (eCall f_law_line (aCons (eOp2 oGet (eV 3) (eC (.str [117, 112]))) (aCons (eV 16) aNil))))) (eC (.int 1)) [14, 4]) (LE e) (S up di σ) = .ok (.val (.lst ((σ.hs.filter (heldC c)).map fun _ => .int 1))) (S up di σ) := by
    rw [eFrz_ap, nLc_ap, e1, bindok, nlcK_ap]
    dsimp only
    rw [if_pos (show Watch.free.ok (S up di σ) = true from rfl), lcLoop_map (heldC c) (fun _ => .int 1) σ.hs [] (fun row hr => ?_) (by have := o.hl; simp; unfold lim; omega)]
    · simp
    · obtain ⟨n, x, rfl, hn, hx⟩ := o.hs row hr
      refine ⟨LE { e with a14 := .val (.str [104, n]), a4 := .val (.str [x]) }, rfl, ?_, fun _ => rfl⟩
      have h16' : (LE { e with a14 := .val (.str [104, n]), a4 := .val (.str [x]) })[16]? = some (.val (.str [c])) := congrArg some h16
      have h3 : (LE { e with a14 := .val (.str [104, n]), a4 := .val (.str [x]) })[3]? = some (.val (.ref 8)) := rfl
      have h4 : (LE { e with a14 := .val (.str [104, n]), a4 := .val (.str [x]) })[4]? = some (.val (.str [x])) := rfl
      have ll := lline_ok (di := di) (σ := σ) hu hc
      have hi : oIn (S up di σ) (.val (.str [x])) (.val (.lst (lineT c))) = some (.bl (heldC c (.tup [.str [104, n], .str [x]]))) := by
        rcases mk6 hc with h | h | h | h | h | h <;> subst h <;> rcases mk6 hx with h | h | h | h | h | h <;> subst h <;> kernel_rfl
      simp [h16', h3, h4, gUp, ll, hi]
  rw [eOp2_ap, e2, bindok, op2A_ap]
  simp [ne_ones (heldC c) (hl_lim o), heldB_eq]
noncomputable def kkD (ks : List (D × D)) (c : Nat) : D := (lookD ks (.str [c])).getD (.tup [.str ever, .int 0])
theorem q_ok (o : Ok σ) (hu : IsUp up) {c : Nat} (hc : Mk c) (h16 : e.a16 = .val (.str [c])) {d : Int} (hd : e.a10 = .val (.int d)) :
    b_q (LE e) (S up di σ) = .nx (LE { e with a18 := .val (.bl (heldB σ.hs c)), a11 := .val (kkD σ.ks c), a19 := .val (endD σ.ks c) }) (S up di σ) := by
  unfold b_q
  rw [sSeq_ap, sSet_ap, qheld_ok o hu hc h16, sBind_ok, setK_val, if_pos (by simp [LE])]
  rw [show (LE e).set 18 (.val (.bl (heldB σ.hs c))) = LE { e with a18 := .val (.bl (heldB σ.hs c)) } from rfl, seqK_nx, sSeq_ap, sSet_ap]
  have k1 : eGet2 (eOp2 oGet (eV 3) (eC (.str [107, 105, 110, 100, 115]))) (eV 16) (eTup (aCons (eC (.str [101, 118, 101, 114])) (aCons (eC (.int 0)) aNil))) (LE { e with a18 := .val (.bl (heldB σ.hs c)) }) (S up di σ) = .ok (.val (kkD σ.ks c)) (S up di σ) := by
    have h3 : (LE { e with a18 := .val (.bl (heldB σ.hs c)) })[3]? = some (.val (.ref 8)) := rfl
    have h16' : (LE { e with a18 := .val (.bl (heldB σ.hs c)) })[16]? = some (.val (.str [c])) := congrArg some h16
    have hl : (2 : Nat) ≤ lim := by decide
    exact eGet2_dct (n := 6) (by simp [h3, gKi]) g6 (by simp [h16']) (by simp [hl, ever])
  rw [k1, sBind_ok, setK_val, if_pos (by simp [LE])]
  rw [show (LE { e with a18 := .val (.bl (heldB σ.hs c)) }).set 11 (.val (kkD σ.ks c)) = LE { e with a18 := .val (.bl (heldB σ.hs c)), a11 := .val (kkD σ.ks c) } from rfl, seqK_nx, sSeq_ap, sSet_ap]
  have k2 : eIf (tE (eOp2 oEqA (eOp2 oGet (eV 11) (eC (.int 0))) (eC (.str [101, 118, 101, 114])))) (eC .non) (eCall f_years_later (aCons (eOp2 oGet (eV 11) (eC (.int 1))) (aCons (eIf (tE (eOp2 oEqA (eOp2 oGet (eV 11) (eC (.int 0))) (eC (.str [115, 104, 111, 114, 116])))) (eC (.int 5)) (eC (.int 40))) aNil))) (LE { e with a18 := .val (.bl (heldB σ.hs c)), a11 := .val (kkD σ.ks c) }) (S up di σ) = .ok (.val (endD σ.ks c)) (S up di σ) := by
    have h11 : (LE { e with a18 := .val (.bl (heldB σ.hs c)), a11 := .val (kkD σ.ks c) })[11]? = some (.val (kkD σ.ks c)) := rfl
    have gt : ∀ (a b : D), oGet (S up di σ) (.val (.tup [a, b])) (.val (.int 0)) = some a ∧ oGet (S up di σ) (.val (.tup [a, b])) (.val (.int 1)) = some b := fun a b => by simp [oGet, dctOf, oIx, seqOf, atD, ixD]
    revert h11
    generalize LE { e with a18 := .val (.bl (heldB σ.hs c)), a11 := .val (kkD σ.ks c) } = r
    intro h11
    unfold kkD at h11
    unfold endD
    cases hk : lookD σ.ks (.str [c]) with
    | none =>
      rw [hk] at h11
      simp only [Option.getD_none] at h11
      have t7 : decide (ever = [101, 118, 101, 114]) = true := by decide
      simp only [h11, gt, eIf_ap, tE_ap, eOp2_ap, eV_ap, slotO_val, bindok, op2A_ap, eC_ap, op2B_ap, Option.map_some, orBad_some, oEqA_str, oEq_str, teK_bl, eifK_ap, t7, if_true]
    | some dd =>
      obtain ⟨_, k, l, rfl, hkk, hl1, hl2⟩ := o.ks _ (look_mem hk)
      rw [hk] at h11
      simp only [Option.getD_some] at h11
      rcases hkk with rfl | rfl | rfl
      · have y := Y_ok (n := l) (k := 5) (by omega) (by omega) (by omega) (S up di σ)
        have t3 : ¬ short = [101, 118, 101, 114] := by decide
        have t4 : short = [115, 104, 111, 114, 116] := rfl
        have t5 : ¬ short = ever := by decide
        have t6 : decide (short = [115, 104, 111, 114, 116]) = true := by decide
        have t7 : decide (short = [101, 118, 101, 114]) = false := by decide
        simp only [h11, gt, eIf_ap, tE_ap, eOp2_ap, eV_ap, slotO_val, bindok, op2A_ap, eC_ap, op2B_ap, Option.map_some, orBad_some, oEqA_str, oEq_str, teK_bl, eifK_ap, t7, t6, Bool.false_eq_true, if_false, if_true, eCall_ap, aCons_ap, acA_ap, aNil_ap, acB_ap, ecK_ap, valsOf_cons, valsOf_nil, callK_some, y, valK_ap, t5, yrs]
      · have y := Y_ok (n := l) (k := 40) (by omega) (by omega) (by omega) (S up di σ)
        have t5 : ¬ lng = ever := by decide
        have t8 : ¬ lng = short := by decide
        have t6 : decide (lng = [115, 104, 111, 114, 116]) = false := by decide
        have t7 : decide (lng = [101, 118, 101, 114]) = false := by decide
        simp only [h11, gt, eIf_ap, tE_ap, eOp2_ap, eV_ap, slotO_val, bindok, op2A_ap, eC_ap, op2B_ap, Option.map_some, orBad_some, oEqA_str, oEq_str, teK_bl, eifK_ap, t7, t6, Bool.false_eq_true, if_false, if_true, eCall_ap, aCons_ap, acA_ap, aNil_ap, acB_ap, ecK_ap, valsOf_cons, valsOf_nil, callK_some, y, valK_ap, t5, yrs, t8]
      · have t7 : decide (ever = [101, 118, 101, 114]) = true := by decide
        simp only [h11, gt, eIf_ap, tE_ap, eOp2_ap, eV_ap, slotO_val, bindok, op2A_ap, eC_ap, op2B_ap, Option.map_some, orBad_some, oEqA_str, oEq_str, teK_bl, eifK_ap, t7, if_true]
  rw [k2, sBind_ok, setK_val, if_pos (by simp [LE])]
  rw [show (LE { e with a18 := .val (.bl (heldB σ.hs c)), a11 := .val (kkD σ.ks c) }).set 19 (.val (endD σ.ks c)) = LE { e with a18 := .val (.bl (heldB σ.hs c)), a11 := .val (kkD σ.ks c), a19 := .val (endD σ.ks c) } from rfl, seqK_nx, sIf_ap]
  generalize hE : LE { e with a18 := .val (.bl (heldB σ.hs c)), a11 := .val (kkD σ.ks c), a19 := .val (endD σ.ks c) } = r
  have r7 : r[7]? = some (.val (.ref 25)) := by rw [← hE]; rfl
  have r3 : r[3]? = some (.val (.ref 8)) := by rw [← hE]; rfl
  have r16 : r[16]? = some (.val (.str [c])) := by rw [← hE]; exact congrArg some h16
  have r10 : r[10]? = some (.val (.int d)) := by rw [← hE]; exact congrArg some hd
  have r18 : r[18]? = some (.val (.bl (heldB σ.hs c))) := by rw [← hE]; rfl
  have r19 : r[19]? = some (.val (endD σ.ks c)) := by rw [← hE]; rfl
  have f1 := is_held_ok (up := up) (di := di) o hc
  have f2 := ends_ok (up := up) (di := di) o hc
  have f3 := is_over_ok (up := up) (di := di) o hc d
  have f4 := law_over_ok (up := up) (di := di) o hu hc d
  have ee : oNeA (S up di σ) (.val (endD σ.ks c)) (.val (endD σ.ks c)) = some (.bl false) := by
    rcases endD_cases o c with q | ⟨z, q⟩ <;> rw [q]
    · simp [oNeA, eqA, dctU, eqD, look, scalD]
    · simp
  simp [r7, r3, r16, r10, r18, r19, f1, f2, f3, f4, g25, ee]
end
end K04
/-! Q9: k04, plain: the end of a turn. -/
namespace Mir
theorem look_of_mem : ∀ {ps : List (D × D)} {k d : D}, (ps.map (·.1)).Nodup → (k, d) ∈ ps → lookD ps k = some d
  | [], _, _, _, h => by cases h
  | (a, x) :: ps, k, d, hn, h => by
    obtain ⟨n1, n2⟩ := List.nodup_cons.mp hn
    rcases List.mem_cons.mp h with h | h
    · cases h
      simp [lookD]
    · have hne : ¬ a = k := fun e => n1 (List.mem_map.mpr ⟨(k, d), h, e.symm⟩)
      have := look_of_mem n2 h
      simp only [lookD, List.find?_cons, decide_eq_false hne] at this ⊢
      exact this
end Mir
namespace K04
open Mir
theorem mkl_shap : ∀ {l : List D}, (∀ x ∈ l, MkD x) → shapL 19 l = true ∧ eqvL l l = true
  | [], _ => ⟨rfl, rfl⟩
  | x :: l, h => by
    obtain ⟨m, rfl, hm⟩ := h x List.mem_cons_self
    obtain ⟨i1, i2⟩ := mkl_shap fun y hy => h y (List.mem_cons_of_mem _ hy)
    unfold Mk at hm
    have : m < 1114112 := by omega
    simp [shapL, eqvL, shap, eqv, i1, i2, this]
theorem ne_mkl {s : St} {l : List D} (h : ∀ x ∈ l, MkD x) (hl : l.length ≤ 100) : oNe s (.val (.lst l)) (.val (.lst l)) = some (.bl false) := by
  obtain ⟨i1, i2⟩ := mkl_shap h
  have hs : shap 20 (.lst l) = true := by
    unfold shap
    have : l.length ≤ lim := by unfold lim; omega
    simp [i1, this]
  have he : eqv (.lst l) (.lst l) = true := by simp [eqv, i2]
  simp [oNe, eqD, look, scalD, hs, he]
section
variable {di : Cell} {σ : Md}
theorem dueL_mk (d : Int) : (∀ x ∈ dueL σ d, MkD x) ∧ (dueL σ d).length ≤ 100 := by
  refine ⟨fun x hx => all_mk x (List.mem_filter.mp hx).1, ?_⟩
  have := List.length_filter_le (dueC σ d) allT
  unfold dueL
  have e : allT.length = 6 := rfl
  omega
theorem gone_eq (o : Ok σ) {up : Cell} : oNeA (S up di σ) (.val (.ref 24)) (.val (.ref 7)) = some (.bl false) := by
  have h1 : dctU (S up di σ) (.val (.ref 24)) = some σ.g2 := by simp [dctU, g24]
  have h2 : dctU (S up di σ) (.val (.ref 7)) = some σ.gs := by simp [dctU, g7]
  have h3 : eqDP σ.g2 σ.gs = true := by
    unfold eqDP
    rw [Bool.and_eq_true]
    refine ⟨decide_eq_true o.gl, List.all_eq_true.mpr fun p hp => ?_⟩
    have l1 := look_of_mem o.g2n (show (p.1, p.2) ∈ σ.g2 from hp)
    rw [o.g2] at l1
    obtain ⟨_, i, hi⟩ := o.gk _ (look_mem l1)
    simp only at hi
    rw [l1, hi]
    simp [flatD]
  simp [oNeA, eqA, h1, h2, h3]
theorem q_loop (o : Ok σ) {d : Int} : ∀ (ds : List D) (e : Ev), (∀ x ∈ ds, MkD x) → e.a10 = .val (.int d) → ∃ e', forLoop (.nm 16) b_q (.cel 5 (.lck 0 upD)) ds (LE e) (S upL di σ) = .nx (LE e') (S upL di σ)
  | [], e, _, _ => ⟨e, rfl⟩
  | x :: ds, e, h, hd => by
    obtain ⟨c, rfl, hc⟩ := h x List.mem_cons_self
    have q := q_ok (di := di) (e := { e with a16 := .val (.str [c]) }) o (.inr rfl) hc rfl hd
    obtain ⟨e', ih⟩ := q_loop o ds { { e with a16 := .val (.str [c]) } with a18 := .val (.bl (heldB σ.hs c)), a11 := .val (kkD σ.ks c), a19 := .val (endD σ.ks c) } (fun y hy => h y (List.mem_cons_of_mem _ hy)) hd
    refine ⟨e', ?_⟩
    unfold forLoop
    rw [show bindT (.nm 16) (.str [c]) (LE e) = some (LE { e with a16 := .val (.str [c]) }) from rfl]
    dsimp only
    rw [q]
    dsimp only
    rw [if_pos (by simp [Watch.ok, g5, upL]), ih]
theorem tail_ok (o : Ok σ) (e : Ev) {d : Int} (hd : e.a10 = .val (.int d)) : ∃ e', b_tail (LE e) (S upU di σ) = .nx (LE e') (S upU di σ) := by
  unfold b_tail
  rw [sSeq_ap, sSet_ap, ldue_ok o hd, sBind_ok, setK_val, if_pos (by simp [LE])]
  rw [show (LE e).set 17 (.val (.lst (dueL σ d))) = LE { e with a17 := .val (.lst (dueL σ d)) } from rfl, seqK_nx, sSeq_ap]
  have r7 : (LE { e with a17 := .val (.lst (dueL σ d)) })[7]? = some (.val (.ref 25)) := rfl
  have r3 : (LE { e with a17 := .val (.lst (dueL σ d)) })[3]? = some (.val (.ref 8)) := rfl
  have r10 : (LE { e with a17 := .val (.lst (dueL σ d)) })[10]? = some (.val (.int d)) := congrArg some hd
  have r17 : (LE { e with a17 := .val (.lst (dueL σ d)) })[17]? = some (.val (.lst (dueL σ d))) := rfl
  have f1 := due_ok (up := upU) (di := di) o d
  have f2 := ne_mkl (s := S upU di σ) (dueL_mk (σ := σ) d).1 (dueL_mk (σ := σ) d).2
  have f3 := gone_eq (di := di) (up := upU) o
  have t1 : sIf (Mir.tOr (tE (eOp2 oNeA (eFrz (nOpN nList (aCons (eMeth 0 f_Keeping_due (eV 7) (aCons (eV 10) aNil)) aNil))) (eV 17))) (tE (eOp2 oNeA (eFld 0 5 (eV 7)) (eOp2 oGet (eV 3) (eC (.str [103, 111, 110, 101])))))) (sRet (eC (.bl false))) sNext (LE { e with a17 := .val (.lst (dueL σ d)) }) (S upU di σ) = .nx (LE { e with a17 := .val (.lst (dueL σ d)) }) (S upU di σ) := by
    simp [r7, r3, r10, r17, f1, f2, f3, g25, gGo, nList, seqOf]
  rw [t1, seqK_nx]
  unfold sForD sLock
  have hc : cellD (eOp2 oGet (eV 3) (eC (.str [117, 112]))) (LE { e with a17 := .val (.lst (dueL σ d)) }) (S upU di σ) = some (5, upD) := by
    unfold cellD
    have : eOp2 oGet (eV 3) (eC (.str [117, 112])) (LE { e with a17 := .val (.lst (dueL σ d)) }) (S upU di σ) = .ok (.val (.ref 5)) (S upU di σ) := by simp [r3, gUp]
    rw [this]
    simp [g5, upU]
  rw [hc]
  dsimp only
  rw [show (S upU di σ).set 5 (.lck 0 upD) = S upL di σ from rfl, sFor_ap]
  have hi : iKeysD (eOp2 oGet (eV 3) (eC (.str [117, 112]))) 5 upD (LE { e with a17 := .val (.lst (dueL σ d)) }) (S upL di σ) = .ok (upD.map (·.1), .cel 5 (.lck 0 upD)) (S upL di σ) := by
    unfold iKeysD
    have : eOp2 oGet (eV 3) (eC (.str [117, 112])) (LE { e with a17 := .val (.lst (dueL σ d)) }) (S upL di σ) = .ok (.val (.ref 5)) (S upL di σ) := by simp [r3, gUp]
    rw [this, bindok]
    simp [g5, upL]
  rw [hi, sBind_ok, sfK_ap]
  dsimp only
  rw [if_pos (by simp [Watch.ok, g5, upL])]
  obtain ⟨e', hl⟩ := q_loop (di := di) o (upD.map fun p => p.1) { e with a17 := .val (.lst (dueL σ d)) } (fun x hx => lunder_mk (m := 97) ⟨by omega, by omega⟩ x (by simpa [upD, lunderT] using hx)) hd
  rw [hl]
  refine ⟨e', ?_⟩
  unfold sUnl
  dsimp only
  rw [if_pos (by simp [g5, upL])]
  rfl
end
end K04
/-! Q10: k04, plain: dice, rolls. -/
namespace Mir
theorem oGet_cell {st : St} {n : Nat} {xs : List D} (h : st[n]? = some (.lst xs)) (i : Int) : oGet st (.val (.ref n)) (.val (.int i)) = atD xs i := by
  simp [oGet, dctOf, h, oIx, seqOf, listOf]
def putLK (r : Env) (d : D) (n : Nat) (k : Int) (s3 : St) : SOut := match s3[n]? with
    | some (.lst xs) => match ixD xs.length k with
      | some j => .nx r (s3.set n (.lst (xs.set j d)))
      | none => .bad
    | _ => .bad
def putLV (r : Env) (x y z : Opd) (s3 : St) : SOut := match x, y, z with
  | .val d, .val (.ref n), .val (.int k) => putLK r d n k s3
  | _, _, _ => .bad
@[simp] theorem putLV_val (r : Env) (d : D) (n : Nat) (k : Int) (s : St) : putLV r (.val d) (.val (.ref n)) (.val (.int k)) s = putLK r d n k s := rfl
def plC (r : Env) (x y z : Opd) (s3 : St) : SOut := putLV r x y z s3
@[simp] theorem plC_ap (r : Env) (x y z : Opd) (s3 : St) : plC r x y z s3 = putLV r x y z s3 := by simp only [plC]
def plB (i : EM) (r : Env) (x y : Opd) (s2 : St) : SOut := sBind r (i r s2) (plC r x y)
@[simp] theorem plB_ap (i : EM) (r : Env) (x y : Opd) (s2 : St) : plB i r x y s2 = sBind r (i r s2) (plC r x y) := by simp only [plB]
def plA (o i : EM) (r : Env) (x : Opd) (s1 : St) : SOut := sBind r (o r s1) (plB i r x)
@[simp] theorem plA_ap (o i : EM) (r : Env) (x : Opd) (s1 : St) : plA o i r x s1 = sBind r (o r s1) (plB i r x) := by simp only [plA]
@[simp] theorem sPutL_ap (o i e : EM) (r : Env) (s : St) : sPutL o i e r s = sBind r (e r s) (plA o i r) := rfl
theorem putLK_at {r : Env} {d : D} {n j : Nat} {k : Int} {s : St} {xs : List D} (h : s[n]? = some (.lst xs)) (hj : ixD xs.length k = some j) : putLK r d n k s = .nx r (s.set n (.lst (xs.set j d))) := by
  unfold putLK
  rw [h]
  dsimp only
  rw [hj]
end Mir
namespace K04
open Mir
def DiceAt (st : St) : Prop := ∃ a b c : Int, st[0]? = some (.lst [.int a, .int b, .int c])
theorem DiceAt.set {st : St} (h : DiceAt st) (a b c : Int) : DiceAt (st.set 0 (.lst [.int a, .int b, .int c])) := by
  obtain ⟨x, y, z, h⟩ := h
  have : 0 < st.length := (List.getElem?_eq_some_iff.mp h).1
  exact ⟨a, b, c, List.getElem?_set_self this⟩
theorem set_set (st : St) (a b : Cell) : (st.set 0 a).set 0 b = st.set 0 b := by cases st <;> rfl
theorem roll_ok {st : St} (h : DiceAt st) (m : Int) (hm : 0 < m ∧ m ≤ 100000) : ∃ v c, f_law_roll [.ref 0, .int m] st = .ok (.int v) (st.set 0 c) ∧ 0 ≤ v ∧ v < m ∧ DiceAt (st.set 0 c) := by
  obtain ⟨a, b, c, h⟩ := h
  have h0 : 0 < st.length := (List.getElem?_eq_some_iff.mp h).1
  have g : ∀ (s : St) (x y z : Int), s[0]? = some (.lst [.int x, .int y, .int z]) → oGet s (.val (.ref 0)) (.val (.int 0)) = some (.int x) ∧ oGet s (.val (.ref 0)) (.val (.int 1)) = some (.int y) ∧ oGet s (.val (.ref 0)) (.val (.int 2)) = some (.int z) := fun s x y z e => by
    refine ⟨?_, ?_, ?_⟩ <;> rw [oGet_cell e] <;> simp [atD, ixD]
  have m0 : m < 1073741824 := by omega
  have mn : ¬ (100000000 < m) := by omega
  have dd : DiceAt st := ⟨a, b, c, h⟩
  have ht : Mir.tOr (tE (eOp2 oEqA (eOp2 oGet (eV 0) (eC (.int 2))) (eC (.int 2)))) (Mir.tAnd (tE (eOp2 oEqA (eOp2 oGet (eV 0) (eC (.int 2))) (eC (.int 1)))) (tE (eOp2 oGt (eOp2 oGet (eV 0) (eC (.int 0))) (eC (.int 0))))) [.val (.ref 0), .val (.int m), .no] st = .ok (decide (c = 2 ∨ c = 1 ∧ 0 < a)) st := by
    obtain ⟨g0, g1, g2⟩ := g _ _ _ _ h
    by_cases c2 : c = 2
    · subst c2; simp [g2]
    · by_cases c1 : c = 1
      · subst c1; by_cases ha : 0 < a <;> simp [g2, g0, ha]
      · simp [g2, c2, c1]
  by_cases t : c = 2 ∨ c = 1 ∧ 0 < a
  · refine ⟨a % m, .lst [.int (a / m), .int b, .int c], ?_, Int.emod_nonneg _ (by omega), Int.emod_lt_of_pos _ hm.1, dd.set _ _ _⟩
    refine fn_rt rfl ?_
    obtain ⟨g0, g1, g2⟩ := g _ _ _ _ h
    unfold b_law_roll
    rw [sSeq_ap, sIf_ap]
    show seqK (sBind _ (Mir.tOr _ _ [.val (.ref 0), .val (.int m), .no] st) _) _ = _
    rw [ht]
    simp [t, g0, hm.1, m0, putLK_at (k := 0) (j := 0) h rfl]
  · refine ⟨((a * 48271 + b * 69621 + 11) % 2147483647 / 7) % m, .lst [.int ((a * 48271 + b * 69621 + 11) % 2147483647), .int (b + 1), .int 0], ?_, Int.emod_nonneg _ (by omega), Int.emod_lt_of_pos _ hm.1, dd.set _ _ _⟩
    refine fn_rt rfl ?_
    unfold b_law_roll
    rw [sSeq_ap, sIf_ap]
    show seqK (sBind _ (Mir.tOr _ _ [.val (.ref 0), .val (.int m), .no] st) _) _ = _
    rw [ht]
    have e1 : (st.set 0 (.lst [.int a, .int b, .int 0]))[0]? = some (.lst [.int a, .int b, .int 0]) := List.getElem?_set_self h0
    have e2 : (st.set 0 (.lst [.int ((a * 48271 + b * 69621 + 11) % 2147483647), .int b, .int 0]))[0]? = some (.lst [.int ((a * 48271 + b * 69621 + 11) % 2147483647), .int b, .int 0]) := List.getElem?_set_self h0
    have e3 : (st.set 0 (.lst [.int ((a * 48271 + b * 69621 + 11) % 2147483647), .int (b + 1), .int 0]))[0]? = some (.lst [.int ((a * 48271 + b * 69621 + 11) % 2147483647), .int (b + 1), .int 0]) := List.getElem?_set_self h0
    obtain ⟨a0, a1, a2⟩ := g _ _ _ _ e1
    obtain ⟨b0, b1, b2⟩ := g _ _ _ _ e2
    obtain ⟨c0, c1, c2⟩ := g _ _ _ _ e3
    have m1 : ∀ s : St, oMul s (.val (.int a)) (.val (.int 48271)) = some (.int (a * 48271)) := fun s => if_pos (.inr rfl)
    have m2 : ∀ s : St, oMul s (.val (.int b)) (.val (.int 69621)) = some (.int (b * 69621)) := fun s => if_pos (.inr rfl)
    simp [t, putLK_at (k := 2) (j := 2) h rfl, mn, a0, a1, m1, m2]
    rw [putLK_at (k := 0) (j := 0) e1 rfl]
    simp [set_set, b1]
    rw [putLK_at (k := 1) (j := 1) e2 rfl]
    simp [set_set, c0, hm.1]
theorem dice_ok (cell : Int) (st : St) : ∃ a b c : Int, f_law_dice [.int cell] st = .ok (.ref st.length) (st ++ [.lst [.int a, .int b, .int c]]) := by
  have hc : eChain oLt oLt (eOp2 oSub (eC (.int 0)) (eC (.int 10))) (eV 0) (eC (.int 10)) [.val (.int cell)] st = .ok (.val (.bl (decide (-10 < cell) && decide (cell < 10)))) st :=
    chain_int (x := .val (.int (0 - 10))) (y := .val (.int cell)) (z := .val (.int 10)) rfl rfl rfl rfl rfl
  by_cases h : -10 < cell ∧ cell < 10
  · refine ⟨(if cell < 0 then -cell else cell), 0, 2, fn_rt rfl ?_⟩
    unfold b_law_dice
    rw [sSeq_ap, sIf_ap, tE_ap]
    show seqK (sBind _ ((eChain oLt oLt _ _ _ [.val (.int cell)] st).bind _) _) _ = _
    rw [hc]
    simp [h, lim]
  · refine ⟨cell, 1 + cell % 1009, (if (1000000000000000000 : Int) ≤ cell then 1 else 0), fn_rt rfl ?_⟩
    unfold b_law_dice
    rw [sSeq_ap, sIf_ap, tE_ap]
    show seqK (sBind _ ((eChain oLt oLt _ _ _ [.val (.int cell)] st).bind _) _) _ = _
    rw [hc]
    have hh : ¬ (-10 < cell ∧ cell < 10) := h
    have pw : oPow = oPow := rfl
    have p : ∀ s : St, oPow s (.val (.int 10)) (.val (.int 18)) = some (.int 1000000000000000000) := fun s => by simp [oPow]
    simp [hh, lim, p]
theorem rounds_ok (ns : List Int) : ∃ st, f_law_rounds [.scr (ns.map D.int), .int 1] [] = .ok (.lst [.ref 0]) st ∧ DiceAt st ∧ st.length = 1 := by
  have fin : ∀ n : Int, ∃ st u v, forall X, (sSeq (sIf (tE (eOp2 oEqA (eV 2) (eFrz (nLst aNil)))) (sSet 2 (eFrz (nLst (aCons (eC (.int 0)) aNil)))) sNext) (sRet (eFrz (nLc (iE (eV 2)) (.nm 3) Mir.tYes (eCall f_law_dice (aCons (eV 3) aNil)) [3])))) [X, .val (.int 1), .val (.lst [.int n]), .no] [] = .rt (.lst [.ref 0]) st ∧ DiceAt st ∧ st.length = 1 ∧ u = v := fun n => by
    obtain ⟨a, b, c, h⟩ := dice_ok n []
    refine ⟨[.lst [.int a, .int b, .int c]], 0, 0, fun X => ⟨?_, ⟨a, b, c, rfl⟩, rfl, rfl⟩⟩
    have he : oEq [] (.val (.lst [.int n])) (.val (.lst [])) = some (.bl false) := by simp [oEq, eqD, look, scalD, shap, shapL, lim, eqv, eqvL]
    simp [he, lim, lcLoop, h]
  have fin0 : ∃ st, forall X, (sSeq (sIf (tE (eOp2 oEqA (eV 2) (eFrz (nLst aNil)))) (sSet 2 (eFrz (nLst (aCons (eC (.int 0)) aNil)))) sNext) (sRet (eFrz (nLc (iE (eV 2)) (.nm 3) Mir.tYes (eCall f_law_dice (aCons (eV 3) aNil)) [3])))) [X, .val (.int 1), .val (.lst []), .no] [] = .rt (.lst [.ref 0]) st ∧ DiceAt st ∧ st.length = 1 := by
    obtain ⟨a, b, c, h⟩ := dice_ok 0 []
    refine ⟨[.lst [.int a, .int b, .int c]], fun X => ⟨?_, ⟨a, b, c, rfl⟩, rfl⟩⟩
    have he : oEq [] (.val (.lst [])) (.val (.lst [])) = some (.bl true) := by decide
    simp [he, lim, lcLoop, h]
  cases ns with
  | nil =>
    obtain ⟨st, h⟩ := fin0
    obtain ⟨h1, h2, h3⟩ := h (.val (.scr []))
    refine ⟨st, fn_rt rfl ?_, h2, h3⟩
    unfold b_law_rounds
    rw [sSeq_ap]
    rw [show sSet 2 (eFrz (nSl (eV 0) oNo (oSome (eV 1)))) (List.map Slot.val [D.scr (List.map D.int []), D.int 1] ++ List.replicate (4 - 2) Slot.no) [] = .nx [.val (.scr []), .val (.int 1), .val (.lst []), .no] [] from rfl]
    exact h1
  | cons n ns =>
    obtain ⟨st, u, v, h⟩ := fin n
    obtain ⟨h1, h2, h3, _⟩ := h (.val (.scr ((n :: ns).map D.int)))
    refine ⟨st, fn_rt rfl ?_, h2, h3⟩
    unfold b_law_rounds
    rw [sSeq_ap]
    have hc : cutD (D.int n :: ns.map D.int) none (some 1) = [D.int n] := by
      unfold cutD sIxD
      have : ¬ (1 : Int) < 0 := by omega
      simp only [this, if_false]
      simp [Nat.min_def]
    rw [show sSet 2 (eFrz (nSl (eV 0) oNo (oSome (eV 1)))) (List.map Slot.val [D.scr (List.map D.int (n :: ns)), D.int 1] ++ List.replicate (4 - 2) Slot.no) [] = .nx [.val (.scr ((n :: ns).map D.int)), .val (.int 1), .val (.lst [.int n]), .no] [] by simp [nSl, oNo, oSome, seqL, hc]]
    exact h1
end K04
/-! Q11: k04, plain: kinds are put. -/
namespace Mir
theorem putDC_ok {d k e : EM} {r : Env} {s s1 s2 s3 : St} {n : Nat} {ps : List (D × D)} {w : D} {kk : Tx} (h1 : e r s = .ok (.val w) s1) (h2 : d r s1 = .ok (.val (.ref n)) s2) (h3 : k r s2 = .ok (.val (.str kk)) s3) (hn : s3[n]? = some (.dct 0 ps)) (hl : ps.length < lim) :
    sPutDC d k e r s = .nx r (s3.set n (.dct 0 (putD ps (.str kk) w))) := by
  unfold sPutDC
  rw [h1, sBind_ok, h2, sBind_ok, h3, sBind_ok]
  dsimp only
  rw [hn]
  dsimp only
  rw [if_pos ⟨rfl, hl⟩]
theorem nd_len : ∀ {l L : List D}, l.Nodup → (∀ x ∈ l, x ∈ L) → l.length ≤ L.length
  | [], L, _, _ => Nat.zero_le _
  | x :: l, L, hn, h => by
    obtain ⟨n1, n2⟩ := List.nodup_cons.mp hn
    have hx : x ∈ L := h x List.mem_cons_self
    have ih := nd_len (L := L.erase x) n2 fun y hy => (List.mem_erase_of_ne (fun (e : y = x) => n1 (e ▸ hy))).mpr (h y (List.mem_cons_of_mem _ hy))
    have := List.length_erase_of_mem hx
    have : 0 < L.length := List.length_pos_of_mem hx
    simp only [List.length_cons]
    omega
theorem putD_map (f : D → D) (ps : List (D × D)) (k d : D) : (putD ps k d).map (fun p => (p.1, f p.2)) = putD (ps.map fun p => (p.1, f p.2)) k (f d) := by
  have hh : hasD (ps.map fun p => (p.1, f p.2)) k = hasD ps k := by
    induction ps with
    | nil => rfl
    | cons a ps ih => simp only [hasD, List.map_cons, List.any_cons] at ih ⊢; rw [ih]
  unfold putD
  rw [hh]
  split
  · rw [List.map_map, List.map_map]
    apply List.map_congr_left
    intro p _
    by_cases e : p.1 = k <;> simp [e]
  · simp
theorem putD_keys (ps : List (D × D)) (k d : D) : (putD ps k d).map (·.1) = if hasD ps k = true then ps.map (·.1) else ps.map (·.1) ++ [k] := by
  unfold putD
  split
  · rw [List.map_map]
    apply List.map_congr_left
    intro p _
    by_cases e : p.1 = k <;> simp [e]
  · simp
theorem has_mem (ps : List (D × D)) (k : D) : hasD ps k = true ↔ k ∈ ps.map (·.1) := by
  simp [hasD, List.any_eq_true]
theorem putD_nodup {ps : List (D × D)} {k d : D} (h : (ps.map (·.1)).Nodup) : ((putD ps k d).map (·.1)).Nodup := by
  rw [putD_keys]
  split
  · exact h
  · rename_i hk
    rw [List.nodup_append]
    refine ⟨h, by simp, fun x hx y hy e => ?_⟩
    rw [List.mem_singleton] at hy
    subst hy e
    exact hk ((has_mem ps _).mpr hx)
theorem putD_mem {ps : List (D × D)} {k d : D} {p : D × D} (h : p ∈ putD ps k d) : p ∈ ps ∨ p = (k, d) := by
  unfold putD at h
  split at h
  · obtain ⟨q, hq, rfl⟩ := List.mem_map.mp h
    by_cases e : q.1 = k
    · rw [if_pos e, e]; exact .inr rfl
    · rw [if_neg e]; exact .inl hq
  · rcases List.mem_append.mp h with h | h
    · exact .inl h
    · exact .inr (List.mem_singleton.mp h)
theorem told_ok' {es : List Nat} {ret : Tx} {m : EM} {r : Env} {s s1 : St} {d : D} (h : m r s = .ok (.val d) s1) : eTold es ret m r s = .ok (.val d) s1 := by unfold eTold; rw [h]
theorem told_exc' {es : List Nat} {ret : Tx} {m : EM} {r : Env} {s s1 : St} {x : Nat} (h : m r s = .exc x s1) (hx : es.contains x = true) : eTold es ret m r s = .ok (.val (.str ret)) s1 := by unfold eTold; rw [h]; dsimp only; rw [if_pos hx]
end Mir
namespace K04
open Mir
def Dice (di : Cell) : Prop := ∃ a b c : Int, di = .lst [.int a, .int b, .int c]
theorem roll' {up di : Cell} {σ : Md} (h : Dice di) (m : Int) (hm : 0 < m ∧ m ≤ 20000) : ∃ v di', f_law_roll [.ref 0, .int m] (S up di σ) = .ok (.int v) (S up di' σ) ∧ 0 ≤ v ∧ v < m ∧ Dice di' := by
  obtain ⟨a, b, c, rfl⟩ := h
  obtain ⟨v, cc, e, h1, h2, x, y, z, h3⟩ := roll_ok (st := S up (.lst [.int a, .int b, .int c]) σ) ⟨a, b, c, g0⟩ m ⟨hm.1, by omega⟩
  rw [sdi] at h3 e
  rw [g0] at h3
  exact ⟨v, cc, e, h1, h2, x, y, z, Option.some.inj h3⟩
def mks : List D := [.str [97], .str [98], .str [99], .str [100], .str [101], .str [102]]
theorem mkd_mem {x : D} (h : MkD x) : x ∈ mks := by
  obtain ⟨m, rfl, hm⟩ := h
  rcases mk6 hm with h | h | h | h | h | h <;> subst h <;> simp [mks]
theorem ks_len {σ : Md} (o : Ok σ) : σ.ks.length ≤ 6 := by
  have := nd_len (L := mks) o.kn fun x hx => by
    obtain ⟨p, hp, rfl⟩ := List.mem_map.mp hx
    exact mkd_mem (o.ks p hp).1
  simpa [mks] using this
def own (σ : Md) : Cell := .dct 0 [(kUp, .ref 5), (kKi, .ref 6), (kHo, .lst σ.hs), (kGo, .ref 7)]
theorem put_ok {di : Cell} {σ : Md} (o : Ok σ) {m : Nat} (h : Mk m) {k : Tx} (hk : k = short ∨ k = lng ∨ k = ever) (l : Int) :
    f_Keeping_put [.ref 25, .str [m], .str k, .int l] (S upU di σ) = .ok .non (SS di upU (.dct 0 σ.ks) (.dct 0 σ.gs) (own σ) (.dct 0 (putD (kn σ.ks) (.str [m]) (.str k))) (.dct 0 (putD (kd σ.ks) (.str [m]) (.int l))) (.lst σ.hs) (.dct 0 σ.g2)) := by
  have kl := ks_len o
  have ll : σ.ks.length < lim := by unfold lim; omega
  obtain ⟨n, hr⟩ := rec_ok (up := upU) (di := di) (σ := σ) h
  have tb : hasD tblD (.str k) = true := by rcases hk with rfl | rfl | rfl <;> decide
  have ti := tbl_in (S upU di σ) k
  rw [tb] at ti
  refine fn_nx (r := [.val (.ref 25), .val (.str [m]), .val (.str k), .val (.int l)]) rfl ?_
  unfold b_Keeping_put
  have e1 : sExpr (eMeth 2 f_Holdings_record (eFld 0 0 (eV 0)) (aCons (eV 1) aNil)) [.val (.ref 25), .val (.str [m]), .val (.str k), .val (.int l)] (S upU di σ) = .nx [.val (.ref 25), .val (.str [m]), .val (.str k), .val (.int l)] (S upU di σ) := by simp [g25, g4, hr]
  have e2 : sIf (tE (eOp2 oNotIn (eV 2) (eFld 0 1 (eV 0)))) (sRaise 3) sNext [.val (.ref 25), .val (.str [m]), .val (.str k), .val (.int l)] (S upU di σ) = .nx [.val (.ref 25), .val (.str [m]), .val (.str k), .val (.int l)] (S upU di σ) := by simp [g25, ti]
  show sSeq _ _ [.val (.ref 25), .val (.str [m]), .val (.str k), .val (.int l)] (S upU di σ) = _
  rw [sSeq_ap, e1, seqK_nx, sSeq_ap, e2, seqK_nx, sSeq_ap]
  rw [putDC_ok (n := 21) (ps := kn σ.ks) (kk := [m]) (w := .str k) (s1 := S upU di σ) (s2 := S upU di σ) (s3 := S upU di σ) (by simp) (by simp [g25]) (by simp) g21 (by simpa [kn] using ll), seqK_nx]
  have x25 : ((S upU di σ).set 21 (.dct 0 (putD (kn σ.ks) (.str [m]) (.str k))))[25]? = some (.ins 0 [.ref 4, .dct 0 tblD, .ref 21, .ref 22, .ref 23, .ref 24]) := rfl
  rw [putDC_ok (n := 22) (ps := kd σ.ks) (kk := [m]) (w := .int l) (s1 := (S upU di σ).set 21 (.dct 0 (putD (kn σ.ks) (.str [m]) (.str k)))) (s2 := (S upU di σ).set 21 (.dct 0 (putD (kn σ.ks) (.str [m]) (.str k)))) (s3 := (S upU di σ).set 21 (.dct 0 (putD (kn σ.ks) (.str [m]) (.str k)))) (by simp) (by simp [x25]) (by simp) rfl (by simpa [kd] using ll)]
  rfl
theorem put_z {di : Cell} {σ : Md} {k : Tx} (l : Int) : f_Keeping_put [.ref 25, .str [122], .str k, .int l] (S upU di σ) = .exc 2 (S upU di σ) := by
  refine fn_exc (r := [.val (.ref 25), .val (.str [122]), .val (.str k), .val (.int l)]) rfl ?_
  unfold b_Keeping_put
  have e1 : sExpr (eMeth 2 f_Holdings_record (eFld 0 0 (eV 0)) (aCons (eV 1) aNil)) [.val (.ref 25), .val (.str [122]), .val (.str k), .val (.int l)] (S upU di σ) = .exc 2 [.val (.ref 25), .val (.str [122]), .val (.str k), .val (.int l)] (S upU di σ) := by simp [g25, g4, rec_z]
  show sSeq _ _ [.val (.ref 25), .val (.str [122]), .val (.str k), .val (.int l)] (S upU di σ) = _
  rw [sSeq_ap, e1]
  rfl
def fly : Tx := [102, 108, 121]
theorem put_fly {di : Cell} {σ : Md} {m : Nat} (h : Mk m) (l : Int) : f_Keeping_put [.ref 25, .str [m], .str fly, .int l] (S upU di σ) = .exc 3 (S upU di σ) := by
  obtain ⟨n, hr⟩ := rec_ok (up := upU) (di := di) (σ := σ) h
  have tb : hasD tblD (.str fly) = false := by decide
  have ti := tbl_in (S upU di σ) fly
  rw [tb] at ti
  refine fn_exc (r := [.val (.ref 25), .val (.str [m]), .val (.str fly), .val (.int l)]) rfl ?_
  unfold b_Keeping_put
  have e1 : sExpr (eMeth 2 f_Holdings_record (eFld 0 0 (eV 0)) (aCons (eV 1) aNil)) [.val (.ref 25), .val (.str [m]), .val (.str fly), .val (.int l)] (S upU di σ) = .nx [.val (.ref 25), .val (.str [m]), .val (.str fly), .val (.int l)] (S upU di σ) := by simp [g25, g4, hr]
  have e2 : sIf (tE (eOp2 oNotIn (eV 2) (eFld 0 1 (eV 0)))) (sRaise 3) sNext [.val (.ref 25), .val (.str [m]), .val (.str fly), .val (.int l)] (S upU di σ) = .exc 3 [.val (.ref 25), .val (.str [m]), .val (.str fly), .val (.int l)] (S upU di σ) := by simp [g25, ti]
  show sSeq _ _ [.val (.ref 25), .val (.str [m]), .val (.str fly), .val (.int l)] (S upU di σ) = _
  rw [sSeq_ap, e1, seqK_nx, sSeq_ap, e2]
  rfl
end K04
/-! Q12: k04, plain: a turn that puts a kind. -/
namespace K04
open Mir
def mkT : List Tx := [[97], [98], [99], [100], [101], [102], [122]]
def kiT : List Tx := [short, short, lng, ever, fly]
theorem up_in {di : Cell} {σ : Md} (k : Tx) : oIn (S upU di σ) (.val (.str k)) (.val (.ref 5)) = some (.bl (hasD upD (.str k))) := in_dct (g5 (up := upU)) k
theorem own_in (s : St) : True := trivial
def R (σ σ' : Md) : Prop := Ok σ'
theorem okPut {σ : Md} (o : Ok σ) {m : Nat} (h : Mk m) {k : Tx} (hk : k = short ∨ k = lng ∨ k = ever) {l : Int} (hl : 600000 ≤ l ∧ l < 605000) : Ok { σ with ks := putD σ.ks (.str [m]) (.tup [.str k, .int l]) } where
  hs := o.hs
  hn := o.hn
  hl := o.hl
  ks := fun p hp => by
    rcases putD_mem hp with hp | rfl
    · exact o.ks p hp
    · exact ⟨⟨m, rfl, h⟩, k, l, rfl, hk, hl.1, hl.2⟩
  kn := putD_nodup o.kn
  gk := o.gk
  gn := o.gn
  g2 := o.g2
  gl := o.gl
  g2n := o.g2n
theorem bput_ok {di : Cell} {σ : Md} (o : Ok σ) (hdi : Dice di) (e : Ev) {mt : Tx} (hm : e.a4 = .val (.str mt)) (hmt : mt ∈ mkT) : ∃ di' σ' e', b_put (LE e) (S upU di σ) = .nx (LE e') (S upU di' σ') ∧ Dice di' ∧ Ok σ' ∧ e'.a10 = e.a10 := by
  obtain ⟨v1, d1, r1, v1a, v1b, hd1⟩ := roll' (up := upU) (σ := σ) hdi 5 (by omega)
  obtain ⟨v2, d2, r2, v2a, v2b, hd2⟩ := roll' (up := upU) (σ := σ) hd1 5000 (by omega)
  obtain ⟨kt, hkt, hkm⟩ : ∃ kt, atD (kiT.map D.str) v1 = some (.str kt) ∧ kt ∈ kiT := by
    rcases (by omega : v1 = 0 ∨ v1 = 1 ∨ v1 = 2 ∨ v1 = 3 ∨ v1 = 4) with h | h | h | h | h <;> subst h
    · exact ⟨short, rfl, by simp [kiT]⟩
    · exact ⟨short, rfl, by simp [kiT]⟩
    · exact ⟨lng, rfl, by simp [kiT]⟩
    · exact ⟨ever, rfl, by simp [kiT]⟩
    · exact ⟨fly, rfl, by simp [kiT]⟩
  unfold b_put
  rw [sSeq_ap]
  have u1 : sUnp (.tp [(.nm 11), (.nm 12)]) (eTup (aCons (eOp2 oGet (eFrz (nLst (aCons (eC (.str [115, 104, 111, 114, 116])) (aCons (eC (.str [115, 104, 111, 114, 116])) (aCons (eC (.str [108, 111, 110, 103])) (aCons (eC (.str [101, 118, 101, 114])) (aCons (eC (.str [102, 108, 121])) aNil))))))) (eCall f_law_roll (aCons (eV 1) (aCons (eC (.int 5)) aNil)))) (aCons (eOp2 oAdd (eC (.int 600000)) (eCall f_law_roll (aCons (eV 1) (aCons (eC (.int 5000)) aNil)))) aNil))) (LE e) (S upU di σ) = .nx (LE { e with a11 := .val (.str kt), a12 := .val (.int (600000 + v2)) }) (S upU d2 σ) := by
    have h1 : (LE e)[1]? = some (.val (.ref 0)) := rfl
    have gg : oGet (S upU d1 σ) (.val (.lst [.str [115, 104, 111, 114, 116], .str [115, 104, 111, 114, 116], .str [108, 111, 110, 103], .str [101, 118, 101, 114], .str [102, 108, 121]])) (.val (.int v1)) = some (.str kt) := by
      show (match (Opd.val (.int v1)) with | .val (.int i) => _ | _ => none) = _
      exact hkt
    have l1 : (5 : Nat) ≤ lim := by decide
    have l2 : (2 : Nat) ≤ lim := by decide
    have lle : (LE e).length = 24 := rfl
    simp [-getElem?_pos, h1, r1, r2, gg, l1, l2, lle]
    rfl
  rw [u1, seqK_nx, sSeq_ap, sSet_ap]
  have q1 : (600000 : Int) ≤ 600000 + v2 ∧ 600000 + v2 < 605000 := by omega
  generalize hE : ({ e with a11 := .val (.str kt), a12 := .val (.int (600000 + v2)) } : Ev) = e1
  have z4 : (LE e1)[4]? = some (.val (.str mt)) := by rw [← hE]; exact congrArg some hm
  have z11 : (LE e1)[11]? = some (.val (.str kt)) := by rw [← hE]; rfl
  have z12 : (LE e1)[12]? = some (.val (.int (600000 + v2))) := by rw [← hE]; rfl
  have z3 : (LE e1)[3]? = some (.val (.ref 8)) := rfl
  have z10 : e1.a10 = e.a10 := by rw [← hE]
  have good : eAnd (eOp2 oIn (eV 4) (eOp2 oGet (eV 3) (eC (.str [117, 112])))) (eOp2 oNeA (eV 11) (eC (.str [102, 108, 121]))) (LE e1) (S upU d2 σ) = .ok (.val (.bl (hasD upD (.str mt) && !decide (kt = fly)))) (S upU d2 σ) := by
    rw [eAnd_ap]
    have : eOp2 oIn (eV 4) (eOp2 oGet (eV 3) (eC (.str [117, 112]))) (LE e1) (S upU d2 σ) = .ok (.val (.bl (hasD upD (.str mt)))) (S upU d2 σ) := by simp [z4, z3, gUp, up_in]
    rw [this, bindok]
    exact andK_val _ _ _ _ _ fun _ => by rw [eOp2_ap, eV_ap, z11]; simp [fly]; exact decide_eq_decide.mpr Iff.rfl
  rw [good, sBind_ok, setK_val, if_pos (by simp [LE])]
  rw [show (LE e1).set 13 (.val (.bl (hasD upD (.str mt) && !decide (kt = fly)))) = LE { e1 with a13 := .val (.bl (hasD upD (.str mt) && !decide (kt = fly))) } from rfl, seqK_nx, sSeq_ap]
  generalize hE2 : ({ e1 with a13 := .val (.bl (hasD upD (.str mt) && !decide (kt = fly))) } : Ev) = e2
  have y4 : (LE e2)[4]? = some (.val (.str mt)) := by rw [← hE2]; exact z4
  have y11 : (LE e2)[11]? = some (.val (.str kt)) := by rw [← hE2]; exact z11
  have y12 : (LE e2)[12]? = some (.val (.int (600000 + v2))) := by rw [← hE2]; exact z12
  have y13 : (LE e2)[13]? = some (.val (.bl (hasD upD (.str mt) && !decide (kt = fly)))) := by rw [← hE2]; rfl
  have y3 : (LE e2)[3]? = some (.val (.ref 8)) := rfl
  have y7 : (LE e2)[7]? = some (.val (.ref 25)) := rfl
  have y10 : e2.a10 = e.a10 := by rw [← hE2]; exact z10
  have kf : kt = fly ∨ (kt = short ∨ kt = lng ∨ kt = ever) := by
    simp [kiT] at hkm
    rcases hkm with h | h | h | h <;> simp [h]
  by_cases hg : (hasD upD (.str mt) && !decide (kt = fly)) = true
  · rw [hg] at y13
    rw [Bool.and_eq_true] at hg
    obtain ⟨m, rfl, hmk⟩ : ∃ m, mt = [m] ∧ Mk m := by
      simp [mkT] at hmt
      rcases hmt with h | h | h | h | h | h | h <;> subst h
      · exact ⟨_, rfl, by unfold Mk; omega⟩
      · exact ⟨_, rfl, by unfold Mk; omega⟩
      · exact ⟨_, rfl, by unfold Mk; omega⟩
      · exact ⟨_, rfl, by unfold Mk; omega⟩
      · exact ⟨_, rfl, by unfold Mk; omega⟩
      · exact ⟨_, rfl, by unfold Mk; omega⟩
      · exact absurd hg.1 (by decide)
    have hk : kt = short ∨ kt = lng ∨ kt = ever := by
      rcases kf with h | h
      · simp [h] at hg
      · exact h
    have po := put_ok (di := d2) o hmk hk (600000 + v2)
    have tt : eMeth 0 f_Keeping_put (eV 7) (aCons (eV 4) (aCons (eV 11) (aCons (eV 12) aNil))) (LE e2) (S upU d2 σ) = .ok (.val .non) (SS d2 upU (.dct 0 σ.ks) (.dct 0 σ.gs) (own σ) (.dct 0 (putD (kn σ.ks) (.str [m]) (.str kt))) (.dct 0 (putD (kd σ.ks) (.str [m]) (.int (600000 + v2)))) (.lst σ.hs) (.dct 0 σ.g2)) := by
      simp [y7, y4, y11, y12, g25, po]
    have tl := told_ok' (es := [1, 2, 3]) (ret := [65, 114, 99, 104, 105, 118, 101, 69, 114, 114, 111, 114]) tt
    refine ⟨d2, { σ with ks := putD σ.ks (.str [m]) (.tup [.str kt, .int (600000 + v2)]) }, e2, ?_, hd2, okPut o hmk hk q1, y10⟩
    have i1 : sIf (tE (eOp2 oEqA (eOp2 oEqA (eTold [1, 2, 3] [65, 114, 99, 104, 105, 118, 101, 69, 114, 114, 111, 114] (eMeth 0 f_Keeping_put (eV 7) (aCons (eV 4) (aCons (eV 11) (aCons (eV 12) aNil))))) (eC (.str [65, 114, 99, 104, 105, 118, 101, 69, 114, 114, 111, 114]))) (eV 13))) (sRet (eC (.bl false))) sNext (LE e2) (S upU d2 σ) = .nx (LE e2) (SS d2 upU (.dct 0 σ.ks) (.dct 0 σ.gs) (own σ) (.dct 0 (putD (kn σ.ks) (.str [m]) (.str kt))) (.dct 0 (putD (kd σ.ks) (.str [m]) (.int (600000 + v2)))) (.lst σ.hs) (.dct 0 σ.g2)) := by
      have ns : ∀ s, oEqA s (.val .non) (.val (.str [65, 114, 99, 104, 105, 118, 101, 69, 114, 114, 111, 114])) = some (.bl false) := fun s => by simp [oEqA, eqA, eqD, look, scalD]
      rw [sIf_ap, tE_ap, eOp2_ap, eOp2_ap, tl, bindok, op2A_ap]
      simp [ns, y13]
    rw [i1, seqK_nx, sIf_ap]
    have kl := ks_len o
    have i2 := putDC_ok (d := eOp2 oGet (eV 3) (eC (.str [107, 105, 110, 100, 115]))) (k := eV 4) (e := eTup (aCons (eV 11) (aCons (eV 12) aNil))) (r := LE e2) (s := SS d2 upU (.dct 0 σ.ks) (.dct 0 σ.gs) (own σ) (.dct 0 (putD (kn σ.ks) (.str [m]) (.str kt))) (.dct 0 (putD (kd σ.ks) (.str [m]) (.int (600000 + v2)))) (.lst σ.hs) (.dct 0 σ.g2)) (n := 6) (ps := σ.ks) (w := .tup [.str kt, .int (600000 + v2)]) (kk := [m]) (s1 := SS d2 upU (.dct 0 σ.ks) (.dct 0 σ.gs) (own σ) (.dct 0 (putD (kn σ.ks) (.str [m]) (.str kt))) (.dct 0 (putD (kd σ.ks) (.str [m]) (.int (600000 + v2)))) (.lst σ.hs) (.dct 0 σ.g2)) (s2 := SS d2 upU (.dct 0 σ.ks) (.dct 0 σ.gs) (own σ) (.dct 0 (putD (kn σ.ks) (.str [m]) (.str kt))) (.dct 0 (putD (kd σ.ks) (.str [m]) (.int (600000 + v2)))) (.lst σ.hs) (.dct 0 σ.g2)) (s3 := SS d2 upU (.dct 0 σ.ks) (.dct 0 σ.gs) (own σ) (.dct 0 (putD (kn σ.ks) (.str [m]) (.str kt))) (.dct 0 (putD (kd σ.ks) (.str [m]) (.int (600000 + v2)))) (.lst σ.hs) (.dct 0 σ.g2)) (by
        have l2 : (2 : Nat) ≤ lim := by decide
        simp [y11, y12, l2]) (by
        have gq : oGet (SS d2 upU (.dct 0 σ.ks) (.dct 0 σ.gs) (own σ) (.dct 0 (putD (kn σ.ks) (.str [m]) (.str kt))) (.dct 0 (putD (kd σ.ks) (.str [m]) (.int (600000 + v2)))) (.lst σ.hs) (.dct 0 σ.g2)) (.val (.ref 8)) (.val (.str [107, 105, 110, 100, 115])) = some (.ref 6) := by
          rw [get_dct (n := 8) (ps := [(kUp, .ref 5), (kKi, .ref 6), (kHo, .lst σ.hs), (kGo, .ref 7)]) rfl]
          simp [lookD, kUp, kKi, kHo, kGo]
        simp [y3, gq]) (by simp [y4]) rfl (by unfold lim; omega)
    simp only [tE_ap, eV_ap, y13, slotO_val, bindok, teK_bl, sBind_ok, sifK_ap, if_true]
    rw [i2]
    unfold S
    rw [show kn (putD σ.ks (.str [m]) (.tup [.str kt, .int (600000 + v2)])) = putD (kn σ.ks) (.str [m]) (.str kt) from putD_map fstT σ.ks _ _, show kd (putD σ.ks (.str [m]) (.tup [.str kt, .int (600000 + v2)])) = putD (kd σ.ks) (.str [m]) (.int (600000 + v2)) from putD_map sndT σ.ks _ _]
    rfl
  · have hgf : (hasD upD (.str mt) && !decide (kt = fly)) = false := by simpa using hg
    rw [hgf] at y13
    have tt : ∃ x, eMeth 0 f_Keeping_put (eV 7) (aCons (eV 4) (aCons (eV 11) (aCons (eV 12) aNil))) (LE e2) (S upU d2 σ) = .exc x (S upU d2 σ) ∧ (x = 2 ∨ x = 3) := by
      by_cases hz : mt = [122]
      · subst hz
        exact ⟨2, by simp [y7, y4, y11, y12, g25, put_z], .inl rfl⟩
      · obtain ⟨m, rfl, hmk⟩ : ∃ m, mt = [m] ∧ Mk m := by
          simp [mkT] at hmt
          rcases hmt with h | h | h | h | h | h | h <;> subst h
          · exact ⟨_, rfl, by unfold Mk; omega⟩
          · exact ⟨_, rfl, by unfold Mk; omega⟩
          · exact ⟨_, rfl, by unfold Mk; omega⟩
          · exact ⟨_, rfl, by unfold Mk; omega⟩
          · exact ⟨_, rfl, by unfold Mk; omega⟩
          · exact ⟨_, rfl, by unfold Mk; omega⟩
          · exact absurd rfl hz
        have hu : hasD upD (.str [m]) = true := by rcases mk6 hmk with h | h | h | h | h | h <;> subst h <;> decide
        rw [hu] at hgf
        have hf : kt = fly := by simpa using hgf
        subst hf
        exact ⟨3, by simp [y7, y4, y11, y12, g25, put_fly hmk], .inr rfl⟩
    obtain ⟨x, tt, hx⟩ := tt
    have tl := told_exc' (es := [1, 2, 3]) (ret := [65, 114, 99, 104, 105, 118, 101, 69, 114, 114, 111, 114]) tt (by rcases hx with rfl | rfl <;> rfl)
    refine ⟨d2, σ, e2, ?_, hd2, o, y10⟩
    have i1 : sIf (tE (eOp2 oEqA (eOp2 oEqA (eTold [1, 2, 3] [65, 114, 99, 104, 105, 118, 101, 69, 114, 114, 111, 114] (eMeth 0 f_Keeping_put (eV 7) (aCons (eV 4) (aCons (eV 11) (aCons (eV 12) aNil))))) (eC (.str [65, 114, 99, 104, 105, 118, 101, 69, 114, 114, 111, 114]))) (eV 13))) (sRet (eC (.bl false))) sNext (LE e2) (S upU d2 σ) = .nx (LE e2) (S upU d2 σ) := by
      rw [sIf_ap, tE_ap, eOp2_ap, eOp2_ap, tl, bindok, op2A_ap]
      simp [y13]
    rw [i1, seqK_nx, sIf_ap]
    simp [y13]
end K04
/-! Q13: k04, plain: a turn that holds or frees. -/
namespace K04
open Mir
def row (n : Nat) (mt : Tx) : D := .tup [.str [104, n], .str mt]
theorem row_eqv {z : D} (hz : Row z) (n : Nat) (mt : Tx) : eqv z (row n mt) = decide (z = row n mt) := by
  obtain ⟨a, b, rfl, ha, hb⟩ := hz
  unfold row
  by_cases h : a = n
  · by_cases h2 : [b] = mt
    · subst h h2; simp [eqv, eqvL]
    · simp [eqv, eqvL, h, h2]
  · simp [eqv, eqvL, h]
theorem rows_shap {σ : Md} (o : Ok σ) : shap 20 (.lst σ.hs) = true := by
  have h : ∀ {l : List D}, (∀ z ∈ l, Row z) → shapL 19 l = true := by
    intro l
    induction l with
    | nil => intro _; rfl
    | cons a l ih =>
      intro h
      obtain ⟨n, m, rfl, hn, hm⟩ := h a List.mem_cons_self
      have := ih fun z hz => h z (List.mem_cons_of_mem _ hz)
      unfold Mk at hm
      have h1 : m < 1114112 := by omega
      have h2 : n < 1114112 := by omega
      simp [shapL, shap, this, h1, h2, lim]
  unfold shap
  have hl := hl_lim o
  simp [h o.hs, hl]
theorem mt_ok {mt : Tx} (h : mt ∈ mkT) : mt = [122] ∨ ∃ m, mt = [m] ∧ Mk m := by
  simp [mkT] at h
  rcases h with h | h | h | h | h | h | h <;> subst h
  · exact .inr ⟨_, rfl, by unfold Mk; omega⟩
  · exact .inr ⟨_, rfl, by unfold Mk; omega⟩
  · exact .inr ⟨_, rfl, by unfold Mk; omega⟩
  · exact .inr ⟨_, rfl, by unfold Mk; omega⟩
  · exact .inr ⟨_, rfl, by unfold Mk; omega⟩
  · exact .inr ⟨_, rfl, by unfold Mk; omega⟩
  · exact .inl rfl
theorem row_shap {n : Nat} (hn : n = 48 ∨ n = 49) {mt : Tx} (h : mt ∈ mkT) : shap 20 (row n mt) = true := by
  have : (mt.all fun c => decide (c < 1114112)) = true := by
    rcases mt_ok h with rfl | ⟨m, rfl, hm⟩
    · rfl
    · unfold Mk at hm; simp; omega
  have h2 : n < 1114112 := by omega
  unfold row
  simp only [shap, shapL, List.all_cons, List.all_nil, this]
  simp [h2, lim]
def there (hs : List D) (n : Nat) (mt : Tx) : Bool := hs.any fun z => decide (z = row n mt)
theorem in_rows {σ : Md} (o : Ok σ) {n : Nat} (hn : n = 48 ∨ n = 49) {mt : Tx} (h : mt ∈ mkT) (s : St) (y : Opd) (hy : listOf s y = some σ.hs) (hd : dctOf s y = none) (hy2 : inSeq s (row n mt) y = inLst s (row n mt) y) : inD s (.val (row n mt)) y = some (there σ.hs n mt) := by
  have e : (σ.hs.any fun z => eqv z (row n mt)) = there σ.hs n mt := by
    unfold there
    have : ∀ {l : List D}, (∀ z ∈ l, Row z) → (l.any fun z => eqv z (row n mt)) = l.any fun z => decide (z = row n mt) := by
      intro l
      induction l with
      | nil => intro _; rfl
      | cons a l ih => intro h; simp only [List.any_cons]; rw [row_eqv (h a List.mem_cons_self), ih fun z hz => h z (List.mem_cons_of_mem _ hz)]
    exact this o.hs
  unfold inD
  rw [hd]
  dsimp only
  rw [hy2]
  unfold inLst
  rw [hy]
  dsimp only
  rw [if_pos ⟨row_shap hn h, rows_shap o⟩, e]
theorem in_lst {σ : Md} (o : Ok σ) {n : Nat} (hn : n = 48 ∨ n = 49) {mt : Tx} (h : mt ∈ mkT) (s : St) : oIn s (.val (row n mt)) (.val (.lst σ.hs)) = some (.bl (there σ.hs n mt)) := by
  unfold oIn
  rw [in_rows o hn h s _ rfl rfl rfl]
  rfl
theorem in_cel {σ : Md} (o : Ok σ) {up di : Cell} {n : Nat} (hn : n = 48 ∨ n = 49) {mt : Tx} (h : mt ∈ mkT) : oIn (S up di σ) (.val (row n mt)) (.val (.ref 23)) = some (.bl (there σ.hs n mt)) ∧ oNotIn (S up di σ) (.val (row n mt)) (.val (.ref 23)) = some (.bl (!there σ.hs n mt)) := by
  unfold oIn oNotIn
  rw [in_rows o hn h _ _ (by simp [listOf, g23]) (by simp [dctOf, g23]) rfl]
  exact ⟨rfl, rfl⟩
theorem there_z {σ : Md} (o : Ok σ) (n : Nat) : there σ.hs n [122] = false := by
  unfold there
  rw [List.any_eq_false]
  intro z hz
  obtain ⟨a, b, rfl, ha, hb⟩ := o.hs z hz
  unfold Mk at hb
  simp [row]
  omega
/-- cells 8 and 23 -/
def SH (di : Cell) (σ : Md) (h8 h23 : List D) : St := SS di upU (.dct 0 σ.ks) (.dct 0 σ.gs) (.dct 0 [(kUp, .ref 5), (kKi, .ref 6), (kHo, .lst h8), (kGo, .ref 7)]) (.dct 0 (kn σ.ks)) (.dct 0 (kd σ.ks)) (.lst h23) (.dct 0 σ.g2)
theorem hold_ok {di : Cell} {σ : Md} (o : Ok σ) {n : Nat} (hn : n = 48 ∨ n = 49) {m : Nat} (hm : Mk m) (ht : there σ.hs n [m] = false) : f_Keeping_hold [.ref 25, .str [104, n], .str [m]] (S upU di σ) = .ok .non (SH di σ σ.hs (σ.hs ++ [row n [m]])) := by
  have hmt : [m] ∈ mkT := by rcases mk6 hm with h | h | h | h | h | h <;> subst h <;> simp [mkT]
  obtain ⟨x, hr⟩ := rec_ok (up := upU) (di := di) (σ := σ) hm
  have hi := (in_cel o (up := upU) (di := di) hn hmt).1
  rw [ht] at hi
  unfold row at hi
  have l2 : (2 : Nat) ≤ lim := by decide
  have hl : σ.hs.length < lim := by have := o.hl; unfold lim; omega
  refine fn_nx (r := [.val (.ref 25), .val (.str [104, n]), .val (.str [m])]) rfl ?_
  unfold b_Keeping_hold
  have e1 : sExpr (eMeth 2 f_Holdings_record (eFld 0 0 (eV 0)) (aCons (eV 2) aNil)) [.val (.ref 25), .val (.str [104, n]), .val (.str [m])] (S upU di σ) = .nx [.val (.ref 25), .val (.str [104, n]), .val (.str [m])] (S upU di σ) := by simp [g25, g4, hr]
  have e2 : sIf (tE (eOp2 oIn (eTup (aCons (eV 1) (aCons (eV 2) aNil))) (eFld 0 4 (eV 0)))) (sRaise 3) sNext [.val (.ref 25), .val (.str [104, n]), .val (.str [m])] (S upU di σ) = .nx [.val (.ref 25), .val (.str [104, n]), .val (.str [m])] (S upU di σ) := by simp [g25, hi, l2]
  show sSeq _ _ [.val (.ref 25), .val (.str [104, n]), .val (.str [m])] (S upU di σ) = _
  rw [sSeq_ap, e1, seqK_nx, sSeq_ap, e2, seqK_nx]
  unfold sAppC
  have e3 : eFld 0 4 (eV 0) [.val (.ref 25), .val (.str [104, n]), .val (.str [m])] (S upU di σ) = .ok (.val (.ref 23)) (S upU di σ) := by simp [g25]
  have e4 : eTup (aCons (eV 1) (aCons (eV 2) aNil)) [.val (.ref 25), .val (.str [104, n]), .val (.str [m])] (S upU di σ) = .ok (.val (row n [m])) (S upU di σ) := by simp [l2, row]
  rw [e3, sBind_ok]
  dsimp only
  rw [g23]
  dsimp only
  rw [e4, sBind_ok, g23]
  dsimp only
  rw [if_pos hl]
  rfl
theorem hold_bad {di : Cell} {σ : Md} (o : Ok σ) {n : Nat} (hn : n = 48 ∨ n = 49) {mt : Tx} (hmt : mt ∈ mkT) (hb : mt = [122] ∨ there σ.hs n mt = true) : ∃ x, f_Keeping_hold [.ref 25, .str [104, n], .str mt] (S upU di σ) = .exc x (S upU di σ) ∧ (x = 2 ∨ x = 3) := by
  have l2 : (2 : Nat) ≤ lim := by decide
  rcases mt_ok hmt with rfl | ⟨m, rfl, hm⟩
  · refine ⟨2, fn_exc (r := [.val (.ref 25), .val (.str [104, n]), .val (.str [122])]) rfl ?_, .inl rfl⟩
    unfold b_Keeping_hold
    have e1 : sExpr (eMeth 2 f_Holdings_record (eFld 0 0 (eV 0)) (aCons (eV 2) aNil)) [.val (.ref 25), .val (.str [104, n]), .val (.str [122])] (S upU di σ) = .exc 2 [.val (.ref 25), .val (.str [104, n]), .val (.str [122])] (S upU di σ) := by simp [g25, g4, rec_z]
    show sSeq _ _ [.val (.ref 25), .val (.str [104, n]), .val (.str [122])] (S upU di σ) = _
    rw [sSeq_ap, e1]
    rfl
  · have ht : there σ.hs n [m] = true := by
      rcases hb with hb | hb
      · have : m = 122 := by simpa using hb
        unfold Mk at hm; omega
      · exact hb
    obtain ⟨x, hr⟩ := rec_ok (up := upU) (di := di) (σ := σ) hm
    have hi := (in_cel o (up := upU) (di := di) hn hmt).1
    rw [ht] at hi
    unfold row at hi
    refine ⟨3, fn_exc (r := [.val (.ref 25), .val (.str [104, n]), .val (.str [m])]) rfl ?_, .inr rfl⟩
    unfold b_Keeping_hold
    have e1 : sExpr (eMeth 2 f_Holdings_record (eFld 0 0 (eV 0)) (aCons (eV 2) aNil)) [.val (.ref 25), .val (.str [104, n]), .val (.str [m])] (S upU di σ) = .nx [.val (.ref 25), .val (.str [104, n]), .val (.str [m])] (S upU di σ) := by simp [g25, g4, hr]
    have e2 : sIf (tE (eOp2 oIn (eTup (aCons (eV 1) (aCons (eV 2) aNil))) (eFld 0 4 (eV 0)))) (sRaise 3) sNext [.val (.ref 25), .val (.str [104, n]), .val (.str [m])] (S upU di σ) = .exc 3 [.val (.ref 25), .val (.str [104, n]), .val (.str [m])] (S upU di σ) := by simp [g25, hi, l2]
    show sSeq _ _ [.val (.ref 25), .val (.str [104, n]), .val (.str [m])] (S upU di σ) = _
    rw [sSeq_ap, e1, seqK_nx, sSeq_ap, e2]
    rfl
theorem erase_filter {r : D} : ∀ {l : List D} {j : Nat}, l.Nodup → l.findIdx? (fun z => decide (z = r)) = some j → l.eraseIdx j = l.filter fun z => !decide (z = r)
  | [], j, _, h => by simp at h
  | a :: l, j, hn, h => by
    obtain ⟨n1, n2⟩ := List.nodup_cons.mp hn
    rw [List.findIdx?_cons] at h
    by_cases e : a = r
    · rw [if_pos (by simpa using e)] at h
      cases h
      have : (l.filter fun z => !decide (z = r)) = l := List.filter_eq_self.mpr fun z hz => by
        have : z ≠ r := fun q => n1 (by rw [e, ← q]; exact hz)
        simp [this]
      simp [e, this]
    · rw [if_neg (by simpa using e)] at h
      simp only [Option.map_eq_some_iff] at h
      obtain ⟨i, hi, rfl⟩ := h
      simp [e, erase_filter n2 hi]
theorem free_ok {di : Cell} {σ : Md} (o : Ok σ) {n : Nat} (hn : n = 48 ∨ n = 49) {mt : Tx} (hmt : mt ∈ mkT) (ht : there σ.hs n mt = true) : f_Keeping_free [.ref 25, .str [104, n], .str mt] (S upU di σ) = .ok .non (SH di σ σ.hs (σ.hs.filter fun z => !decide (z = row n mt))) := by
  have l2 : (2 : Nat) ≤ lim := by decide
  have hi := (in_cel o (up := upU) (di := di) hn hmt).2
  rw [ht] at hi
  unfold row at hi
  refine fn_nx (r := [.val (.ref 25), .val (.str [104, n]), .val (.str mt)]) rfl ?_
  unfold b_Keeping_free
  have e2 : sIf (tE (eOp2 oNotIn (eTup (aCons (eV 1) (aCons (eV 2) aNil))) (eFld 0 4 (eV 0)))) (sRaise 3) sNext [.val (.ref 25), .val (.str [104, n]), .val (.str mt)] (S upU di σ) = .nx [.val (.ref 25), .val (.str [104, n]), .val (.str mt)] (S upU di σ) := by simp [g25, hi, l2]
  show sSeq _ _ [.val (.ref 25), .val (.str [104, n]), .val (.str mt)] (S upU di σ) = _
  rw [sSeq_ap, e2, seqK_nx, sExpr_ap]
  unfold eRemC
  have e3 : eFld 0 4 (eV 0) [.val (.ref 25), .val (.str [104, n]), .val (.str mt)] (S upU di σ) = .ok (.val (.ref 23)) (S upU di σ) := by simp [g25]
  have e4 : eTup (aCons (eV 1) (aCons (eV 2) aNil)) [.val (.ref 25), .val (.str [104, n]), .val (.str mt)] (S upU di σ) = .ok (.val (row n mt)) (S upU di σ) := by simp [l2, row]
  rw [e3, bindok]
  dsimp only
  rw [g23]
  dsimp only
  rw [e4, bindok, g23]
  dsimp only
  rw [if_pos ⟨row_shap hn hmt, rows_shap o⟩]
  have e5 : (σ.hs.findIdx? fun z => eqv z (row n mt)) = σ.hs.findIdx? fun z => decide (z = row n mt) := by
    have : ∀ {l : List D}, (∀ z ∈ l, Row z) → (l.findIdx? fun z => eqv z (row n mt)) = l.findIdx? fun z => decide (z = row n mt) := by
      intro l
      induction l with
      | nil => intro _; rfl
      | cons a l ih => intro h; simp only [List.findIdx?_cons]; rw [row_eqv (h a List.mem_cons_self), ih fun z hz => h z (List.mem_cons_of_mem _ hz)]
    exact this o.hs
  obtain ⟨j, hj⟩ : ∃ j, σ.hs.findIdx? (fun z => decide (z = row n mt)) = some j := by
    cases q : σ.hs.findIdx? (fun z => decide (z = row n mt)) with
    | some j => exact ⟨j, rfl⟩
    | none =>
      rw [List.findIdx?_eq_none_iff] at q
      unfold there at ht
      obtain ⟨z, z1, z2⟩ := List.any_eq_true.mp ht
      rw [q z z1] at z2
      cases z2
  rw [e5, hj, ← erase_filter o.hn hj]
  rfl
theorem free_bad {di : Cell} {σ : Md} (o : Ok σ) {n : Nat} (hn : n = 48 ∨ n = 49) {mt : Tx} (hmt : mt ∈ mkT) (ht : there σ.hs n mt = false) : f_Keeping_free [.ref 25, .str [104, n], .str mt] (S upU di σ) = .exc 3 (S upU di σ) := by
  have l2 : (2 : Nat) ≤ lim := by decide
  have hi := (in_cel o (up := upU) (di := di) hn hmt).2
  rw [ht] at hi
  unfold row at hi
  refine fn_exc (r := [.val (.ref 25), .val (.str [104, n]), .val (.str mt)]) rfl ?_
  unfold b_Keeping_free
  have e2 : sIf (tE (eOp2 oNotIn (eTup (aCons (eV 1) (aCons (eV 2) aNil))) (eFld 0 4 (eV 0)))) (sRaise 3) sNext [.val (.ref 25), .val (.str [104, n]), .val (.str mt)] (S upU di σ) = .exc 3 [.val (.ref 25), .val (.str [104, n]), .val (.str mt)] (S upU di σ) := by simp [g25, hi, l2]
  show sSeq _ _ [.val (.ref 25), .val (.str [104, n]), .val (.str mt)] (S upU di σ) = _
  rw [sSeq_ap, e2]
  rfl
end K04
/-! Q14: k04, plain: a turn that holds or frees. -/
namespace K04
open Mir
theorem there_mem {hs : List D} {n : Nat} {mt : Tx} : there hs n mt = true ↔ row n mt ∈ hs := by
  unfold there
  rw [List.any_eq_true]
  constructor
  · rintro ⟨z, h1, h2⟩
    rw [← of_decide_eq_true h2]
    exact h1
  · exact fun h => ⟨_, h, by simp⟩
def rowsL : List D := [row 48 [97], row 48 [98], row 48 [99], row 48 [100], row 48 [101], row 48 [102], row 49 [97], row 49 [98], row 49 [99], row 49 [100], row 49 [101], row 49 [102]]
theorem row_mem {z : D} (h : Row z) : z ∈ rowsL := by
  obtain ⟨n, m, rfl, hn, hm⟩ := h
  rcases hn with rfl | rfl <;> rcases mk6 hm with h | h | h | h | h | h <;> subst h <;> simp [rowsL, row]
theorem okHs {σ : Md} (o : Ok σ) {hs : List D} (h1 : ∀ z ∈ hs, Row z) (h2 : hs.Nodup) : Ok { σ with hs := hs } where
  hs := h1
  hn := h2
  hl := nd_len (L := rowsL) h2 fun z hz => row_mem (h1 z hz)
  ks := o.ks
  kn := o.kn
  gk := o.gk
  gn := o.gn
  g2 := o.g2
  gl := o.gl
  g2n := o.g2n
theorem bhold_ok {di : Cell} {σ : Md} (o : Ok σ) (hdi : Dice di) (e : Ev) {mt : Tx} (hm : e.a4 = .val (.str mt)) (hmt : mt ∈ mkT) {so : Int} (hso : e.a9 = .val (.int so)) : ∃ di' σ' e', b_hold (LE e) (S upU di σ) = .nx (LE e') (S upU di' σ') ∧ Dice di' ∧ Ok σ' ∧ e'.a10 = e.a10 := by
  obtain ⟨v1, d1, r1, v1a, v1b, hd1⟩ := roll' (up := upU) (σ := σ) hdi 2 (by omega)
  obtain ⟨n, hn, hstr⟩ : ∃ n, (n = 48 ∨ n = 49) ∧ oStr (S upU d1 σ) [.val (.int v1)] = some (.str [n]) := by
    rcases (by omega : v1 = 0 ∨ v1 = 1) with h | h <;> subst h
    · exact ⟨48, .inl rfl, rfl⟩
    · exact ⟨49, .inr rfl, rfl⟩
  have l2 : (2 : Nat) ≤ lim := by decide
  have z1 : (LE e)[1]? = some (.val (.ref 0)) := rfl
  unfold b_hold
  rw [sSeq_ap, sSet_ap]
  have u1 : eOp2 oAdd (eC (.str [104])) (eOpN oStr (aCons (eCall f_law_roll (aCons (eV 1) (aCons (eC (.int 2)) aNil))) aNil)) (LE e) (S upU di σ) = .ok (.val (.str [104, n])) (S upU d1 σ) := by
    simp [z1, r1, hstr]
    simp [oAdd, l2]
  rw [u1, sBind_ok, setK_val, if_pos (by simp [LE])]
  rw [show (LE e).set 14 (.val (.str [104, n])) = LE { e with a14 := .val (.str [104, n]) } from rfl, seqK_nx, sSeq_ap, sSet_ap]
  generalize hE : ({ e with a14 := .val (.str [104, n]) } : Ev) = e1
  have y4 : (LE e1)[4]? = some (.val (.str mt)) := by rw [← hE]; exact congrArg some hm
  have y14 : (LE e1)[14]? = some (.val (.str [104, n])) := by rw [← hE]; rfl
  have y9 : (LE e1)[9]? = some (.val (.int so)) := by rw [← hE]; exact congrArg some hso
  have y10 : e1.a10 = e.a10 := by rw [← hE]
  have y3 : (LE e1)[3]? = some (.val (.ref 8)) := rfl
  have il := in_lst o hn hmt (S upU d1 σ)
  unfold row at il
  have u2 : eOp2 oIn (eTup (aCons (eV 14) (aCons (eV 4) aNil))) (eOp2 oGet (eV 3) (eC (.str [104, 111, 108, 100, 115]))) (LE e1) (S upU d1 σ) = .ok (.val (.bl (there σ.hs n mt))) (S upU d1 σ) := by simp [y4, y14, y3, gHo, il, l2]
  rw [u2, sBind_ok, setK_val, if_pos (by simp [LE])]
  rw [show (LE e1).set 15 (.val (.bl (there σ.hs n mt))) = LE { e1 with a15 := .val (.bl (there σ.hs n mt)) } from rfl, seqK_nx, sSeq_ap, sSet_ap]
  generalize hE2 : ({ e1 with a15 := .val (.bl (there σ.hs n mt)) } : Ev) = e2
  have x4 : (LE e2)[4]? = some (.val (.str mt)) := by rw [← hE2]; exact y4
  have x14 : (LE e2)[14]? = some (.val (.str [104, n])) := by rw [← hE2]; exact y14
  have x9 : (LE e2)[9]? = some (.val (.int so)) := by rw [← hE2]; exact y9
  have x15 : (LE e2)[15]? = some (.val (.bl (there σ.hs n mt))) := by rw [← hE2]; rfl
  have x10 : e2.a10 = e.a10 := by rw [← hE2]; exact y10
  have x3 : (LE e2)[3]? = some (.val (.ref 8)) := rfl
  have u3 : eIf (tE (eOp2 oEqA (eV 9) (eC (.int 2)))) (eAnd (eOp2 oIn (eV 4) (eOp2 oGet (eV 3) (eC (.str [117, 112])))) (eNot (eV 15))) (eV 15) (LE e2) (S upU d1 σ) = .ok (.val (.bl (if so = 2 then hasD upD (.str mt) && !there σ.hs n mt else there σ.hs n mt))) (S upU d1 σ) := by
    by_cases hs2 : so = 2
    · have a1 : eAnd (eOp2 oIn (eV 4) (eOp2 oGet (eV 3) (eC (.str [117, 112])))) (eNot (eV 15)) (LE e2) (S upU d1 σ) = .ok (.val (.bl (hasD upD (.str mt) && !there σ.hs n mt))) (S upU d1 σ) := by
        rw [eAnd_ap]
        have : eOp2 oIn (eV 4) (eOp2 oGet (eV 3) (eC (.str [117, 112]))) (LE e2) (S upU d1 σ) = .ok (.val (.bl (hasD upD (.str mt)))) (S upU d1 σ) := by simp [x4, x3, gUp, up_in]
        rw [this, bindok]
        exact andK_val _ _ _ _ _ fun _ => by simp [x15]
      rw [eIf_ap, tE_ap, eOp2_ap, eV_ap, x9]
      subst hs2
      simp only [slotO_val, bindok, op2A_ap, eC_ap, op2B_ap, oEqA_int, oEq_int, Option.map_some, orBad_some, teK_bl, eifK_ap, decide_true, if_true, a1]
    · simp [x9, hs2, x15]
  rw [u3, sBind_ok, setK_val, if_pos (by simp [LE])]
  generalize hg : (if so = 2 then hasD upD (.str mt) && !there σ.hs n mt else there σ.hs n mt) = good
  rw [show (LE e2).set 13 (.val (.bl good)) = LE { e2 with a13 := .val (.bl good) } from rfl, seqK_nx, sSeq_ap]
  generalize hE3 : ({ e2 with a13 := .val (.bl good) } : Ev) = e3
  have w4 : (LE e3)[4]? = some (.val (.str mt)) := by rw [← hE3]; exact x4
  have w14 : (LE e3)[14]? = some (.val (.str [104, n])) := by rw [← hE3]; exact x14
  have w9 : (LE e3)[9]? = some (.val (.int so)) := by rw [← hE3]; exact x9
  have w13 : (LE e3)[13]? = some (.val (.bl good)) := by rw [← hE3]; rfl
  have w10 : e3.a10 = e.a10 := by rw [← hE3]; exact x10
  have w3 : (LE e3)[3]? = some (.val (.ref 8)) := rfl
  have w7 : (LE e3)[7]? = some (.val (.ref 25)) := rfl
  have ns : ∀ s, oEqA s (.val .non) (.val (.str [65, 114, 99, 104, 105, 118, 101, 69, 114, 114, 111, 114])) = some (.bl false) := fun s => by simp [oEqA, eqA, eqD, look, scalD]
  cases good with
  | false =>
    have tt : ∃ x, eIf (tE (eOp2 oEqA (eV 9) (eC (.int 2)))) (eMeth 0 f_Keeping_hold (eV 7) (aCons (eV 14) (aCons (eV 4) aNil))) (eMeth 0 f_Keeping_free (eV 7) (aCons (eV 14) (aCons (eV 4) aNil))) (LE e3) (S upU d1 σ) = .exc x (S upU d1 σ) ∧ (x = 2 ∨ x = 3) := by
      by_cases hs2 : so = 2
      · rw [if_pos hs2] at hg
        obtain ⟨x, hb, hx⟩ := hold_bad (di := d1) o hn hmt (by
          rcases mt_ok hmt with h | ⟨m, rfl, hmk⟩
          · exact .inl h
          · have hu : hasD upD (.str [m]) = true := by rcases mk6 hmk with h | h | h | h | h | h <;> subst h <;> decide
            rw [hu] at hg
            exact .inr (by simpa using hg))
        exact ⟨x, by simp [w9, hs2, w7, w4, w14, g25, hb], hx⟩
      · rw [if_neg hs2] at hg
        exact ⟨3, by simp [w9, hs2, w7, w4, w14, g25, free_bad o hn hmt hg], .inr rfl⟩
    obtain ⟨x, tt, hx⟩ := tt
    have tl := told_exc' (es := [1, 2, 3]) (ret := [65, 114, 99, 104, 105, 118, 101, 69, 114, 114, 111, 114]) tt (by rcases hx with rfl | rfl <;> rfl)
    refine ⟨d1, σ, e3, ?_, hd1, o, w10⟩
    have i1 : sIf (tE (eOp2 oEqA (eOp2 oEqA (eTold [1, 2, 3] [65, 114, 99, 104, 105, 118, 101, 69, 114, 114, 111, 114] (eIf (tE (eOp2 oEqA (eV 9) (eC (.int 2)))) (eMeth 0 f_Keeping_hold (eV 7) (aCons (eV 14) (aCons (eV 4) aNil))) (eMeth 0 f_Keeping_free (eV 7) (aCons (eV 14) (aCons (eV 4) aNil))))) (eC (.str [65, 114, 99, 104, 105, 118, 101, 69, 114, 114, 111, 114]))) (eV 13))) (sRet (eC (.bl false))) sNext (LE e3) (S upU d1 σ) = .nx (LE e3) (S upU d1 σ) := by
      rw [sIf_ap, tE_ap, eOp2_ap, eOp2_ap, tl, bindok, op2A_ap]
      simp [w13]
    rw [i1, seqK_nx, sIf_ap]
    simp [w13]
  | true =>
    by_cases hs2 : so = 2
    · rw [if_pos hs2, Bool.and_eq_true] at hg
      obtain ⟨m, rfl, hmk⟩ : ∃ m, mt = [m] ∧ Mk m := by
        rcases mt_ok hmt with h | h
        · subst h
          exact absurd hg.1 (by decide)
        · exact h
      have ht : there σ.hs n [m] = false := by simpa using hg.2
      have tt : eIf (tE (eOp2 oEqA (eV 9) (eC (.int 2)))) (eMeth 0 f_Keeping_hold (eV 7) (aCons (eV 14) (aCons (eV 4) aNil))) (eMeth 0 f_Keeping_free (eV 7) (aCons (eV 14) (aCons (eV 4) aNil))) (LE e3) (S upU d1 σ) = .ok (.val .non) (SH d1 σ σ.hs (σ.hs ++ [row n [m]])) := by simp [w9, hs2, w7, w4, w14, g25, hold_ok o hn hmk ht]
      have tl := told_ok' (es := [1, 2, 3]) (ret := [65, 114, 99, 104, 105, 118, 101, 69, 114, 114, 111, 114]) tt
      refine ⟨d1, { σ with hs := σ.hs ++ [row n [m]] }, e3, ?_, hd1, okHs o (fun z hz => ?_) ?_, w10⟩
      · have i1 : sIf (tE (eOp2 oEqA (eOp2 oEqA (eTold [1, 2, 3] [65, 114, 99, 104, 105, 118, 101, 69, 114, 114, 111, 114] (eIf (tE (eOp2 oEqA (eV 9) (eC (.int 2)))) (eMeth 0 f_Keeping_hold (eV 7) (aCons (eV 14) (aCons (eV 4) aNil))) (eMeth 0 f_Keeping_free (eV 7) (aCons (eV 14) (aCons (eV 4) aNil))))) (eC (.str [65, 114, 99, 104, 105, 118, 101, 69, 114, 114, 111, 114]))) (eV 13))) (sRet (eC (.bl false))) sNext (LE e3) (S upU d1 σ) = .nx (LE e3) (SH d1 σ σ.hs (σ.hs ++ [row n [m]])) := by
          rw [sIf_ap, tE_ap, eOp2_ap, eOp2_ap, tl, bindok, op2A_ap]
          simp [ns, w13]
        rw [i1, seqK_nx, sIf_ap]
        generalize hs3 : SH d1 σ σ.hs (σ.hs ++ [row n [m]]) = s3
        have gq : oGet s3 (.val (.ref 8)) (.val (.str [104, 111, 108, 100, 115])) = some (.lst σ.hs) := by
          rw [← hs3, get_dct (n := 8) (ps := [(kUp, .ref 5), (kKi, .ref 6), (kHo, .lst σ.hs), (kGo, .ref 7)]) rfl]
          simp [lookD, kUp, kKi, kHo, kGo]
        have hl12 := o.hl
        have lc : σ.hs.length + 1 ≤ lim := by unfold lim; omega
        have l1 : (1 : Nat) ≤ lim := by decide
        have ev : eIf (tE (eOp2 oEqA (eV 9) (eC (.int 2)))) (eFrz (nOp2 nCat (eOp2 oGet (eV 3) (eC (.str [104, 111, 108, 100, 115]))) (eFrz (nLst (aCons (eTup (aCons (eV 14) (aCons (eV 4) aNil))) aNil))))) (eFrz (nLc (iE (eOp2 oGet (eV 3) (eC (.str [104, 111, 108, 100, 115])))) (.nm 21) (tE (eOp2 oNeA (eV 21) (eTup (aCons (eV 14) (aCons (eV 4) aNil))))) (eV 21) [21])) (LE e3) s3 = .ok (.val (.lst (σ.hs ++ [row n [m]]))) s3 := by
          simp [w9, hs2, w3, gq, w14, w4, l2, l1, nCat, listOf, lc, row]
        simp only [tE_ap, eV_ap, w13, slotO_val, bindok, teK_bl, sBind_ok, sifK_ap, if_true]
        rw [putDC_ok (n := 8) (ps := [(kUp, .ref 5), (kKi, .ref 6), (kHo, .lst σ.hs), (kGo, .ref 7)]) (kk := [104, 111, 108, 100, 115]) (s1 := s3) (s2 := s3) (s3 := s3) ev (by simp [w3]) (by simp) (by rw [← hs3]; rfl) (by simp [lim])]
        have : putD [(kUp, D.ref 5), (kKi, D.ref 6), (kHo, D.lst σ.hs), (kGo, D.ref 7)] (.str [104, 111, 108, 100, 115]) (.lst (σ.hs ++ [row n [m]])) = [(kUp, .ref 5), (kKi, .ref 6), (kHo, .lst (σ.hs ++ [row n [m]])), (kGo, .ref 7)] := by
          simp [putD, hasD, kUp, kKi, kHo, kGo]
        rw [this, ← hs3]
        rfl
      · rcases List.mem_append.mp hz with hz | hz
        · exact o.hs z hz
        · rw [List.mem_singleton] at hz
          subst hz
          exact ⟨n, m, rfl, hn, hmk⟩
      · rw [List.nodup_append]
        refine ⟨o.hn, by simp, fun x hx y hy q => ?_⟩
        rw [List.mem_singleton] at hy
        subst hy q
        rw [there_mem.mpr hx] at ht
        cases ht
    · rw [if_neg hs2] at hg
      have tt : eIf (tE (eOp2 oEqA (eV 9) (eC (.int 2)))) (eMeth 0 f_Keeping_hold (eV 7) (aCons (eV 14) (aCons (eV 4) aNil))) (eMeth 0 f_Keeping_free (eV 7) (aCons (eV 14) (aCons (eV 4) aNil))) (LE e3) (S upU d1 σ) = .ok (.val .non) (SH d1 σ σ.hs (σ.hs.filter fun z => !decide (z = row n mt))) := by simp [w9, hs2, w7, w4, w14, g25, free_ok o hn hmt hg]
      have tl := told_ok' (es := [1, 2, 3]) (ret := [65, 114, 99, 104, 105, 118, 101, 69, 114, 114, 111, 114]) tt
      refine ⟨d1, { σ with hs := σ.hs.filter fun z => !decide (z = row n mt) }, e3, ?_, hd1, okHs o (fun z hz => o.hs z (List.mem_filter.mp hz).1) (o.hn.filter _), w10⟩
      have i1 : sIf (tE (eOp2 oEqA (eOp2 oEqA (eTold [1, 2, 3] [65, 114, 99, 104, 105, 118, 101, 69, 114, 114, 111, 114] (eIf (tE (eOp2 oEqA (eV 9) (eC (.int 2)))) (eMeth 0 f_Keeping_hold (eV 7) (aCons (eV 14) (aCons (eV 4) aNil))) (eMeth 0 f_Keeping_free (eV 7) (aCons (eV 14) (aCons (eV 4) aNil))))) (eC (.str [65, 114, 99, 104, 105, 118, 101, 69, 114, 114, 111, 114]))) (eV 13))) (sRet (eC (.bl false))) sNext (LE e3) (S upU d1 σ) = .nx (LE e3) (SH d1 σ σ.hs (σ.hs.filter fun z => !decide (z = row n mt))) := by
        rw [sIf_ap, tE_ap, eOp2_ap, eOp2_ap, tl, bindok, op2A_ap]
        simp [ns, w13]
      rw [i1, seqK_nx, sIf_ap]
      generalize hs3 : SH d1 σ σ.hs (σ.hs.filter fun z => !decide (z = row n mt)) = s3
      have gq : oGet s3 (.val (.ref 8)) (.val (.str [104, 111, 108, 100, 115])) = some (.lst σ.hs) := by
        rw [← hs3, get_dct (n := 8) (ps := [(kUp, .ref 5), (kKi, .ref 6), (kHo, .lst σ.hs), (kGo, .ref 7)]) rfl]
        simp [lookD, kUp, kKi, kHo, kGo]
      have e21 : eFrz (nLc (iE (eOp2 oGet (eV 3) (eC (.str [104, 111, 108, 100, 115])))) (.nm 21) (tE (eOp2 oNeA (eV 21) (eTup (aCons (eV 14) (aCons (eV 4) aNil))))) (eV 21) [21]) (LE e3) s3 = .ok (.val (.lst (σ.hs.filter fun z => !decide (z = row n mt)))) s3 := by
        rw [eFrz_ap, nLc_ap]
        have e1 : iE (eOp2 oGet (eV 3) (eC (.str [104, 111, 108, 100, 115]))) (LE e3) s3 = .ok (σ.hs, .free) s3 := by simp [w3, gq]
        rw [e1, bindok, nlcK_ap]
        dsimp only
        rw [if_pos (show Watch.free.ok s3 = true from rfl), lcLoop_map (fun z => !decide (z = row n mt)) (fun z => z) σ.hs [] (fun z hz => ?_) (by have := o.hl; simp; unfold lim; omega)]
        · simp
        · refine ⟨LE { e3 with a21 := .val z }, rfl, ?_, fun _ => rfl⟩
          have v21 : (LE { e3 with a21 := .val z })[21]? = some (.val z) := rfl
          have v14 : (LE { e3 with a21 := .val z })[14]? = some (.val (.str [104, n])) := w14
          have v4 : (LE { e3 with a21 := .val z })[4]? = some (.val (.str mt)) := w4
          obtain ⟨a, b, rfl, ha, hb⟩ := o.hs z hz
          have re := row_eqv ⟨a, b, rfl, ha, hb⟩ n mt
          have rs := row_shap hn hmt
          have rs2 : shap 20 (.tup [.str [104, a], .str [b]]) = true := row_shap (mt := [b]) ha (by rcases mk6 hb with h | h | h | h | h | h <;> subst h <;> simp [mkT])
          have on : oNe s3 (.val (.tup [.str [104, a], .str [b]])) (.val (row n mt)) = some (.bl (!decide (D.tup [.str [104, a], .str [b]] = row n mt))) := by
            unfold oNe eqD
            have s1 : look s3 (.val (row n mt)) = some (row n mt) := rfl
            have s2 : look s3 (.val (.tup [.str [104, a], .str [b]])) = some (.tup [.str [104, a], .str [b]]) := rfl
            have s4 : scalD (.tup [.str [104, a], .str [b]]) (row n mt) = false := rfl
            rw [s1, s2]
            dsimp only
            rw [s4, if_neg Bool.false_ne_true, if_pos ⟨rs2, rs⟩, re]
            rfl
          have et : eTup (aCons (eV 14) (aCons (eV 4) aNil)) (LE { e3 with a21 := .val (.tup [.str [104, a], .str [b]]) }) s3 = .ok (.val (row n mt)) s3 := by simp [v14, v4, l2, row]
          rw [tE_ap, eOp2_ap, eV_ap, v21, slotO_val, bindok, op2A_ap, et, bindok, op2B_ap, oNeA_tup, on]
          rfl
      have ev : eIf (tE (eOp2 oEqA (eV 9) (eC (.int 2)))) (eFrz (nOp2 nCat (eOp2 oGet (eV 3) (eC (.str [104, 111, 108, 100, 115]))) (eFrz (nLst (aCons (eTup (aCons (eV 14) (aCons (eV 4) aNil))) aNil))))) (eFrz (nLc (iE (eOp2 oGet (eV 3) (eC (.str [104, 111, 108, 100, 115])))) (.nm 21) (tE (eOp2 oNeA (eV 21) (eTup (aCons (eV 14) (aCons (eV 4) aNil))))) (eV 21) [21])) (LE e3) s3 = .ok (.val (.lst (σ.hs.filter fun z => !decide (z = row n mt)))) s3 := by
        rw [eIf_ap, tE_ap, eOp2_ap, eV_ap, w9]
        simp only [slotO_val, bindok, op2A_ap, eC_ap, op2B_ap, oEqA_int, oEq_int, Option.map_some, orBad_some, teK_bl, eifK_ap, decide_eq_false hs2, Bool.false_eq_true, if_false, e21]
      simp only [tE_ap, eV_ap, w13, slotO_val, bindok, teK_bl, sBind_ok, sifK_ap, if_true]
      rw [putDC_ok (n := 8) (ps := [(kUp, .ref 5), (kKi, .ref 6), (kHo, .lst σ.hs), (kGo, .ref 7)]) (kk := [104, 111, 108, 100, 115]) (s1 := s3) (s2 := s3) (s3 := s3) ev (by simp [w3]) (by simp) (by rw [← hs3]; rfl) (by simp [lim])]
      have : putD [(kUp, D.ref 5), (kKi, D.ref 6), (kHo, D.lst σ.hs), (kGo, D.ref 7)] (.str [104, 111, 108, 100, 115]) (.lst (σ.hs.filter fun z => !decide (z = row n mt))) = [(kUp, .ref 5), (kKi, .ref 6), (kHo, .lst (σ.hs.filter fun z => !decide (z = row n mt))), (kGo, .ref 7)] := by
        simp [putD, hasD, kUp, kKi, kHo, kGo]
      rw [this, ← hs3]
      rfl
end K04
/-! Q15: k04, plain: records let go. -/
namespace Mir
theorem look_put (k d : D) : ∀ (ps : List (D × D)) (k' : D), lookD (putD ps k d) k' = if k' = k then some d else lookD ps k' := by
  have aux : ∀ (ps : List (D × D)) (k' : D), k' ≠ k → lookD (ps.map fun p => if p.1 = k then (p.1, d) else p) k' = lookD ps k' := by
    intro ps k' hk
    induction ps with
    | nil => rfl
    | cons a ps ih =>
      obtain ⟨a1, a2⟩ := a
      simp only [lookD, List.map_cons, List.find?_cons] at ih ⊢
      by_cases e : a1 = k
      · have : ¬ a1 = k' := fun q => hk (q ▸ e)
        simp only [e, if_true, decide_eq_false (show ¬ k = k' from fun q => hk q.symm)]
        exact ih
      · rw [if_neg e]
        by_cases e2 : a1 = k'
        · simp [e2]
        · simp only [decide_eq_false e2]
          exact ih
  have aux2 : ∀ (ps : List (D × D)), hasD ps k = true → lookD (ps.map fun p => if p.1 = k then (p.1, d) else p) k = some d := by
    intro ps
    induction ps with
    | nil => intro h; cases h
    | cons a ps ih =>
      obtain ⟨a1, a2⟩ := a
      intro h
      by_cases e : a1 = k
      · simp [lookD, e]
      · have h2 : hasD ps k = true := by
          simp only [hasD, List.any_cons, decide_eq_false e, Bool.false_or] at h ⊢
          exact h
        have := ih h2
        simp only [lookD, List.map_cons, List.find?_cons, if_neg e, decide_eq_false e] at this ⊢
        exact this
  intro ps k'
  unfold putD
  split
  · rename_i h
    by_cases e : k' = k
    · rw [if_pos e, e]; exact aux2 ps h
    · rw [if_neg e]; exact aux ps k' e
  · rename_i h
    have hn : lookD ps k = none := by
      rw [has_look] at h
      cases q : lookD ps k with
      | none => rfl
      | some x => rw [q] at h; exact absurd rfl h
    have app : ∀ (ps : List (D × D)) (k' : D), lookD (ps ++ [(k, d)]) k' = (lookD ps k').or (if k' = k then some d else none) := by
      intro ps k'
      induction ps with
      | nil => by_cases e : k = k' <;> simp [lookD, e] ; intro q; exact absurd q.symm e
      | cons a ps ih =>
        obtain ⟨a1, a2⟩ := a
        simp only [lookD, List.cons_append, List.find?_cons] at ih ⊢
        by_cases e : a1 = k'
        · simp [e]
        · simp only [decide_eq_false e]
          exact ih
    rw [app]
    by_cases e : k' = k
    · rw [if_pos e, if_pos e, e, hn]; rfl
    · rw [if_neg e, if_neg e]; simp
/-- setdefault; get and put -/
def stA (d : D) (g : List (D × D)) (x : D) : List (D × D) := match lookD g x with
  | some _ => g
  | none => putD g x d
def stB (d : D) (g : List (D × D)) (x : D) : List (D × D) := putD g x ((lookD g x).getD d)
theorem look_stA (d : D) (g : List (D × D)) (x k : D) : lookD (stA d g x) k = if k = x then some ((lookD g k).getD d) else lookD g k := by
  unfold stA
  cases h : lookD g x with
  | some v =>
    by_cases e : k = x
    · subst e; simp [h]
    · simp [e]
  | none =>
    dsimp only
    rw [look_put]
    by_cases e : k = x
    · subst e; simp [h]
    · simp [e]
theorem look_stB (d : D) (g : List (D × D)) (x k : D) : lookD (stB d g x) k = if k = x then some ((lookD g k).getD d) else lookD g k := by
  unfold stB
  rw [look_put]
  by_cases e : k = x
  · subst e; simp
  · simp [e]
theorem look_fold {st : List (D × D) → D → List (D × D)} {d : D} (h : ∀ g x k, lookD (st g x) k = if k = x then some ((lookD g k).getD d) else lookD g k) : ∀ (L : List D) (g : List (D × D)) (k : D), lookD (L.foldl st g) k = if k ∈ L then some ((lookD g k).getD d) else lookD g k
  | [], g, k => by simp
  | x :: L, g, k => by
    rw [List.foldl_cons, look_fold h L (st g x) k, h]
    by_cases e : k = x
    · subst e
      by_cases e2 : k ∈ L <;> simp [e2]
    · by_cases e2 : k ∈ L <;> simp [e, e2]
theorem nodup_fold {st : List (D × D) → D → List (D × D)} (h : ∀ g x, (g.map (·.1)).Nodup → ((st g x).map (·.1)).Nodup) : ∀ (L : List D) (g : List (D × D)), (g.map (·.1)).Nodup → ((L.foldl st g).map (·.1)).Nodup
  | [], g, hg => hg
  | x :: L, g, hg => nodup_fold h L (st g x) (h g x hg)
theorem same_len {a b : List (D × D)} (ha : (a.map (·.1)).Nodup) (hb : (b.map (·.1)).Nodup) (h : ∀ k, lookD a k = lookD b k) : a.length = b.length := by
  have k1 : ∀ {a b : List (D × D)}, (a.map (·.1)).Nodup → (∀ k, lookD a k = lookD b k) → a.length ≤ b.length := by
    intro a b ha h
    have := nd_len (L := b.map (·.1)) ha fun x hx => by
      have := (has_mem a x).mpr hx
      rw [has_look, h, ← has_look] at this
      exact (has_mem b x).mp this
    simpa using this
  exact Nat.le_antisymm (k1 ha h) (k1 hb fun k => (h k).symm)
end Mir
namespace K04
open Mir
theorem okGone {σ : Md} (o : Ok σ) {m : Nat} (h : Mk m) (d : Int) : Ok { σ with gs := (lunderT m).foldl (stB (.int d)) σ.gs, g2 := (underT m).foldl (stA (.int d)) σ.g2 } := by
  have hl : ∀ k, lookD ((underT m).foldl (stA (.int d)) σ.g2) k = lookD ((lunderT m).foldl (stB (.int d)) σ.gs) k := fun k => by
    rw [look_fold (look_stA _), look_fold (look_stB _), o.g2]
    have : k ∈ underT m ↔ k ∈ lunderT m := by
      rcases mk6 h with h | h | h | h | h | h <;> subst h <;> simp [underT, lunderT]
      constructor <;> intro q <;> rcases q with q | q | q | q | q | q <;> simp [q]
    simp only [this]
  have n1 : (((lunderT m).foldl (stB (.int d)) σ.gs).map (·.1)).Nodup := nodup_fold (fun g x hg => putD_nodup hg) _ _ o.gn
  have n2 : (((underT m).foldl (stA (.int d)) σ.g2).map (·.1)).Nodup := nodup_fold (fun g x hg => by
    unfold stA
    split
    · exact hg
    · exact putD_nodup hg) _ _ o.g2n
  refine ⟨o.hs, o.hn, o.hl, o.ks, o.kn, ?_, n1, hl, same_len n2 n1 hl, n2⟩
  have gen : ∀ (L : List D) (g : List (D × D)), (∀ x ∈ L, MkD x) → (∀ p ∈ g, MkD p.1 ∧ ∃ i, p.2 = .int i) → ∀ p ∈ L.foldl (stB (.int d)) g, MkD p.1 ∧ ∃ i, p.2 = .int i := by
    intro L
    induction L with
    | nil => intro g _ hg; exact hg
    | cons x L ih =>
      intro g hL hg
      refine ih (stB (.int d) g x) (fun y hy => hL y (List.mem_cons_of_mem _ hy)) fun p hp => ?_
      rcases putD_mem hp with hp | rfl
      · exact hg p hp
      · refine ⟨hL x List.mem_cons_self, ?_⟩
        cases q : lookD g x with
        | none => exact ⟨d, rfl⟩
        | some v =>
          obtain ⟨_, i, hi⟩ := hg _ (look_mem q)
          exact ⟨i, hi⟩
  exact gen _ _ (lunder_mk h) o.gk
end K04
/-! Q16: k04, plain: a turn that lets go. -/
namespace Mir
theorem tE_inv {a : EM} {r : Env} {s s' : St} {b : Bool} (h : tE a r s = .ok b s') : a r s = .ok (.val (.bl b)) s' := by
  unfold tE at h
  cases q : a r s with
  | exc x y => rw [q] at h; cases h
  | bad => rw [q] at h; cases h
  | ok x y =>
    rw [q] at h
    simp only [Out.bind] at h
    cases x with
    | bor c => cases h
    | val d =>
      cases d <;> simp at h
      obtain ⟨rfl, rfl⟩ := h
      rfl
theorem setDV_ok {d k e : EM} {r : Env} {s : St} {n : Nat} {ps : List (D × D)} {kk : Tx} {w : D} (h1 : d r s = .ok (.val (.ref n)) s) (hn : s[n]? = some (.dct 0 ps)) (h2 : k r s = .ok (.val (.str kk)) s) (h3 : e r s = .ok (.val w) s) (hl : ps.length < lim) :
    ∃ x, eSetDV d k e r s = .ok (.val x) (s.set n (.dct 0 (stA w ps (.str kk)))) := by
  have e0 : eSetDV d k e r s = (match lookD ps (.str kk) with
      | some d => Out.ok (.val d) s
      | none => .ok (.val w) (s.set n (.dct 0 (putD ps (.str kk) w)))) := by
    unfold eSetDV
    rw [h1, bindok, if_pos (by simp [dctOf, hn]), h2, bindok, h3, bindok]
    simp [setDV, hn, hl, flatK]
    try (cases lookD ps (.str kk) <;> rfl)
  rw [e0]
  unfold stA
  cases q : lookD ps (.str kk) with
  | some v =>
    refine ⟨v, ?_⟩
    dsimp only
    have : s.set n (.dct 0 ps) = s := by
      apply List.ext_getElem?
      intro j
      rw [List.getElem?_set]
      split
      · rename_i hj
        subst hj
        split
        · exact hn.symm
        · rename_i hlt
          rw [List.getElem?_eq_none (by omega)] at hn
          cases hn
      · rfl
    rw [this]
  | none => exact ⟨w, rfl⟩
theorem in_txs {s : St} {L : List D} {k : Tx} (h : ∀ x ∈ L, ∃ t, x = .str t) : oNotIn s (.val (.str k)) (.val (.tup L)) = some (.bl (!decide (D.str k ∈ L))) := by
  have h1 : (L.all fun z => scalD z z) = true := List.all_eq_true.mpr fun x hx => by obtain ⟨t, rfl⟩ := h x hx; rfl
  have h2 : (L.any fun z => eqv z (.str k)) = decide (D.str k ∈ L) := by
    clear h1
    induction L with
    | nil => simp
    | cons a L ih =>
      obtain ⟨t, rfl⟩ := h a List.mem_cons_self
      rw [List.any_cons, ih fun x hx => h x (List.mem_cons_of_mem _ hx)]
      by_cases e : t = k
      · subst e; simp [eqv]
      · have e2 : ¬ k = t := fun q => e q.symm
        simp [eqv, e, e2]
  have h3 : inFlat (.str k) L = some (decide (D.str k ∈ L)) := by
    unfold inFlat
    rw [if_pos ⟨rfl, h1⟩, h2]
  show (inFlat (.str k) L).map _ = _
  rw [h3]
  rfl
end Mir
namespace K04
open Mir
theorem g2_len {σ : Md} (o : Ok σ) : σ.g2.length ≤ 6 := by
  rw [o.gl]
  have := nd_len (L := mks) o.gn fun x hx => by
    obtain ⟨p, hp, rfl⟩ := List.mem_map.mp hx
    exact mkd_mem (o.gk p hp).1
  simpa [mks] using this
theorem stA_len (d : D) (g : List (D × D)) (x : D) : (stA d g x).length ≤ g.length + 1 := by
  unfold stA
  split
  · omega
  · unfold putD
    split <;> simp
theorem stB_len (d : D) (g : List (D × D)) (x : D) : (stB d g x).length ≤ g.length + 1 := by
  unfold stB putD
  split <;> simp
theorem prog_loop {di : Cell} {d : Int} {mt : Tx} : ∀ (L : List D) (σ : Md) (x3 : Slot), (∀ x ∈ L, ∃ t, x = .str t) → σ.g2.length + L.length ≤ 100 → ∃ x3', forLoop (.nm 3) (sExpr (eSetDV (eFld 0 5 (eV 0)) (eV 3) (eV 2))) .free L [.val (.ref 25), .val (.str mt), .val (.int d), x3] (S upU di σ) = .nx [.val (.ref 25), .val (.str mt), .val (.int d), x3'] (S upU di { σ with g2 := L.foldl (stA (.int d)) σ.g2 })
  | [], σ, x3, _, _ => ⟨x3, rfl⟩
  | x :: L, σ, x3, h, hl => by
    obtain ⟨t, rfl⟩ := h x List.mem_cons_self
    have hl2 : σ.g2.length + (L.length + 1) ≤ 100 := hl
    obtain ⟨y, hy⟩ := setDV_ok (d := eFld 0 5 (eV 0)) (k := eV 3) (e := eV 2) (r := [.val (.ref 25), .val (.str mt), .val (.int d), .val (.str t)]) (s := S upU di σ) (n := 24) (ps := σ.g2) (kk := t) (w := .int d) (by simp [g25]) g24 (by simp) (by simp) (by unfold lim; omega)
    have := stA_len (.int d) σ.g2 (.str t)
    obtain ⟨x3', ih⟩ := prog_loop L { σ with g2 := stA (.int d) σ.g2 (.str t) } (.val (.str t)) (fun x hx => h x (List.mem_cons_of_mem _ hx)) (by dsimp only; omega)
    refine ⟨x3', ?_⟩
    unfold forLoop
    rw [show bindT (.nm 3) (.str t) [.val (.ref 25), .val (.str mt), .val (.int d), x3] = some [.val (.ref 25), .val (.str mt), .val (.int d), .val (.str t)] from rfl]
    dsimp only
    rw [sExpr_ap, hy, sBind_ok, sexK_ap]
    dsimp only
    rw [if_pos (show Watch.free.ok _ = true from rfl)]
    exact ih
theorem due_txs (σ : Md) (d : Int) : ∀ x ∈ dueL σ d, ∃ t, x = .str t := fun x hx => by
  obtain ⟨m, rfl, _⟩ := (dueL_mk (σ := σ) d).1 x hx
  exact ⟨_, rfl⟩
theorem letgo_ok {di : Cell} {σ : Md} (o : Ok σ) {m : Nat} (hm : Mk m) (d : Int) (h : D.str [m] ∈ dueL σ d) : f_Keeping_let_go [.ref 25, .str [m], .int d] (S upU di σ) = .ok .non (S upU di { σ with g2 := (underT m).foldl (stA (.int d)) σ.g2 }) := by
  have f1 := due_ok (up := upU) (di := di) o d
  have f2 := in_txs (s := S upU di σ) (k := [m]) (due_txs σ d)
  rw [decide_eq_true h] at f2
  have gl := g2_len o
  have ul : (underT m).length ≤ 6 := by rcases mk6 hm with h | h | h | h | h | h <;> subst h <;> simp [underT]
  obtain ⟨x3', hl⟩ := prog_loop (di := di) (d := d) (mt := [m]) (underT m) σ .no (fun x hx => by obtain ⟨c, rfl, _⟩ := under_mk hm x hx; exact ⟨_, rfl⟩) (by omega)
  refine fn_nx (r := [.val (.ref 25), .val (.str [m]), .val (.int d), x3']) rfl ?_
  unfold b_Keeping_let_go
  have e1 : sIf (tE (eOp2 oNotIn (eV 1) (eMeth 0 f_Keeping_due (eV 0) (aCons (eV 2) aNil)))) (sRaise 3) sNext [.val (.ref 25), .val (.str [m]), .val (.int d), .no] (S upU di σ) = .nx [.val (.ref 25), .val (.str [m]), .val (.int d), .no] (S upU di σ) := by simp [g25, f1, f2]
  show sSeq _ _ [.val (.ref 25), .val (.str [m]), .val (.int d), .no] (S upU di σ) = _
  rw [sSeq_ap, e1, seqK_nx, sFor_ap]
  have e2 : iE (eMeth 2 f_Holdings_under (eFld 0 0 (eV 0)) (aCons (eV 1) aNil)) [.val (.ref 25), .val (.str [m]), .val (.int d), .no] (S upU di σ) = .ok (underT m, .free) (S upU di σ) := by simp [g25, g4, under_ok hm]
  rw [e2, sBind_ok, sfK_ap]
  dsimp only
  rw [if_pos (show Watch.free.ok (S upU di σ) = true from rfl)]
  exact hl
theorem letgo_bad {di : Cell} {σ : Md} (o : Ok σ) (mt : Tx) (d : Int) (h : ¬ D.str mt ∈ dueL σ d) : f_Keeping_let_go [.ref 25, .str mt, .int d] (S upU di σ) = .exc 3 (S upU di σ) := by
  have f1 := due_ok (up := upU) (di := di) o d
  have f2 := in_txs (s := S upU di σ) (k := mt) (due_txs σ d)
  rw [decide_eq_false h] at f2
  refine fn_exc (r := [.val (.ref 25), .val (.str mt), .val (.int d), .no]) rfl ?_
  unfold b_Keeping_let_go
  have e1 : sIf (tE (eOp2 oNotIn (eV 1) (eMeth 0 f_Keeping_due (eV 0) (aCons (eV 2) aNil)))) (sRaise 3) sNext [.val (.ref 25), .val (.str mt), .val (.int d), .no] (S upU di σ) = .exc 3 [.val (.ref 25), .val (.str mt), .val (.int d), .no] (S upU di σ) := by simp [g25, f1, f2]
  show sSeq _ _ [.val (.ref 25), .val (.str mt), .val (.int d), .no] (S upU di σ) = _
  rw [sSeq_ap, e1]
  rfl
theorem law_loop {di : Cell} {d : Int} : ∀ (L : List D) (σ : Md) (e : Ev), e.a10 = .val (.int d) → (∀ x ∈ L, ∃ t, x = .str t) → σ.gs.length + L.length ≤ 100 → ∃ e', forLoop (.nm 16) (sPutDC (eOp2 oGet (eV 3) (eC (.str [103, 111, 110, 101]))) (eV 16) (eGet2 (eOp2 oGet (eV 3) (eC (.str [103, 111, 110, 101]))) (eV 16) (eV 10))) .free L (LE e) (S upU di σ) = .nx (LE e') (S upU di { σ with gs := L.foldl (stB (.int d)) σ.gs }) ∧ e'.a10 = .val (.int d)
  | [], σ, e, hd, _, _ => ⟨e, rfl, hd⟩
  | x :: L, σ, e, hd, h, hl => by
    obtain ⟨t, rfl⟩ := h x List.mem_cons_self
    have hl2 : σ.gs.length + (L.length + 1) ≤ 100 := hl
    have := stB_len (.int d) σ.gs (.str t)
    obtain ⟨e', ih, hd'⟩ := law_loop L { σ with gs := stB (.int d) σ.gs (.str t) } { e with a16 := .val (.str t) } hd (fun x hx => h x (List.mem_cons_of_mem _ hx)) (by dsimp only; omega)
    refine ⟨e', ?_, hd'⟩
    unfold forLoop
    rw [show bindT (.nm 16) (.str t) (LE e) = some (LE { e with a16 := .val (.str t) }) from rfl]
    dsimp only
    have r3 : (LE { e with a16 := .val (.str t) })[3]? = some (.val (.ref 8)) := rfl
    have r16 : (LE { e with a16 := .val (.str t) })[16]? = some (.val (.str t)) := rfl
    have r10 : (LE { e with a16 := .val (.str t) })[10]? = some (.val (.int d)) := congrArg some hd
    have k1 := eGet2_dct (d := eOp2 oGet (eV 3) (eC (.str [103, 111, 110, 101]))) (k := eV 16) (e := eV 10) (r := LE { e with a16 := .val (.str t) }) (s := S upU di σ) (n := 7) (ps := σ.gs) (kk := t) (w := .int d) (by simp [r3, gGo]) g7 (by simp [r16]) (by simp [r10])
    rw [putDC_ok (n := 7) (ps := σ.gs) (kk := t) (s1 := S upU di σ) (s2 := S upU di σ) (s3 := S upU di σ) k1 (by simp [r3, gGo]) (by simp [r16]) g7 (by unfold lim; omega)]
    dsimp only
    rw [if_pos (show Watch.free.ok _ = true from rfl)]
    exact ih
theorem blet_ok {di : Cell} {σ : Md} (o : Ok σ) (hdi : Dice di) (e : Ev) {mt : Tx} (hm : e.a4 = .val (.str mt)) (hmt : mt ∈ mkT) {d : Int} (hd : e.a10 = .val (.int d)) : ∃ di' σ' e', b_let (LE e) (S upU di σ) = .nx (LE e') (S upU di' σ') ∧ Dice di' ∧ Ok σ' ∧ e'.a10 = e.a10 := by
  have y4 : (LE e)[4]? = some (.val (.str mt)) := congrArg some hm
  have y3 : (LE e)[3]? = some (.val (.ref 8)) := rfl
  unfold b_let
  rw [sSeq_ap, sSet_ap]
  have good : eAnd (eOp2 oIn (eV 4) (eOp2 oGet (eV 3) (eC (.str [117, 112])))) (eAnd (eOp2 oNotIn (eV 4) (eOp2 oGet (eV 3) (eC (.str [103, 111, 110, 101])))) (eOp2 oEqA (eFrz (nLc (iE (eCall f_law_under (aCons (eOp2 oGet (eV 3) (eC (.str [117, 112]))) (aCons (eV 4) aNil)))) (.nm 16) (Mir.tNot (tTru (eCall f_law_over (aCons (eV 3) (aCons (eV 16) (aCons (eV 10) aNil)))))) (eC (.int 1)) [16])) (eFrz (nLst aNil)))) (LE e) (S upU di σ) = .ok (.val (.bl (decide (D.str mt ∈ dueL σ d)))) (S upU di σ) := by
    have a1 : eOp2 oIn (eV 4) (eOp2 oGet (eV 3) (eC (.str [117, 112]))) (LE e) (S upU di σ) = .ok (.val (.bl (hasD upD (.str mt)))) (S upU di σ) := by simp [y4, y3, gUp, up_in]
    rw [eAnd_ap, a1, bindok]
    rcases mt_ok hmt with rfl | ⟨m, rfl, hmk⟩
    · have : hasD upD (.str [122]) = false := by decide
      rw [this, andK_f]
      have : ¬ D.str [122] ∈ dueL σ d := fun q => by
        have := (List.mem_filter.mp q).1
        simp [allT] at this
      simp [this]
    · have hu : hasD upD (.str [m]) = true := by rcases mk6 hmk with h | h | h | h | h | h <;> subst h <;> decide
      have n1 := nin_dct (g7 (up := upU) (di := di) (σ := σ)) [m]
      have t1 := tE_inv (notover_ok (di := di) o hmk hd 16 4 (.inl ⟨rfl, rfl⟩) y4)
      have a2 : eOp2 oNotIn (eV 4) (eOp2 oGet (eV 3) (eC (.str [103, 111, 110, 101]))) (LE e) (S upU di σ) = .ok (.val (.bl (!hasD σ.gs (.str [m])))) (S upU di σ) := by simp [y4, y3, gGo, n1]
      rw [hu, andK_t, eAnd_ap, a2, bindok, andK_val _ _ _ _ _ fun _ => t1]
      have : decide (D.str [m] ∈ dueL σ d) = (!hasD σ.gs (.str [m]) && (underT m).all (overD σ d)) := by
        have ma : D.str [m] ∈ allT := by rcases mk6 hmk with h | h | h | h | h | h <;> subst h <;> simp [allT]
        have e1 : (!hasD σ.gs (.str [m]) && (underT m).all (overD σ d)) = dueC σ d (.str [m]) := rfl
        rw [e1]
        unfold dueL
        cases q : dueC σ d (.str [m]) <;> simp [List.mem_filter, ma, q]
      rw [this]
  rw [good, sBind_ok, setK_val, if_pos (by simp [LE])]
  rw [show (LE e).set 13 (.val (.bl (decide (D.str mt ∈ dueL σ d)))) = LE { e with a13 := .val (.bl (decide (D.str mt ∈ dueL σ d))) } from rfl, seqK_nx, sSeq_ap]
  generalize hE : ({ e with a13 := .val (.bl (decide (D.str mt ∈ dueL σ d))) } : Ev) = e1
  have w4 : (LE e1)[4]? = some (.val (.str mt)) := by rw [← hE]; exact y4
  have w10' : e1.a10 = .val (.int d) := by rw [← hE]; exact hd
  have w10 : (LE e1)[10]? = some (.val (.int d)) := congrArg some w10'
  have w13 : (LE e1)[13]? = some (.val (.bl (decide (D.str mt ∈ dueL σ d)))) := by rw [← hE]; rfl
  have w3 : (LE e1)[3]? = some (.val (.ref 8)) := rfl
  have w7 : (LE e1)[7]? = some (.val (.ref 25)) := rfl
  have ns : ∀ s, oEqA s (.val .non) (.val (.str [65, 114, 99, 104, 105, 118, 101, 69, 114, 114, 111, 114])) = some (.bl false) := fun s => by simp [oEqA, eqA, eqD, look, scalD]
  by_cases hg : D.str mt ∈ dueL σ d
  · rw [decide_eq_true hg] at w13
    obtain ⟨m, hmm, hmk⟩ := (dueL_mk (σ := σ) d).1 _ hg
    cases hmm
    have tt : eMeth 0 f_Keeping_let_go (eV 7) (aCons (eV 4) (aCons (eV 10) aNil)) (LE e1) (S upU di σ) = .ok (.val .non) (S upU di { σ with g2 := (underT m).foldl (stA (.int d)) σ.g2 }) := by simp [w7, w4, w10, g25, letgo_ok o hmk d hg]
    have tl := told_ok' (es := [1, 2, 3]) (ret := [65, 114, 99, 104, 105, 118, 101, 69, 114, 114, 111, 114]) tt
    have i1 : sIf (tE (eOp2 oEqA (eOp2 oEqA (eTold [1, 2, 3] [65, 114, 99, 104, 105, 118, 101, 69, 114, 114, 111, 114] (eMeth 0 f_Keeping_let_go (eV 7) (aCons (eV 4) (aCons (eV 10) aNil)))) (eC (.str [65, 114, 99, 104, 105, 118, 101, 69, 114, 114, 111, 114]))) (eV 13))) (sRet (eC (.bl false))) sNext (LE e1) (S upU di σ) = .nx (LE e1) (S upU di { σ with g2 := (underT m).foldl (stA (.int d)) σ.g2 }) := by
      rw [sIf_ap, tE_ap, eOp2_ap, eOp2_ap, tl, bindok, op2A_ap]
      simp [ns, w13]
    rw [i1, seqK_nx, sFor_ap]
    have it : iE (eIf (tE (eV 13)) (eCall f_law_under (aCons (eOp2 oGet (eV 3) (eC (.str [117, 112]))) (aCons (eV 4) aNil))) (eFrz (nLst aNil))) (LE e1) (S upU di { σ with g2 := (underT m).foldl (stA (.int d)) σ.g2 }) = .ok (lunderT m, .free) (S upU di { σ with g2 := (underT m).foldl (stA (.int d)) σ.g2 }) := by
      simp [w13, w3, w4, gUp, lunder_ok hmk]
    rw [it, sBind_ok, sfK_ap]
    dsimp only
    rw [if_pos (show Watch.free.ok _ = true from rfl)]
    have gl := g2_len o
    have ul : (lunderT m).length ≤ 6 := by rcases mk6 hmk with h | h | h | h | h | h <;> subst h <;> simp [lunderT]
    obtain ⟨e', hl, hd'⟩ := law_loop (di := di) (d := d) (lunderT m) { σ with g2 := (underT m).foldl (stA (.int d)) σ.g2 } e1 w10' (fun x hx => by obtain ⟨c, rfl, _⟩ := lunder_mk hmk x hx; exact ⟨_, rfl⟩) (by have := o.gl; dsimp only; omega)
    exact ⟨di, _, e', hl, hdi, okGone o hmk d, by rw [hd', hd]⟩
  · rw [decide_eq_false hg] at w13
    have tt : eMeth 0 f_Keeping_let_go (eV 7) (aCons (eV 4) (aCons (eV 10) aNil)) (LE e1) (S upU di σ) = .exc 3 (S upU di σ) := by simp [w7, w4, w10, g25, letgo_bad o mt d hg]
    have tl := told_exc' (es := [1, 2, 3]) (ret := [65, 114, 99, 104, 105, 118, 101, 69, 114, 114, 111, 114]) tt rfl
    have i1 : sIf (tE (eOp2 oEqA (eOp2 oEqA (eTold [1, 2, 3] [65, 114, 99, 104, 105, 118, 101, 69, 114, 114, 111, 114] (eMeth 0 f_Keeping_let_go (eV 7) (aCons (eV 4) (aCons (eV 10) aNil)))) (eC (.str [65, 114, 99, 104, 105, 118, 101, 69, 114, 114, 111, 114]))) (eV 13))) (sRet (eC (.bl false))) sNext (LE e1) (S upU di σ) = .nx (LE e1) (S upU di σ) := by
      rw [sIf_ap, tE_ap, eOp2_ap, eOp2_ap, tl, bindok, op2A_ap]
      simp [w13]
    rw [i1, seqK_nx, sFor_ap]
    have it : iE (eIf (tE (eV 13)) (eCall f_law_under (aCons (eOp2 oGet (eV 3) (eC (.str [117, 112]))) (aCons (eV 4) aNil))) (eFrz (nLst aNil))) (LE e1) (S upU di σ) = .ok ([], .free) (S upU di σ) := by
      simp [w13, lim]
    rw [it, sBind_ok, sfK_ap]
    dsimp only
    rw [if_pos (show Watch.free.ok _ = true from rfl)]
    exact ⟨di, σ, e1, rfl, hdi, o, by rw [w10', hd]⟩
end K04
/-! Q17: k04, plain: the law is true. -/
namespace K04
open Mir
theorem step_ok {di : Cell} {σ : Md} (o : Ok σ) (hdi : Dice di) (e : Ev) : ∃ di' σ' e', b_step (LE e) (S upU di σ) = .nx (LE e') (S upU di' σ') ∧ Dice di' ∧ Ok σ' := by
  obtain ⟨v1, d1, r1, v1a, v1b, hd1⟩ := roll' (up := upU) (σ := σ) hdi 7 (by omega)
  obtain ⟨v2, d2, r2, v2a, v2b, hd2⟩ := roll' (up := upU) (σ := σ) hd1 6 (by omega)
  obtain ⟨v3, d3, r3, v3a, v3b, hd3⟩ := roll' (up := upU) (σ := σ) hd2 20000 (by omega)
  obtain ⟨mt, hat, hmt⟩ : ∃ mt, oGet (S upU d1 σ) (.val (.str [97, 98, 99, 100, 101, 102, 122])) (.val (.int v1)) = some (.str mt) ∧ mt ∈ mkT := by
    rcases (by omega : v1 = 0 ∨ v1 = 1 ∨ v1 = 2 ∨ v1 = 3 ∨ v1 = 4 ∨ v1 = 5 ∨ v1 = 6) with h | h | h | h | h | h | h <;> subst h
    · exact ⟨[97], rfl, by simp [mkT]⟩
    · exact ⟨[98], rfl, by simp [mkT]⟩
    · exact ⟨[99], rfl, by simp [mkT]⟩
    · exact ⟨[100], rfl, by simp [mkT]⟩
    · exact ⟨[101], rfl, by simp [mkT]⟩
    · exact ⟨[102], rfl, by simp [mkT]⟩
    · exact ⟨[122], rfl, by simp [mkT]⟩
  unfold b_step
  rw [sSeq_ap]
  have u1 : sUnp (.tp [(.nm 4), (.nm 9), (.nm 10)]) (eTup (aCons (eOp2 oGet (eC (.str [97, 98, 99, 100, 101, 102, 122])) (eCall f_law_roll (aCons (eV 1) (aCons (eC (.int 7)) aNil)))) (aCons (eCall f_law_roll (aCons (eV 1) (aCons (eC (.int 6)) aNil))) (aCons (eOp2 oAdd (eC (.int 600000)) (eCall f_law_roll (aCons (eV 1) (aCons (eC (.int 20000)) aNil)))) aNil)))) (LE e) (S upU di σ) = .nx (LE { e with a4 := .val (.str mt), a9 := .val (.int v2), a10 := .val (.int (600000 + v3)) }) (S upU d3 σ) := by
    have h1 : (LE e)[1]? = some (.val (.ref 0)) := rfl
    have l3 : (3 : Nat) ≤ lim := by decide
    have lle : (LE e).length = 24 := rfl
    simp [-getElem?_pos, h1, r1, r2, r3, hat, l3, lle]
    rfl
  rw [u1, seqK_nx, sSeq_ap]
  generalize hE : ({ e with a4 := .val (.str mt), a9 := .val (.int v2), a10 := .val (.int (600000 + v3)) } : Ev) = e1
  have h4 : e1.a4 = .val (.str mt) := by rw [← hE]
  have h9 : e1.a9 = .val (.int v2) := by rw [← hE]
  have h10 : e1.a10 = .val (.int (600000 + v3)) := by rw [← hE]
  have z9 : (LE e1)[9]? = some (.val (.int v2)) := congrArg some h9
  obtain ⟨d4, σ4, e4, w1, w2, w3, w4⟩ : ∃ di' σ' e', sIf (tE (eOp2 oLt (eV 9) (eC (.int 2)))) b_put (sIf (tE (eOp2 oLt (eV 9) (eC (.int 4)))) b_hold b_let) (LE e1) (S upU d3 σ) = .nx (LE e') (S upU di' σ') ∧ Dice di' ∧ Ok σ' ∧ e'.a10 = e1.a10 := by
    by_cases c1 : v2 < 2
    · obtain ⟨a, b, c, k1, k2⟩ := bput_ok o hd3 e1 h4 hmt
      exact ⟨a, b, c, by simp [z9, c1, k1], k2⟩
    · by_cases c2 : v2 < 4
      · obtain ⟨a, b, c, k1, k2⟩ := bhold_ok o hd3 e1 h4 hmt h9
        exact ⟨a, b, c, by simp [z9, c1, c2, k1], k2⟩
      · obtain ⟨a, b, c, k1, k2⟩ := blet_ok o hd3 e1 h4 hmt h10
        exact ⟨a, b, c, by simp [z9, c1, c2, k1], k2⟩
  rw [w1, seqK_nx]
  obtain ⟨e5, t⟩ := tail_ok (di := d4) w3 e4 (w4.trans h10)
  exact ⟨d4, σ4, e5, t, w2, w3⟩
theorem steps_ok : ∀ (ds : List D) (di : Cell) (σ : Md) (e : Ev), Ok σ → Dice di → ∃ di' σ' e', forLoop (.nm 8) b_step .free ds (LE e) (S upU di σ) = .nx (LE e') (S upU di' σ') ∧ Dice di' ∧ Ok σ'
  | [], di, σ, e, o, hd => ⟨di, σ, e, rfl, hd, o⟩
  | d :: ds, di, σ, e, o, hd => by
    obtain ⟨d1, σ1, e1, h1, h2, h3⟩ := step_ok o hd { e with a8 := .val d }
    obtain ⟨d2, σ2, e2, k1, k2, k3⟩ := steps_ok ds d1 σ1 e1 h3 h2
    refine ⟨d2, σ2, e2, ?_, k2, k3⟩
    unfold forLoop
    rw [show bindT (.nm 8) d (LE e) = some (LE { e with a8 := .val d }) from rfl]
    dsimp only
    rw [h1]
    dsimp only
    rw [if_pos (show Watch.free.ok _ = true from rfl)]
    exact k1
def σ0 : Md := ⟨[], [], [], []⟩
theorem ok0 : Ok σ0 := ⟨fun _ h => (by cases h), List.Pairwise.nil, by decide, fun _ h => (by cases h), List.Pairwise.nil, fun _ h => (by cases h), List.Pairwise.nil, fun _ => rfl, rfl, List.Pairwise.nil⟩
/-- the making of the tree -/
theorem pre_ok (sc : D) (a b c : Int) : b_round [.val sc, .val (.ref 0), .no, .no, .no, .no, .no, .no, .no, .no, .no, .no, .no, .no, .no, .no, .no, .no, .no, .no, .no, .no, .no, .no] [.lst [.int a, .int b, .int c]] =
    sFor (Mir.iRng1 (eCall f_law_roll (aCons (eV 1) (aCons (eC (.int 31)) aNil)))) (.nm 8) b_step (LE ⟨.val sc, .val (.str [102]), .val (.str item), .val (.str [100]), .no, .no, .no, .no, .no, .no, .no, .no, .no, .no, .no, .no, .no, .no, .no, .no⟩) (S upU (.lst [.int a, .int b, .int c]) σ0) := by kernel_rfl
theorem round_ok (sc : D) {di : Cell} (h : Dice di) : ∃ di' σ' e', b_round [.val sc, .val (.ref 0), .no, .no, .no, .no, .no, .no, .no, .no, .no, .no, .no, .no, .no, .no, .no, .no, .no, .no, .no, .no, .no, .no] [di] = .nx (LE e') (S upU di' σ') := by
  obtain ⟨a, b, c, rfl⟩ := h
  rw [pre_ok]
  obtain ⟨v1, d1, r1, v1a, v1b, hd1⟩ := roll' (up := upU) (σ := σ0) (di := .lst [.int a, .int b, .int c]) ⟨a, b, c, rfl⟩ 31 (by omega)
  rw [sFor_ap]
  generalize hE : (⟨.val sc, .val (.str [102]), .val (.str item), .val (.str [100]), .no, .no, .no, .no, .no, .no, .no, .no, .no, .no, .no, .no, .no, .no, .no, .no⟩ : Ev) = e
  have z1 : (LE e)[1]? = some (.val (.ref 0)) := rfl
  have it : Mir.iRng1 (eCall f_law_roll (aCons (eV 1) (aCons (eC (.int 31)) aNil))) (LE e) (S upU (.lst [.int a, .int b, .int c]) σ0) = .ok (rangeD 0 v1, .free) (S upU d1 σ0) := by
    simp [z1, r1]
    exact rng1K_int _ (by omega)
  rw [it, sBind_ok, sfK_ap]
  dsimp only
  rw [if_pos (show Watch.free.ok _ = true from rfl)]
  obtain ⟨d2, σ2, e2, h1, _, _⟩ := steps_ok (rangeD 0 v1) d1 σ0 e ok0 hd1
  exact ⟨d2, σ2, e2, h1⟩
/-- what stands behind the rounds -/
def stOf : SOut → St
  | .rt _ s => s
  | _ => []
theorem end_ok (e : Ev) (di : Cell) (σ : Md) : b_end (LE e) (S upU di σ) = .rt (.bl true) (stOf (b_end (LE e) (S upU di σ))) := by
  obtain ⟨a0, a4, a5, a6, a8, a9, a10, a11, a12, a13, a14, a15, a16, a17, a18, a19, a20, a21, a22, a23⟩ := e
  obtain ⟨ks, hs, gs, g2⟩ := σ
  kernel_rfl
theorem law_true (ns : List Int) : ∃ st, f_law [.scr (ns.map D.int)] [] = .ok (.bl true) st := by
  obtain ⟨st, h1, h2, h3⟩ := rounds_ok ns
  obtain ⟨a, b, c, hd⟩ := h2
  obtain ⟨di, rfl⟩ : ∃ di, st = [di] := by
    cases st with
    | nil => cases h3
    | cons x l =>
      cases l with
      | nil => exact ⟨x, rfl⟩
      | cons y l => cases h3
  obtain ⟨d2, σ2, e2, hr⟩ := round_ok (.scr (ns.map D.int)) (di := di) ⟨a, b, c, by simpa using hd⟩
  refine ⟨stOf (b_end (LE e2) (S upU d2 σ2)), fn_rt rfl ?_⟩
  · rw [b_law_same]
    unfold b_law_cut
    rw [sSeq_ap, sFor_ap]
    have it : iE (eCall f_law_rounds (aCons (eV 0) (aCons (eC (.int 1)) aNil))) (List.map Slot.val [D.scr (ns.map D.int)] ++ List.replicate (24 - 1) Slot.no) [] = .ok ([.ref 0], .free) [di] := by
      simp [h1]
    rw [it, sBind_ok, sfK_ap]
    dsimp only
    rw [if_pos (show Watch.free.ok _ = true from rfl)]
    have fl : forLoop (.nm 1) b_round .free [.ref 0] (List.map Slot.val [D.scr (ns.map D.int)] ++ List.replicate (24 - 1) Slot.no) [di] = .nx (LE e2) (S upU d2 σ2) := by
      unfold forLoop
      rw [show bindT (.nm 1) (.ref 0) (List.map Slot.val [D.scr (ns.map D.int)] ++ List.replicate (24 - 1) Slot.no) = some [.val (.scr (ns.map D.int)), .val (.ref 0), .no, .no, .no, .no, .no, .no, .no, .no, .no, .no, .no, .no, .no, .no, .no, .no, .no, .no, .no, .no, .no, .no] from rfl]
      dsimp only
      rw [hr]
      dsimp only
      rw [if_pos (show Watch.free.ok _ = true from rfl)]
      rfl
    rw [fl, seqK_nx]
    exact end_ok e2 d2 σ2
end K04
/-! k04: the head's facts, the end (printed). -/
namespace K04
open PySem PySem.Spec PyProof.Rows L2 Mir
abbrev fa : List He.Fa := [.free "abs", .free "all", .free "any", .free "dict", .free "int", .free "len", .free "list", .free "min", .free "range", .free "str", .free "sum", .free "tuple", .glo "Holdings", .glo "Keeping", .glo "Record", .glo "_law_dice", .glo "_law_line", .glo "_law_over", .glo "_law_roll", .glo "_law_rounds", .glo "_law_under", .glo "check_mark", .glo "date_of", .glo "day_of", .glo "is_long", .glo "month_days", .glo "year_start", .glo "years_later", .int "LAST_YEAR" 3000, .int "MOST_RECORDS" 2000, .noat "Keeping" "gone", .noat "Keeping" "holds", .noat "Keeping" "days", .noat "Keeping" "kinds", .noat "Keeping" "table", .noat "Keeping" "holdings", .cls "Keeping", .mkr "Keeping", .noat "Record" "children", .noat "Record" "title", .noat "Record" "parent", .noat "Record" "level", .noat "Record" "mark", .cls "Record", .mkr "Record", .noat "Holdings" "history", .noat "Holdings" "roots", .noat "Holdings" "records", .cls "Holdings", .mkr "Holdings", .meth "Holdings" "add", .meth "Holdings" "all_marks", .meth "Holdings" "check_day", .meth "Holdings" "check_place", .meth "Holdings" "line", .meth "Holdings" "note", .meth "Holdings" "record", .meth "Holdings" "siblings", .meth "Holdings" "under", .meth "Keeping" "due", .meth "Keeping" "ends", .meth "Keeping" "free", .meth "Keeping" "hold", .meth "Keeping" "is_held", .meth "Keeping" "is_over", .meth "Keeping" "let_go", .meth "Keeping" "put", .glo "ArchiveError", .exc "ArchiveError", .glo "DateError", .exc "DateError", .glo "TreeError", .exc "TreeError", .glo "AccessError", .exc "AccessError", .glo "_law_told", .exm "DateError" "ArchiveError" true, .exm "TreeError" "ArchiveError" true, .exm "AccessError" "ArchiveError" true, .glo "law"]
abbrev dd_is_long : He.DefD := ⟨("is_long", none), "is_long", "is_long", defArgs s_is_long, defBody s_is_long, defScope s_is_long, [], []⟩
abbrev dd_month_days : He.DefD := ⟨("month_days", none), "month_days", "month_days", defArgs s_month_days, defBody s_month_days, defScope s_month_days, [], []⟩
abbrev dd_year_start : He.DefD := ⟨("year_start", none), "year_start", "year_start", defArgs s_year_start, defBody s_year_start, defScope s_year_start, [], []⟩
abbrev dd_day_of : He.DefD := ⟨("day_of", none), "day_of", "day_of", defArgs s_day_of, defBody s_day_of, defScope s_day_of, [], []⟩
abbrev dd_date_of : He.DefD := ⟨("date_of", none), "date_of", "date_of", defArgs s_date_of, defBody s_date_of, defScope s_date_of, [], []⟩
abbrev dd_years_later : He.DefD := ⟨("years_later", none), "years_later", "years_later", defArgs s_years_later, defBody s_years_later, defScope s_years_later, [], []⟩
abbrev dd_Keeping___init__ : He.DefD := ⟨("Keeping", some "__init__"), "__init__", "Keeping.__init__", defArgs s_Keeping___init__, defBody s_Keeping___init__, defScope s_Keeping___init__, [], []⟩
abbrev dd_Holdings_record : He.DefD := ⟨("Holdings", some "record"), "record", "Holdings.record", defArgs s_Holdings_record, defBody s_Holdings_record, defScope s_Holdings_record, [], []⟩
abbrev dd_Keeping_put : He.DefD := ⟨("Keeping", some "put"), "put", "Keeping.put", defArgs s_Keeping_put, defBody s_Keeping_put, defScope s_Keeping_put, [], []⟩
abbrev dd_Keeping_hold : He.DefD := ⟨("Keeping", some "hold"), "hold", "Keeping.hold", defArgs s_Keeping_hold, defBody s_Keeping_hold, defScope s_Keeping_hold, [], []⟩
abbrev dd_Keeping_free : He.DefD := ⟨("Keeping", some "free"), "free", "Keeping.free", defArgs s_Keeping_free, defBody s_Keeping_free, defScope s_Keeping_free, [], []⟩
abbrev dd_Holdings_line : He.DefD := ⟨("Holdings", some "line"), "line", "Holdings.line", defArgs s_Holdings_line, defBody s_Holdings_line, defScope s_Holdings_line, [], []⟩
abbrev dd_Keeping_is_held : He.DefD := ⟨("Keeping", some "is_held"), "is_held", "Keeping.is_held", defArgs s_Keeping_is_held, defBody s_Keeping_is_held, defScope s_Keeping_is_held, [], []⟩
abbrev dd_Keeping_ends : He.DefD := ⟨("Keeping", some "ends"), "ends", "Keeping.ends", defArgs s_Keeping_ends, defBody s_Keeping_ends, defScope s_Keeping_ends, [], []⟩
abbrev dd_Holdings_under : He.DefD := ⟨("Holdings", some "under"), "under", "Holdings.under", defArgs s_Holdings_under, defBody s_Holdings_under, defScope s_Holdings_under, [], []⟩
abbrev dd_Holdings_all_marks : He.DefD := ⟨("Holdings", some "all_marks"), "all_marks", "Holdings.all_marks", defArgs s_Holdings_all_marks, defBody s_Holdings_all_marks, defScope s_Holdings_all_marks, [], []⟩
abbrev dd_Keeping_is_over : He.DefD := ⟨("Keeping", some "is_over"), "is_over", "Keeping.is_over", defArgs s_Keeping_is_over, defBody s_Keeping_is_over, defScope s_Keeping_is_over, [], []⟩
abbrev dd_Keeping_due : He.DefD := ⟨("Keeping", some "due"), "due", "Keeping.due", defArgs s_Keeping_due, defBody s_Keeping_due, defScope s_Keeping_due, [], []⟩
abbrev dd_Keeping_let_go : He.DefD := ⟨("Keeping", some "let_go"), "let_go", "Keeping.let_go", defArgs s_Keeping_let_go, defBody s_Keeping_let_go, defScope s_Keeping_let_go, [], []⟩
abbrev dd_check_mark : He.DefD := ⟨("check_mark", none), "check_mark", "check_mark", defArgs s_check_mark, defBody s_check_mark, defScope s_check_mark, [], []⟩
abbrev dd_Record___init__ : He.DefD := ⟨("Record", some "__init__"), "__init__", "Record.__init__", defArgs s_Record___init__, defBody s_Record___init__, defScope s_Record___init__, [], []⟩
abbrev dd_Holdings___init__ : He.DefD := ⟨("Holdings", some "__init__"), "__init__", "Holdings.__init__", defArgs s_Holdings___init__, defBody s_Holdings___init__, defScope s_Holdings___init__, [], []⟩
abbrev dd_Holdings_check_day : He.DefD := ⟨("Holdings", some "check_day"), "check_day", "Holdings.check_day", defArgs s_Holdings_check_day, defBody s_Holdings_check_day, defScope s_Holdings_check_day, [], []⟩
abbrev dd_Holdings_note : He.DefD := ⟨("Holdings", some "note"), "note", "Holdings.note", defArgs s_Holdings_note, defBody s_Holdings_note, defScope s_Holdings_note, [], []⟩
abbrev dd_Holdings_check_place : He.DefD := ⟨("Holdings", some "check_place"), "check_place", "Holdings.check_place", defArgs s_Holdings_check_place, defBody s_Holdings_check_place, defScope s_Holdings_check_place, [], []⟩
abbrev dd_Holdings_siblings : He.DefD := ⟨("Holdings", some "siblings"), "siblings", "Holdings.siblings", defArgs s_Holdings_siblings, defBody s_Holdings_siblings, defScope s_Holdings_siblings, [], []⟩
abbrev dd_Holdings_add : He.DefD := ⟨("Holdings", some "add"), "add", "Holdings.add", defArgs s_Holdings_add, defBody s_Holdings_add, defScope s_Holdings_add, [], []⟩
abbrev dd_law_dice : He.DefD := ⟨("_law_dice", none), "_law_dice", "_law_dice", defArgs s_law_dice, defBody s_law_dice, defScope s_law_dice, [], []⟩
abbrev dd_law_roll : He.DefD := ⟨("_law_roll", none), "_law_roll", "_law_roll", defArgs s_law_roll, defBody s_law_roll, defScope s_law_roll, [], []⟩
abbrev dd_law_rounds : He.DefD := ⟨("_law_rounds", none), "_law_rounds", "_law_rounds", defArgs s_law_rounds, defBody s_law_rounds, defScope s_law_rounds, [], []⟩
abbrev dd_law_line : He.DefD := ⟨("_law_line", none), "_law_line", "_law_line", defArgs s_law_line, defBody s_law_line, defScope s_law_line, [], []⟩
abbrev dd_law_under : He.DefD := ⟨("_law_under", none), "_law_under", "_law_under", defArgs s_law_under, defBody s_law_under, defScope s_law_under, [], []⟩
abbrev dd_law_over : He.DefD := ⟨("_law_over", none), "_law_over", "_law_over", defArgs s_law_over, defBody s_law_over, defScope s_law_over, [], []⟩
abbrev dd_law : He.DefD := ⟨("law", none), "law", "law", defArgs s_law, defBody s_law, defScope s_law, [], []⟩
abbrev dd_law_told : He.DefD := ⟨("_law_told", none), "_law_told", "_law_told", defArgs s_law_told, defBody s_law_told, defScope s_law_told, [], []⟩
abbrev fns : List He.DefD := [dd_is_long, dd_month_days, dd_year_start, dd_day_of, dd_date_of, dd_years_later, dd_Keeping___init__, dd_Holdings_record, dd_Keeping_put, dd_Keeping_hold, dd_Keeping_free, dd_Holdings_line, dd_Keeping_is_held, dd_Keeping_ends, dd_Holdings_under, dd_Holdings_all_marks, dd_Keeping_is_over, dd_Keeping_due, dd_Keeping_let_go, dd_check_mark, dd_Record___init__, dd_Holdings___init__, dd_Holdings_check_day, dd_Holdings_note, dd_Holdings_check_place, dd_Holdings_siblings, dd_Holdings_add, dd_law_dice, dd_law_roll, dd_law_rounds, dd_law_line, dd_law_under, dd_law_over, dd_law, dd_law_told]
abbrev cp : List (Str × Option Str) := [("law", none), ("day_of", none), ("Keeping", some "is_held"), ("Keeping", some "due"), ("check_mark", none)]
abbrev cons : List (Str × D) := [("LEVELS", c_LEVELS), ("MONTHS", c_MONTHS), ("SIGNS_OF_MARKS", c_SIGNS_OF_MARKS)]
abbrev exF : PySem.W.Frag → Bool := fun K => decide ((cp.map (Hd.tbAt K)).Nodup) && (cons.all fun p => conX K p.1 p.2)
theorem tb_at {K : PySem.W.Frag} {H : Hp} (h : ∀ p ∈ cp.map (fun p => (Hd.cdAt K p, Hd.tbAt K p)), H p.2 = some (.tbl #[])) : ∀ p ∈ (gg K).tb, H p.1 = some (.tbl #[]) := fun p hp => by
  have e : (gg K).tb.map (·.1) = cp.map (fun p => Hd.tbAt K p) := rfl
  have m := List.mem_map_of_mem (f := (·.1)) hp
  rw [e] at m
  obtain ⟨q, hq, e2⟩ := List.mem_map.mp m
  rw [← e2]
  exact h (Hd.cdAt K q, Hd.tbAt K q) (List.mem_map.mpr ⟨q, hq, rfl⟩)
theorem tx_of {K : PySem.W.Frag} {h : Heap} {mg : Str → Option Value} (c : Hd.Says fa fns cp exF K h) (G : h.Ns mainGlobals mg) : TxF K mg where
  n_abs := He.free_ok c.hK G (c.says.fact 0 rfl)
  n_all := He.free_ok c.hK G (c.says.fact 1 rfl)
  n_any := He.free_ok c.hK G (c.says.fact 2 rfl)
  n_dict := He.free_ok c.hK G (c.says.fact 3 rfl)
  n_int := He.free_ok c.hK G (c.says.fact 4 rfl)
  n_len := He.free_ok c.hK G (c.says.fact 5 rfl)
  n_list := He.free_ok c.hK G (c.says.fact 6 rfl)
  n_min := He.free_ok c.hK G (c.says.fact 7 rfl)
  n_range := He.free_ok c.hK G (c.says.fact 8 rfl)
  n_str := He.free_ok c.hK G (c.says.fact 9 rfl)
  n_sum := He.free_ok c.hK G (c.says.fact 10 rfl)
  n_tuple := He.free_ok c.hK G (c.says.fact 11 rfl)
  g_Holdings := He.glo_ok c.hK G (c.says.fact 12 rfl)
  g_Keeping := He.glo_ok c.hK G (c.says.fact 13 rfl)
  g_Record := He.glo_ok c.hK G (c.says.fact 14 rfl)
  g__law_dice := He.glo_ok c.hK G (c.says.fact 15 rfl)
  g__law_line := He.glo_ok c.hK G (c.says.fact 16 rfl)
  g__law_over := He.glo_ok c.hK G (c.says.fact 17 rfl)
  g__law_roll := He.glo_ok c.hK G (c.says.fact 18 rfl)
  g__law_rounds := He.glo_ok c.hK G (c.says.fact 19 rfl)
  g__law_under := He.glo_ok c.hK G (c.says.fact 20 rfl)
  g_check_mark := He.glo_ok c.hK G (c.says.fact 21 rfl)
  g_date_of := He.glo_ok c.hK G (c.says.fact 22 rfl)
  g_day_of := He.glo_ok c.hK G (c.says.fact 23 rfl)
  g_is_long := He.glo_ok c.hK G (c.says.fact 24 rfl)
  g_month_days := He.glo_ok c.hK G (c.says.fact 25 rfl)
  g_year_start := He.glo_ok c.hK G (c.says.fact 26 rfl)
  g_years_later := He.glo_ok c.hK G (c.says.fact 27 rfl)
  i_LAST_YEAR := He.int_ok c.hK G (c.says.fact 28 rfl)
  i_MOST_RECORDS := He.int_ok c.hK G (c.says.fact 29 rfl)
  q_Keeping := ⟨He.cls_ok (c.says.fact 36 rfl), rfl, by decide +kernel, by decide, List.forall_mem_cons.mpr ⟨He.noat_ok (c.says.fact 35 rfl), List.forall_mem_cons.mpr ⟨He.noat_ok (c.says.fact 34 rfl), List.forall_mem_cons.mpr ⟨He.noat_ok (c.says.fact 33 rfl), List.forall_mem_cons.mpr ⟨He.noat_ok (c.says.fact 32 rfl), List.forall_mem_cons.mpr ⟨He.noat_ok (c.says.fact 31 rfl), List.forall_mem_cons.mpr ⟨He.noat_ok (c.says.fact 30 rfl), List.forall_mem_nil _⟩⟩⟩⟩⟩⟩⟩
  mk_Keeping := He.mkr_ok (c.says.fact 37 rfl)
  q_Record := ⟨He.cls_ok (c.says.fact 43 rfl), rfl, by decide +kernel, by decide, List.forall_mem_cons.mpr ⟨He.noat_ok (c.says.fact 42 rfl), List.forall_mem_cons.mpr ⟨He.noat_ok (c.says.fact 41 rfl), List.forall_mem_cons.mpr ⟨He.noat_ok (c.says.fact 40 rfl), List.forall_mem_cons.mpr ⟨He.noat_ok (c.says.fact 39 rfl), List.forall_mem_cons.mpr ⟨He.noat_ok (c.says.fact 38 rfl), List.forall_mem_nil _⟩⟩⟩⟩⟩⟩
  mk_Record := He.mkr_ok (c.says.fact 44 rfl)
  q_Holdings := ⟨He.cls_ok (c.says.fact 48 rfl), rfl, by decide +kernel, by decide, List.forall_mem_cons.mpr ⟨He.noat_ok (c.says.fact 47 rfl), List.forall_mem_cons.mpr ⟨He.noat_ok (c.says.fact 46 rfl), List.forall_mem_cons.mpr ⟨He.noat_ok (c.says.fact 45 rfl), List.forall_mem_nil _⟩⟩⟩⟩
  mk_Holdings := He.mkr_ok (c.says.fact 49 rfl)
  m_Holdings_add := He.meth_ok (c.says.fact 50 rfl)
  m_Holdings_all_marks := He.meth_ok (c.says.fact 51 rfl)
  m_Holdings_check_day := He.meth_ok (c.says.fact 52 rfl)
  m_Holdings_check_place := He.meth_ok (c.says.fact 53 rfl)
  m_Holdings_line := He.meth_ok (c.says.fact 54 rfl)
  m_Holdings_note := He.meth_ok (c.says.fact 55 rfl)
  m_Holdings_record := He.meth_ok (c.says.fact 56 rfl)
  m_Holdings_siblings := He.meth_ok (c.says.fact 57 rfl)
  m_Holdings_under := He.meth_ok (c.says.fact 58 rfl)
  m_Keeping_due := He.meth_ok (c.says.fact 59 rfl)
  m_Keeping_ends := He.meth_ok (c.says.fact 60 rfl)
  m_Keeping_free := He.meth_ok (c.says.fact 61 rfl)
  m_Keeping_hold := He.meth_ok (c.says.fact 62 rfl)
  m_Keeping_is_held := He.meth_ok (c.says.fact 63 rfl)
  m_Keeping_is_over := He.meth_ok (c.says.fact 64 rfl)
  m_Keeping_let_go := He.meth_ok (c.says.fact 65 rfl)
  m_Keeping_put := He.meth_ok (c.says.fact 66 rfl)
  e_ArchiveError := ⟨rfl, He.glo_ok c.hK G (c.says.fact 67 rfl), He.exc_ok (c.says.fact 68 rfl)⟩
  e_DateError := ⟨rfl, He.glo_ok c.hK G (c.says.fact 69 rfl), He.exc_ok (c.says.fact 70 rfl)⟩
  e_TreeError := ⟨rfl, He.glo_ok c.hK G (c.says.fact 71 rfl), He.exc_ok (c.says.fact 72 rfl)⟩
  e_AccessError := ⟨rfl, He.glo_ok c.hK G (c.says.fact 73 rfl), He.exc_ok (c.says.fact 74 rfl)⟩
  k_LEVELS := conX_ok c.hK G (List.all_eq_true.mp (He.ba c.ex_).2 _ (List.mem_of_getElem? (i := 0) rfl))
  k_MONTHS := conX_ok c.hK G (List.all_eq_true.mp (He.ba c.ex_).2 _ (List.mem_of_getElem? (i := 1) rfl))
  k_SIGNS_OF_MARKS := conX_ok c.hK G (List.all_eq_true.mp (He.ba c.ex_).2 _ (List.mem_of_getElem? (i := 2) rfl))
  tbn := of_decide_eq_true (He.ba c.ex_).1
  g__law_told := He.glo_ok c.hK G (c.says.fact 75 rfl)
  x_told := caughtN (List.forall_mem_cons.mpr ⟨⟨_, rfl, He.exm_ok (c.says.fact 76 rfl)⟩, List.forall_mem_cons.mpr ⟨⟨_, rfl, He.exm_ok (c.says.fact 77 rfl)⟩, List.forall_mem_cons.mpr ⟨⟨_, rfl, He.exm_ok (c.says.fact 78 rfl)⟩, List.forall_mem_nil _⟩⟩⟩)
  g_ArchiveError := He.glo_ok c.hK G (c.says.fact 67 rfl)
theorem law_fn {P : Program} {w : PySem.World} {K : PySem.W.Frag} {h : Heap} {mg : Str → Option Value} (c : Hd.Says fa fns cp exF K h) (G : h.Ns mainGlobals mg) :
    ∃ fd : FuncData, (∀ (s : Shared) (v : Value), BindsTo s fd ⟨[v], []⟩ [("script", v)]) ∧ ∀ base : Heap, (∀ p ∈ cp.map (fun p => (Hd.cdAt K p, Hd.tbAt K p)), LamX.TabB base mg p.1 p.2) → FnOk P w K mg base (L2.CX P w) 16 (He.fAd K ("law", none)) fd ["script"] (spOf (gg K) 1 f_law) := by
  have T := tx_of c G
  obtain ⟨f0, F_is_long⟩ := c.says.def_ 0 (d := dd_is_long) rfl
  obtain ⟨f1, F_month_days⟩ := c.says.def_ 1 (d := dd_month_days) rfl
  obtain ⟨f2, F_year_start⟩ := c.says.def_ 2 (d := dd_year_start) rfl
  obtain ⟨f3, F_day_of⟩ := c.says.def_ 3 (d := dd_day_of) rfl
  obtain ⟨f4, F_date_of⟩ := c.says.def_ 4 (d := dd_date_of) rfl
  obtain ⟨f5, F_years_later⟩ := c.says.def_ 5 (d := dd_years_later) rfl
  obtain ⟨f6, F_Keeping___init__⟩ := c.says.def_ 6 (d := dd_Keeping___init__) rfl
  obtain ⟨f7, F_Holdings_record⟩ := c.says.def_ 7 (d := dd_Holdings_record) rfl
  obtain ⟨f8, F_Keeping_put⟩ := c.says.def_ 8 (d := dd_Keeping_put) rfl
  obtain ⟨f9, F_Keeping_hold⟩ := c.says.def_ 9 (d := dd_Keeping_hold) rfl
  obtain ⟨f10, F_Keeping_free⟩ := c.says.def_ 10 (d := dd_Keeping_free) rfl
  obtain ⟨f11, F_Holdings_line⟩ := c.says.def_ 11 (d := dd_Holdings_line) rfl
  obtain ⟨f12, F_Keeping_is_held⟩ := c.says.def_ 12 (d := dd_Keeping_is_held) rfl
  obtain ⟨f13, F_Keeping_ends⟩ := c.says.def_ 13 (d := dd_Keeping_ends) rfl
  obtain ⟨f14, F_Holdings_under⟩ := c.says.def_ 14 (d := dd_Holdings_under) rfl
  obtain ⟨f15, F_Holdings_all_marks⟩ := c.says.def_ 15 (d := dd_Holdings_all_marks) rfl
  obtain ⟨f16, F_Keeping_is_over⟩ := c.says.def_ 16 (d := dd_Keeping_is_over) rfl
  obtain ⟨f17, F_Keeping_due⟩ := c.says.def_ 17 (d := dd_Keeping_due) rfl
  obtain ⟨f18, F_Keeping_let_go⟩ := c.says.def_ 18 (d := dd_Keeping_let_go) rfl
  obtain ⟨f19, F_check_mark⟩ := c.says.def_ 19 (d := dd_check_mark) rfl
  obtain ⟨f20, F_Record___init__⟩ := c.says.def_ 20 (d := dd_Record___init__) rfl
  obtain ⟨f21, F_Holdings___init__⟩ := c.says.def_ 21 (d := dd_Holdings___init__) rfl
  obtain ⟨f22, F_Holdings_check_day⟩ := c.says.def_ 22 (d := dd_Holdings_check_day) rfl
  obtain ⟨f23, F_Holdings_note⟩ := c.says.def_ 23 (d := dd_Holdings_note) rfl
  obtain ⟨f24, F_Holdings_check_place⟩ := c.says.def_ 24 (d := dd_Holdings_check_place) rfl
  obtain ⟨f25, F_Holdings_siblings⟩ := c.says.def_ 25 (d := dd_Holdings_siblings) rfl
  obtain ⟨f26, F_Holdings_add⟩ := c.says.def_ 26 (d := dd_Holdings_add) rfl
  obtain ⟨f27, F_law_dice⟩ := c.says.def_ 27 (d := dd_law_dice) rfl
  obtain ⟨f28, F_law_roll⟩ := c.says.def_ 28 (d := dd_law_roll) rfl
  obtain ⟨f29, F_law_rounds⟩ := c.says.def_ 29 (d := dd_law_rounds) rfl
  obtain ⟨f30, F_law_line⟩ := c.says.def_ 30 (d := dd_law_line) rfl
  obtain ⟨f31, F_law_under⟩ := c.says.def_ 31 (d := dd_law_under) rfl
  obtain ⟨f32, F_law_over⟩ := c.says.def_ 32 (d := dd_law_over) rfl
  obtain ⟨f33, F_law⟩ := c.says.def_ 33 (d := dd_law) rfl
  obtain ⟨f34, F_law_told⟩ := c.says.def_ 34 (d := dd_law_told) rfl
  have b := FunD.bindsA (ps := ["script"]) F_law fun _ _ _ _ _ _ us hl => match us, hl with | [_], _ => rfl
  refine ⟨_, fun s v => b s [v] rfl, fun base TBS => ?_⟩
  have TB_law : LamX.TabB base mg (Hd.cdAt K ("law", none)) (Hd.tbAt K ("law", none)) := TBS (Hd.cdAt K ("law", none), Hd.tbAt K ("law", none)) (List.mem_map.mpr ⟨("law", none), List.mem_of_getElem? (i := 0) rfl, rfl⟩)
  have hc_law := Hd.cdIs_ok (c.one (p := ("law", none)) (List.mem_of_getElem? (i := 0) rfl)).1 F_law
  have TB_day_of : LamX.TabB base mg (Hd.cdAt K ("day_of", none)) (Hd.tbAt K ("day_of", none)) := TBS (Hd.cdAt K ("day_of", none), Hd.tbAt K ("day_of", none)) (List.mem_map.mpr ⟨("day_of", none), List.mem_of_getElem? (i := 1) rfl, rfl⟩)
  have hc_day_of := Hd.cdIs_ok (c.one (p := ("day_of", none)) (List.mem_of_getElem? (i := 1) rfl)).1 F_day_of
  have TB_Keeping_is_held : LamX.TabB base mg (Hd.cdAt K ("Keeping", some "is_held")) (Hd.tbAt K ("Keeping", some "is_held")) := TBS (Hd.cdAt K ("Keeping", some "is_held"), Hd.tbAt K ("Keeping", some "is_held")) (List.mem_map.mpr ⟨("Keeping", some "is_held"), List.mem_of_getElem? (i := 2) rfl, rfl⟩)
  have hc_Keeping_is_held := Hd.cdIs_ok (c.one (p := ("Keeping", some "is_held")) (List.mem_of_getElem? (i := 2) rfl)).1 F_Keeping_is_held
  have TB_Keeping_due : LamX.TabB base mg (Hd.cdAt K ("Keeping", some "due")) (Hd.tbAt K ("Keeping", some "due")) := TBS (Hd.cdAt K ("Keeping", some "due"), Hd.tbAt K ("Keeping", some "due")) (List.mem_map.mpr ⟨("Keeping", some "due"), List.mem_of_getElem? (i := 3) rfl, rfl⟩)
  have hc_Keeping_due := Hd.cdIs_ok (c.one (p := ("Keeping", some "due")) (List.mem_of_getElem? (i := 3) rfl)).1 F_Keeping_due
  have TB_check_mark : LamX.TabB base mg (Hd.cdAt K ("check_mark", none)) (Hd.tbAt K ("check_mark", none)) := TBS (Hd.cdAt K ("check_mark", none), Hd.tbAt K ("check_mark", none)) (List.mem_map.mpr ⟨("check_mark", none), List.mem_of_getElem? (i := 4) rfl, rfl⟩)
  have hc_check_mark := Hd.cdIs_ok (c.one (p := ("check_mark", none)) (List.mem_of_getElem? (i := 4) rfl)).1 F_check_mark
  have DT : ToldOk K := ⟨_, F_law_told⟩
  have d_is_long := w_is_long (P := P) (w := w) (base := base) T F_is_long  
  have d_month_days := w_month_days (P := P) (w := w) (base := base) T F_month_days d_is_long 
  have d_year_start := w_year_start (P := P) (w := w) (base := base) T F_year_start  
  have d_day_of := w_day_of (P := P) (w := w) (base := base) T F_day_of d_month_days d_year_start TB_day_of hc_day_of
  have d_date_of := w_date_of (P := P) (w := w) (base := base) T F_date_of d_month_days d_year_start 
  have d_years_later := w_years_later (P := P) (w := w) (base := base) T F_years_later d_month_days d_day_of d_date_of 
  have d_Keeping___init__ := w_Keeping___init__ (P := P) (w := w) (base := base) T F_Keeping___init__  
  have d_Holdings_record := w_Holdings_record (P := P) (w := w) (base := base) T F_Holdings_record  
  have d_Keeping_put := w_Keeping_put (P := P) (w := w) (base := base) T F_Keeping_put d_Holdings_record 
  have d_Keeping_hold := w_Keeping_hold (P := P) (w := w) (base := base) T F_Keeping_hold d_Holdings_record 
  have d_Keeping_free := w_Keeping_free (P := P) (w := w) (base := base) T F_Keeping_free  
  have d_Holdings_line := w_Holdings_line (P := P) (w := w) (base := base) T F_Holdings_line d_Holdings_record 
  have d_Keeping_is_held := w_Keeping_is_held (P := P) (w := w) (base := base) T F_Keeping_is_held d_Holdings_line TB_Keeping_is_held hc_Keeping_is_held
  have d_Keeping_ends := w_Keeping_ends (P := P) (w := w) (base := base) T F_Keeping_ends d_years_later 
  have d_Holdings_under := w_Holdings_under (P := P) (w := w) (base := base) T F_Holdings_under d_Holdings_record 
  have d_Holdings_all_marks := w_Holdings_all_marks (P := P) (w := w) (base := base) T F_Holdings_all_marks d_Holdings_under 
  have d_Keeping_is_over := w_Keeping_is_over (P := P) (w := w) (base := base) T F_Keeping_is_over d_Keeping_is_held d_Keeping_ends 
  have d_Keeping_due := w_Keeping_due (P := P) (w := w) (base := base) T F_Keeping_due d_Holdings_under d_Holdings_all_marks d_Keeping_is_over TB_Keeping_due hc_Keeping_due
  have d_Keeping_let_go := w_Keeping_let_go (P := P) (w := w) (base := base) T F_Keeping_let_go d_Holdings_under d_Keeping_due 
  have d_check_mark := w_check_mark (P := P) (w := w) (base := base) T F_check_mark  TB_check_mark hc_check_mark
  have d_Record___init__ := w_Record___init__ (P := P) (w := w) (base := base) T F_Record___init__  
  have d_Holdings___init__ := w_Holdings___init__ (P := P) (w := w) (base := base) T F_Holdings___init__  
  have d_Holdings_check_day := w_Holdings_check_day (P := P) (w := w) (base := base) T F_Holdings_check_day  
  have d_Holdings_note := w_Holdings_note (P := P) (w := w) (base := base) T F_Holdings_note d_Holdings_check_day 
  have d_Holdings_check_place := w_Holdings_check_place (P := P) (w := w) (base := base) T F_Holdings_check_place d_Holdings_record 
  have d_Holdings_siblings := w_Holdings_siblings (P := P) (w := w) (base := base) T F_Holdings_siblings d_Holdings_record 
  have d_Holdings_add := w_Holdings_add (P := P) (w := w) (base := base) T F_Holdings_add d_check_mark d_Record___init__ d_Holdings_check_day d_Holdings_note d_Holdings_check_place d_Holdings_siblings 
  have d_law_dice := w_law_dice (P := P) (w := w) (base := base) T F_law_dice  
  have d_law_roll := w_law_roll (P := P) (w := w) (base := base) T F_law_roll  
  have d_law_rounds := w_law_rounds (P := P) (w := w) (base := base) T F_law_rounds d_law_dice 
  have d_law_line := w_law_line (P := P) (w := w) (base := base) T F_law_line  
  have d_law_under := w_law_under (P := P) (w := w) (base := base) T F_law_under d_law_line 
  have d_law_over := w_law_over (P := P) (w := w) (base := base) T F_law_over d_years_later d_law_line 
  exact w_law T F_law d_years_later d_Keeping___init__ d_Keeping_put d_Keeping_hold d_Keeping_free d_Keeping_is_held d_Keeping_ends d_Holdings_all_marks d_Keeping_is_over d_Keeping_due d_Keeping_let_go d_Holdings___init__ d_Holdings_add d_law_roll d_law_rounds d_law_line d_law_under d_law_over DT TB_law hc_law
abbrev zR : PySem.W.OpenRow := PySem.W.OpenLaw.row PySem.Challenge.rw_archivestack_k04_how_long_records_are_ke
abbrev zhk : PySem.W.Hook := Hd.hookT 5 fa fns cp exF
def zob (s : PySem.W.SharedT) : Hd.AlT := Hd.obsT 5 fa fns cp exF (HandSHeadRun.getT s)
theorem zob_eq (s : PySem.W.SharedT) : zob s = zhk.obs s.abs := Hd.obsT_eq (HandSHeadRun.getT_eq s)
abbrev znames : List PySem.Str := ["_wall", "ArchiveError", "DateError", "TreeError", "AccessError", "MONTHS", "LAST_YEAR", "is_long", "month_days", "year_start", "day_of", "date_of", "years_later", "Keeping", "LEVELS", "MOST_RECORDS", "SIGNS_OF_MARKS", "check_mark", "Record", "Holdings", "_law_dice", "_law_roll", "_law_rounds", "_law_told", "_law_under", "_law_line", "_law_over"]
theorem zrun (w : PySem.World) : HandSHeadRun.RunEq zR (PySem.W.view zR.prog [32]) zhk zob 4000 znames w := by
  intro os
  kernel_rfl
end K04
open PySem PySem.W PySem.Calls PyProof.Rows
theorem PySem.Challenge.cw_archivestack_k04_how_long_records_are_ke_holds : PySem.Challenge.rw_archivestack_k04_how_long_records_are_ke.Holds := by
  w_on; o_law
  refine HandSHeadRun.head_any (r := OpenLaw.row PySem.Challenge.rw_archivestack_k04_how_long_records_are_ke) (q := view (OpenLaw.row PySem.Challenge.rw_archivestack_k04_how_long_records_are_ke).prog [32]) (H := K04.zhk) (ob := K04.zob) (M := 4000) (loose := K04.znames) (d := HandSHeadRun.topDef (OpenLaw.row PySem.Challenge.rw_archivestack_k04_how_long_records_are_ke).prog 32) (kwd := []) K04.zob_eq
    (by kernel_rfl) (fun s => by kernel_rfl) K04.zrun (by kernel_rfl) (by kernel_rfl) (by kernel_rfl) (by rfl) (by first | assumption | decide +kernel) (by decide +kernel) ⟨rfl, rfl, rfl, rfl, rfl, by decide +kernel⟩ ?hw ?hc
  case hw => w_witness2
  case hc =>
    refine LamX.walk_ofTsE (l := PySem.Challenge.rw_archivestack_k04_how_long_records_are_ke) (n := 63) (k := 16) (x := "script") (CX := fun w => L2.CX (PySem.Challenge.rw_archivestack_k04_how_long_records_are_ke).prog w) rfl (by decide) (by kernel_rfl) ⟨rfl, by decide, by decide⟩ ?F (fun w H s e s' z => Hd.noLeave H s e s' z)
    intro w mg fa h Y G hmg0
    obtain ⟨K, c⟩ := Y
    have hmg : mg ("law" : PySem.Str) = some (.ref fa) := by
      have e : (HandSHeadRun.topDef (OpenLaw.row PySem.Challenge.rw_archivestack_k04_how_long_records_are_ke).prog 32).name = ("law" : PySem.Str) := by kernel_rfl
      rw [← e]
      exact hmg0
    have e := hmg.symm.trans (He.glo_ok c.hK G (c.says.fact 79 rfl))
    cases e
    obtain ⟨fd, hb, hF⟩ := K04.law_fn (P := (PySem.Challenge.rw_archivestack_k04_how_long_records_are_ke).prog) (w := w) c G
    refine ⟨K, c.hK, fd, K04.cp.map (fun p => (Hd.cdAt K p, Hd.tbAt K p)), Mir.spOf (K04.gg K) 1 K04.f_law, fun p hp => ?_, fun p hp => ?_, fun p hp => ?_, hb, fun H a ns hl _ hT hS => Hd.lawSp (g := K04.gg K) (fun p hp => ?_) hS (K04.law_true ns), fun base _ _ hTB => hF base hTB⟩
    · obtain ⟨z, hz, rfl⟩ := List.mem_map.mp hp
      exact c.tab z hz
    · obtain ⟨z, hz, rfl⟩ := List.mem_map.mp hp
      exact (c.one hz).2.2
    · obtain ⟨z, hz, rfl⟩ := List.mem_map.mp hp
      exact (c.one hz).2.1
    · exact K04.tb_at (K := K) hT p hp
