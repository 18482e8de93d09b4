import PyProof.Rows.All
import Wide.All
import OpenK.AllK
import Wide.FinOn
import HandS.ForMost
import HandS.ForExc
import HandS.Lambda
import HandS.TupAny
import HandS.Style
import HandS.Zip
import HandS.SetKeys
import HandS.ListItems
import HandS.Deep
import HandS.Flow
import HandS.Defaults
import KE.GoesMore
import HandS.More
import HandS.StrMore
import HandS.EndTab
import HandS.HeadHook1
import HandS.HeadHook2
import HandS.HeadWalk
import KE.KNestM
import HandS.Head0
import HandS.Head1
import HandS.Head2
import HandS.HeadEnd
import PySem.Challenge.RW_archivestack_k09_the_air_of_rooms
set_option Elab.async false
set_option linter.all false
set_option autoImplicit false
set_option maxRecDepth 100000
set_option maxHeartbeats 0
/-! E1: data, store, the mirror's combinators. Plain Lean. -/
namespace Mir
abbrev Tx := List Nat
inductive D where
  | non | bl (b : Bool) | int (i : Int) | str (x : Tx) | ref (n : Nat)
  | tup (xs : List D) | lst (xs : List D) | dct (t : Nat) (ps : List (D × D)) | obj (c : Nat) (fs : List D) | lam (k : Nat) | scr (xs : List D) | ktp (xs : List D)
  deriving Inhabited

mutual
def D.beq : D → D → Bool
  | .non, .non => true
  | .bl a, .bl b => a == b
  | .int a, .int b => a == b
  | .str a, .str b => a == b
  | .ref a, .ref b => a == b
  | .tup a, .tup b => D.beqL a b
  | .lst a, .lst b => D.beqL a b
  | .dct t a, .dct u b => t == u && D.beqP a b
  | .obj c a, .obj d b => c == d && D.beqL a b
  | .lam a, .lam b => a == b
  | .scr a, .scr b => D.beqL a b
  | .ktp a, .ktp b => D.beqL a b
  | _, _ => false
def D.beqL : List D → List D → Bool
  | [], [] => true
  | a :: as, b :: bs => D.beq a b && D.beqL as bs
  | _, _ => false
def D.beqP : List (D × D) → List (D × D) → Bool
  | [], [] => true
  | (a, x) :: as, (b, y) :: bs => D.beq a b && D.beq x y && D.beqP as bs
  | _, _ => false
end
mutual
theorem D.beq_iff : ∀ a b : D, D.beq a b = true ↔ a = b
  | .non, b => by cases b <;> simp [D.beq]
  | .bl _, b => by cases b <;> simp [D.beq]
  | .int _, b => by cases b <;> simp [D.beq]
  | .str _, b => by cases b <;> simp [D.beq]
  | .ref _, b => by cases b <;> simp [D.beq]
  | .lam _, b => by cases b <;> simp [D.beq]
  | .tup as, b => by cases b <;> simp [D.beq, D.beqL_iff as]
  | .lst as, b => by cases b <;> simp [D.beq, D.beqL_iff as]
  | .dct _ as, b => by cases b <;> simp [D.beq, D.beqP_iff as]
  | .obj _ as, b => by cases b <;> simp [D.beq, D.beqL_iff as]
  | .scr as, b => by cases b <;> simp [D.beq, D.beqL_iff as]
  | .ktp as, b => by cases b <;> simp [D.beq, D.beqL_iff as]
theorem D.beqL_iff : ∀ a b : List D, D.beqL a b = true ↔ a = b
  | [], b => by cases b <;> simp [D.beqL]
  | a :: as, b => by cases b <;> simp [D.beqL, D.beq_iff a, D.beqL_iff as]
theorem D.beqP_iff : ∀ a b : List (D × D), D.beqP a b = true ↔ a = b
  | [], b => by cases b <;> simp [D.beqP]
  | (a, x) :: as, b => by
    cases b with
    | nil => simp [D.beqP]
    | cons p q => obtain ⟨c, y⟩ := p; simp [D.beqP, D.beq_iff a, D.beq_iff x, D.beqP_iff as, and_assoc]
end
instance : DecidableEq D := fun a b => decidable_of_iff _ (D.beq_iff a b)

inductive Cell where
  | lst (xs : List D) | dct (t : Nat) (ps : List (D × D)) | ins (c : Nat) (fs : List D) | lck (t : Nat) (ps : List (D × D))
  deriving DecidableEq
abbrev St := List Cell
inductive Slot where
  | no | val (d : D) | own (c : Cell)
  deriving DecidableEq
abbrev Env := List Slot
inductive Opd where
  | val (d : D) | bor (c : Cell)
inductive Out (α : Type) where
  | ok (a : α) (s : St) | exc (e : Nat) (s : St) | bad
def Out.bind {α β : Type} (o : Out α) (k : α → St → Out β) : Out β := match o with
  | .ok a s => k a s
  | .exc e s => .exc e s
  | .bad => .bad
theorem Out.bind_ok {α β : Type} (a : α) (s : St) (k : α → St → Out β) : (Out.ok a s).bind k = k a s := rfl
def orBad {α : Type} (s : St) : Option α → Out α
  | some a => .ok a s
  | none => .bad

abbrev EM := Env → St → Out Opd
abbrev TM := Env → St → Out Bool
abbrev NM := Env → St → Out Cell
abbrev FM := List D → St → Out D
abbrev AM := Env → St → Out (List Opd)
inductive SOut where
  | nx (r : Env) (s : St) | rt (d : D) (s : St) | bk (r : Env) (s : St) | ct (r : Env) (s : St) | exc (e : Nat) (r : Env) (s : St) | bad
abbrev SM := Env → St → SOut

/-- what lists and the like may hold at most -/
def lim : Nat := 1000000

/-! ### views -/
def listOf (s : St) : Opd → Option (List D)
  | .val (.lst xs) => some xs
  | .val (.ref n) => match s[n]? with
    | some (.lst xs) => some xs
    | _ => none
  | .bor (.lst xs) => some xs
  | _ => none
def seqOf (s : St) : Opd → Option (List D)
  | .val (.tup xs) => some xs
  | .val (.ktp xs) => some xs
  | o => listOf s o
def dctOf (s : St) : Opd → Option (Nat × List (D × D))
  | .val (.dct t ps) => some (t, ps)
  | .val (.ref n) => match s[n]? with
    | some (.dct t ps) => some (t, ps)
    | some (.lck t ps) => some (t, ps)
    | _ => none
  | .bor (.dct t ps) => some (t, ps)
  | _ => none
def valOf : Opd → Option D
  | .val d => some d
  | .bor _ => none
/-! ### expressions -/
def eC (d : D) : EM := fun _ s => .ok (.val d) s
def eV (i : Nat) : EM := fun r s => match r[i]? with
  | some (.val d) => .ok (.val d) s
  | some (.own c) => .ok (.bor c) s
  | _ => .bad
abbrev Op1 := St → Opd → Option D
abbrev Op2 := St → Opd → Opd → Option D
abbrev OpN := St → List Opd → Option D
def eOp1 (f : Op1) (a : EM) : EM := fun r s => (a r s).bind fun x s1 => orBad s1 ((f s1 x).map Opd.val)
def eOp2 (f : Op2) (a b : EM) : EM := fun r s => (a r s).bind fun x s1 => (b r s1).bind fun y s2 => orBad s2 ((f s2 x y).map Opd.val)
/-- a OP b OP' c -/
def eChain (f g : Op2) (a b c : EM) : EM := fun r s => (a r s).bind fun x s1 => (b r s1).bind fun y s2 => match f s2 x y with
  | some (.bl true) => (c r s2).bind fun z s3 => orBad s3 ((g s3 y z).map Opd.val)
  | some (.bl false) => .ok (.val (.bl false)) s2
  | _ => .bad
def aNil : AM := fun _ s => .ok [] s
def aCons (a : EM) (as : AM) : AM := fun r s => (a r s).bind fun x s1 => (as r s1).bind fun xs s2 => .ok (x :: xs) s2
def eOpN (f : OpN) (as : AM) : EM := fun r s => (as r s).bind fun xs s1 => orBad s1 ((f s1 xs).map Opd.val)
/-- and, or, not as values: all but the last are bools -/
def eAnd (a b : EM) : EM := fun r s => (a r s).bind fun x s1 => match x with
  | .val (.bl true) => b r s1
  | .val (.bl false) => .ok (.val (.bl false)) s1
  | _ => .bad
def eOr (a b : EM) : EM := fun r s => (a r s).bind fun x s1 => match x with
  | .val (.bl true) => .ok (.val (.bl true)) s1
  | .val (.bl false) => b r s1
  | _ => .bad
def eNot (a : EM) : EM := fun r s => (a r s).bind fun x s1 => match x with
  | .val (.bl b) => .ok (.val (.bl (!b))) s1
  | _ => .bad
def eIf (t : TM) (a b : EM) : EM := fun r s => (t r s).bind fun c s1 => if c = true then a r s1 else b r s1
def valsOf : List Opd → Option (List D)
  | [] => some []
  | .val d :: r => (valsOf r).map (d :: ·)
  | .bor _ :: _ => none
def eTup (as : AM) : EM := fun r s => (as r s).bind fun xs s1 => match valsOf xs with
  | some ds => if ds.length ≤ lim then .ok (.val (.tup ds)) s1 else .bad
  | none => .bad
/-- a def called with values -/
def eCall (f : FM) (as : AM) : EM := fun r s => (as r s).bind fun xs s1 => match valsOf xs with
  | some ds => (f ds s1).bind fun d s2 => .ok (.val d) s2
  | none => .bad
/-- the class of an instance, its attributes -/
def insOf (s : St) : Opd → Option (Nat × List D)
  | .val (.obj c fs) => some (c, fs)
  | .val (.ref n) => match s[n]? with
    | some (.ins c fs) => some (c, fs)
    | _ => none
  | .bor (.ins c fs) => some (c, fs)
  | _ => none
/-- o.m(..): a method of the class c -/
def eMeth (c : Nat) (f : FM) (o : EM) (as : AM) : EM := fun r s => (o r s).bind fun x s1 => match x, insOf s1 x with
  | .val d, some (c', _) => if c' = c then (as r s1).bind fun xs s2 => match valsOf xs with
      | some ds => (f (d :: ds) s2).bind fun e s3 => .ok (.val e) s3
      | none => .bad
    else .bad
  | _, _ => .bad
/-- the j-th attribute of an instance of the class c -/
def eFld (c j : Nat) (o : EM) : EM := fun r s => (o r s).bind fun x s1 => match insOf s1 x with
  | some (c', fs) => if c' = c then orBad s1 ((fs[j]?).map Opd.val) else .bad
  | none => .bad

/-! ### new lists and dicts -/
def nLst (as : AM) : NM := fun r s => (as r s).bind fun xs s1 => match valsOf xs with
  | some ds => if ds.length ≤ lim then .ok (.lst ds) s1 else .bad
  | none => .bad
def nDct0 (t : Nat) : NM := fun _ s => .ok (.dct t []) s
/-- by an operation on values -/
def nOp1 (f : St → Opd → Option Cell) (a : EM) : NM := fun r s => (a r s).bind fun x s1 => orBad s1 (f s1 x)
def nOp2 (f : St → Opd → Opd → Option Cell) (a b : EM) : NM := fun r s => (a r s).bind fun x s1 => (b r s1).bind fun y s2 => orBad s2 (f s2 x y)
def Cell.frz : Cell → Option D
  | .lst xs => some (.lst xs)
  | .dct t ps => some (.dct t ps)
  | .ins c fs => some (.obj c fs)
  | .lck _ _ => none
/-- the new thing as data that never changes again -/
def eFrz (n : NM) : EM := fun r s => (n r s).bind fun c s1 => orBad s1 (c.frz.map Opd.val)
/-- the new thing as a cell of the store -/
def eNew (n : NM) : EM := fun r s => (n r s).bind fun c s1 => .ok (.val (.ref s1.length)) (s1 ++ [c])

/-! ### tests -/
def truth (_ : St) : Opd → Option Bool
  | .val .non => some false
  | .val (.bl b) => some b
  | .val (.int i) => some (i != 0)
  | .val (.str x) => if x.length ≤ lim then some (!x.isEmpty) else none
  | .val (.tup xs) => some (!xs.isEmpty)
  | .val (.lst xs) => some (!xs.isEmpty)
  | .bor (.lst xs) => some (!xs.isEmpty)
  | _ => none
def tE (a : EM) : TM := fun r s => (a r s).bind fun x s1 => match x with
  | .val (.bl b) => .ok b s1
  | _ => .bad
def tTru (a : EM) : TM := fun r s => (a r s).bind fun x s1 => orBad s1 (truth s1 x)
def tAnd (a b : TM) : TM := fun r s => (a r s).bind fun x s1 => if x = true then b r s1 else .ok false s1
def tOr (a b : TM) : TM := fun r s => (a r s).bind fun x s1 => if x = true then .ok true s1 else b r s1
def tNot (a : TM) : TM := fun r s => (a r s).bind fun x s1 => .ok (!x) s1

/-! ### targets -/
inductive Tg where
  | nm (i : Nat) | tp (ts : List Tg)
mutual
def bindT : Tg → D → Env → Option Env
  | .nm i, d, r => if i < r.length then some (r.set i (.val d)) else none
  | .tp ts, d, r => match d with
    | .tup ds => bindTs ts ds r
    | .ktp ds => bindTs ts ds r
    | _ => none
def bindTs : List Tg → List D → Env → Option Env
  | [], [], r => some r
  | t :: ts, d :: ds, r => match bindT t d r with
    | some r' => bindTs ts ds r'
    | none => none
  | _, _, _ => none
end

/-! ### what is walked -/
inductive Watch where
  | free | cel (n : Nat) (c : Cell)
def Watch.ok : Watch → St → Bool
  | .free, _ => true
  | .cel n c, s => decide (s[n]? = some c)
mutual
def Tg.slots : Tg → List Nat
  | .nm i => [i]
  | .tp ts => Tg.slotsL ts
def Tg.slotsL : List Tg → List Nat
  | [] => []
  | t :: ts => t.slots ++ Tg.slotsL ts
end
abbrev IM := Env → St → Out (List D × Watch)
def itemsOf (s : St) : Opd → Option (List D × Watch)
  | .val (.lst xs) => some (xs, .free)
  | .val (.tup xs) => some (xs, .free)
  | .val (.ktp xs) => some (xs, .free)
  | .val (.str x) => some (x.map fun c => .str [c], .free)
  | .val (.ref n) => match s[n]? with
    | some (.lst xs) => some (xs, .cel n (.lst xs))
    | _ => none
  | _ => none
def iE (a : EM) : IM := fun r s => (a r s).bind fun x s1 => orBad s1 (itemsOf s1 x)
def rangeD (lo hi : Int) : List D := (List.range (hi - lo).toNat).map fun (k : Nat) => .int (lo + (k : Int))
def iRng1 (a : EM) : IM := fun r s => (a r s).bind fun x s1 => match x with
  | .val (.int j) => if -(2 ^ 62) ≤ j ∧ j < 2 ^ 62 then .ok (rangeD 0 j, .free) s1 else .bad
  | _ => .bad
def iRng2 (a b : EM) : IM := fun r s => (a r s).bind fun x s1 => (b r s1).bind fun y s2 => match x, y with
  | .val (.int i), .val (.int j) => if -(2 ^ 62) ≤ i ∧ i < 2 ^ 62 ∧ -(2 ^ 62) ≤ j ∧ j < 2 ^ 62 then .ok (rangeD i j, .free) s2 else .bad
  | _, _ => .bad
def enumD : Nat → List D → List D
  | _, [] => []
  | k, x :: xs => .tup [.int (k : Int), x] :: enumD (k + 1) xs
def zipD : List D → List D → List D
  | x :: xs, y :: ys => .tup [x, y] :: zipD xs ys
  | _, _ => []
def enumOf (s : St) (x : Opd) : Option (List D × Watch) := match x with
  | .val (.str _) => none
  | x => (itemsOf s x).map fun p => (enumD 0 p.1, p.2)
def iEnum (a : EM) : IM := fun r s => (a r s).bind fun x s1 => orBad s1 (enumOf s1 x)
def iZip (a b : EM) : IM := fun r s => (a r s).bind fun x s1 => (b r s1).bind fun y s2 => match x, y with
  | .val (.tup xs), .val (.tup ys) => .ok (zipD xs ys, .free) s2
  | .val (.lst xs), .val (.lst ys) => .ok (zipD xs ys, .free) s2
  | _, _ => .bad

/-! ### comprehensions: own names vs, wiped before and behind -/
def wipeE : List Nat → Env → Env
  | [], r => r
  | v :: vs, r => (wipeE vs r).set v .no
def lcLoop (tg : Tg) (t : TM) (e : EM) (vs : List Nat) (w : Watch) (r : Env) : List D → List D → St → Out (List D)
  | [], acc, s => .ok acc s
  | d :: ds, acc, s => match bindT tg d (wipeE vs r) with
    | none => .bad
    | some r1 => match t r1 s with
        | .ok true s1 => match e r1 s1 with
          | .ok (.val y) s2 => if w.ok s2 = true ∧ acc.length < lim then lcLoop tg t e vs w r ds (acc ++ [y]) s2 else .bad
          | _ => .bad
        | .ok false s1 => if w.ok s1 = true then lcLoop tg t e vs w r ds acc s1 else .bad
        | _ => .bad
def lcRes : Out (List D) → Out Cell
  | .ok xs s2 => .ok (.lst xs) s2
  | _ => .bad
def nLc (it : IM) (tg : Tg) (t : TM) (e : EM) (vs : List Nat) : NM := fun r s => (it r s).bind fun p s1 => if p.2.ok s1 = true then
    lcRes (lcLoop tg t e vs p.2 r p.1 [] s1)
  else .bad
def tYes : TM := fun _ s => .ok true s

/-! ### statements -/
def sNext : SM := fun r s => .nx r s
def sSeq (a b : SM) : SM := fun r s => match a r s with
  | .nx r1 s1 => b r1 s1
  | o => o
def sBind {α : Type} (r : Env) (o : Out α) (k : α → St → SOut) : SOut := match o with
  | .ok a s => k a s
  | .exc e s => .exc e r s
  | .bad => .bad
def sSet (i : Nat) (e : EM) : SM := fun r s => sBind r (e r s) fun x s1 => match x with
  | .val d => if i < r.length then .nx (r.set i (.val d)) s1 else .bad
  | .bor _ => .bad
def Cell.noIns : Cell → Bool
  | .ins _ _ => false
  | _ => true
def sOwn (i : Nat) (n : NM) : SM := fun r s => sBind r (n r s) fun c s1 => if i < r.length ∧ c.noIns = true then .nx (r.set i (.own c)) s1 else .bad
/-- e's parts to several names -/
def sUnp (tg : Tg) (e : EM) : SM := fun r s => sBind r (e r s) fun x s1 => match x with
  | .val d => match bindT tg d r with
    | some r1 => .nx r1 s1
    | none => .bad
  | .bor _ => .bad
/-- two names at once: each a value or a thing of its own -/
inductive Src where
  | v (e : EM) | o (n : NM)
def Src.run (a : Src) : Env → St → Out Slot := match a with
  | .v e => fun r s => (e r s).bind fun x s1 => match x with
    | .val d => .ok (.val d) s1
    | .bor _ => .bad
  | .o n => fun r s => (n r s).bind fun c s1 => if c.noIns = true then .ok (.own c) s1 else .bad
def sPar (i j : Nat) (a b : Src) : SM := fun r s => sBind r (a.run r s) fun x s1 => sBind r (b.run r s1) fun y s2 =>
  if i < r.length ∧ j < r.length ∧ i ≠ j then .nx ((r.set i x).set j y) s2 else .bad
def sIf (t : TM) (a b : SM) : SM := fun r s => sBind r (t r s) fun c s1 => if c = true then a r s1 else b r s1
def sRet (e : EM) : SM := fun r s => sBind r (e r s) fun x s1 => match x with
  | .val d => .rt d s1
  | .bor _ => .bad
/-- the name in the slot i -/
def sRetV (i : Nat) : SM := fun r s => match r[i]? with
  | some (.val d) => .rt d s
  | some (.own c) => match c.frz with
    | some d => .rt d s
    | none => .bad
  | _ => .bad
def sRetN : SM := fun _ s => .rt .non s
def sExpr (e : EM) : SM := fun r s => sBind r (e r s) fun _ s1 => .nx r s1
def sRaise (e : Nat) : SM := fun r s => .exc e r s
def sBreak : SM := fun r s => .bk r s
def sCont : SM := fun r s => .ct r s
def forLoop (tg : Tg) (body : SM) (w : Watch) : List D → Env → St → SOut
  | [], r, s => .nx r s
  | d :: ds, r, s => match bindT tg d r with
    | none => .bad
    | some r1 => match body r1 s with
      | .nx r2 s2 => if w.ok s2 = true then forLoop tg body w ds r2 s2 else .bad
      | .ct r2 s2 => if w.ok s2 = true then forLoop tg body w ds r2 s2 else .bad
      | .bk r2 s2 => .nx r2 s2
      | o => o
def sFor (it : IM) (tg : Tg) (body : SM) : SM := fun r s => sBind r (it r s) fun p s1 => if p.2.ok s1 = true then forLoop tg body p.2 p.1 r s1 else .bad
def whileLoop (t : TM) (body : SM) : Nat → Env → St → SOut
  | 0, _, _ => .bad
  | n + 1, r, s => match t r s with
    | .ok false s1 => .nx r s1
    | .ok true s1 => match body r s1 with
      | .nx r2 s2 => whileLoop t body n r2 s2
      | .ct r2 s2 => whileLoop t body n r2 s2
      | .bk r2 s2 => .nx r2 s2
      | o => o
    | .exc e s1 => .exc e r s1
    | .bad => .bad
def fuel : Nat := 100000
def sWhile (t : TM) (body : SM) : SM := fun r s => whileLoop t body fuel r s
/-- i op= e, a value -/
def sAug (i : Nat) (f : Op2) (e : EM) : SM := fun r s => match r[i]? with
  | some (.val d) => sBind r (e r s) fun x s1 => match f s1 (.val d) x with
    | some v => .nx (r.set i (.val v)) s1
    | none => .bad
  | _ => .bad
/-- the list in the slot i grows: append -/
def sAppV (i : Nat) (e : EM) : SM := fun r s => match r[i]? with
  | some (.own (.lst _)) => sBind r (e r s) fun x s1 => match x, r[i]? with
    | .val d, some (.own (.lst xs)) => if xs.length < lim then .nx (r.set i (.own (.lst (xs ++ [d])))) s1 else .bad
    | _, _ => .bad
  | _ => .bad
/-- a cell's list grows: append -/
def sAppC (o e : EM) : SM := fun r s => sBind r (o r s) fun x s1 => match x with
  | .val (.ref n) => match s1[n]? with
    | some (.lst _) => sBind r (e r s1) fun y s2 => match y, s2[n]? with
      | .val d, some (.lst xs) => if xs.length < lim then .nx r (s2.set n (.lst (xs ++ [d]))) else .bad
      | _, _ => .bad
    | _ => .bad
  | _ => .bad
/-- self.f = e of an instance of the class c: its j-th attribute, set or new -/
def putAt (fs : List D) (j : Nat) (d : D) : Option (List D) := if j < fs.length then some (fs.set j d) else if j = fs.length then some (fs ++ [d]) else none
def sFldV (c i j : Nat) (e : EM) : SM := fun r s => sBind r (e r s) fun x s1 => match x, r[i]? with
  | .val d, some (.own (.ins c' fs)) => match putAt fs j d with
    | some fs' => if c' = c then .nx (r.set i (.own (.ins c fs'))) s1 else .bad
    | none => .bad
  | _, _ => .bad
def sFldC (c j : Nat) (o e : EM) : SM := fun r s => sBind r (e r s) fun x s1 => sBind r (o r s1) fun y s2 => match x, y with
  | .val d, .val (.ref n) => match s2[n]? with
    | some (.ins c' fs) => match putAt fs j d with
      | some fs' => if c' = c then .nx r (s2.set n (.ins c fs')) else .bad
      | none => .bad
    | _ => .bad
  | _, _ => .bad
/-- Python's place of an index -/
def ixD (n : Nat) (i : Int) : Option Nat := if 0 ≤ i then (if i < (n : Int) then some i.toNat else none) else if 0 ≤ (n : Int) + i then some ((n : Int) + i).toNat else none
/-- o[i] = e of a cell's list -/
def sPutL (o i e : EM) : SM := fun r s => sBind r (e r s) fun x s1 => sBind r (o r s1) fun y s2 => sBind r (i r s2) fun z s3 => match x, y, z with
  | .val d, .val (.ref n), .val (.int k) => match s3[n]? with
    | some (.lst xs) => match ixD xs.length k with
      | some j => .nx r (s3.set n (.lst (xs.set j d)))
      | none => .bad
    | _ => .bad
  | _, _, _ => .bad
/-- a def: n slots, np parameters -/
def fn (n np : Nat) (body : SM) : FM := fun ds s => if ds.length = np then
    match body (ds.map Slot.val ++ List.replicate (n - np) Slot.no) s with
    | .nx _ s1 => .ok .non s1
    | .rt d s1 => .ok d s1
    | .exc e _ s1 => .exc e s1
    | _ => .bad
  else .bad
/-- an __init__: slot 0 is the instance of the class c; what it has behind it -/
abbrev XM := List D → St → Out (List D)
def fnInit (c n np : Nat) (body : SM) : XM := fun ds s => if ds.length + 1 = np then
    match body (Slot.own (.ins c []) :: (ds.map Slot.val ++ List.replicate (n - np) Slot.no)) s with
    | .nx r s1 => match List.head? r with
      | some (Slot.own (.ins c' fs)) => if c' = c then .ok fs s1 else .bad
      | _ => .bad
    | .exc e _ s1 => .exc e s1
    | _ => .bad
  else .bad
/-- C(..) -/
def nMake (c : Nat) (f : XM) (as : AM) : NM := fun r s => (as r s).bind fun xs s1 => match valsOf xs with
  | some ds => (f ds s1).bind fun fs s2 => .ok (.ins c fs) s2
  | none => .bad
/-- told(lambda: e): what the def that catches the errors es hands back -/
def eTold (es : List Nat) (ret : Tx) (e : EM) : EM := fun r s => match e r s with
  | .ok (.val d) s1 => .ok (.val d) s1
  | .ok (.bor _) _ => .bad
  | .exc x s1 => if es.contains x = true then .ok (.val (.str ret)) s1 else .bad
  | .bad => .bad
/-! ### operations on data -/
def oAdd : Op2 := fun _ x y => match x, y with
  | .val (.int i), .val (.int j) => some (.int (i + j))
  | .val (.str a), .val (.str b) => if a.length + b.length ≤ lim then some (.str (a ++ b)) else none
  | _, _ => none
def oSub : Op2 := fun _ x y => match x, y with
  | .val (.int i), .val (.int j) => some (.int (i - j))
  | _, _ => none
def small64 (i : Int) : Bool := decide (-(2 ^ 64) < i) && decide (i < 2 ^ 64)
def repT (k : Nat) (x : Tx) : Tx := (List.replicate k x).flatten
def oMul : Op2 := fun _ x y => match x, y with
  | .val (.int i), .val (.int j) => if small64 i = true ∨ small64 j = true then some (.int (i * j)) else none
  | _, _ => none
def oFdiv : Op2 := fun _ x y => match x, y with
  | .val (.int i), .val (.int j) => if 0 < j ∧ j < 1073741824 then some (.int (i / j)) else none
  | _, _ => none
def oMod : Op2 := fun _ x y => match x, y with
  | .val (.int i), .val (.int j) => if 0 < j then some (.int (i % j)) else none
  | _, _ => none
def oPow : Op2 := fun _ x y => match x, y with
  | .val (.int i), .val (.int j) => if 0 ≤ j ∧ j ≤ 1000 ∧ i.natAbs < 2 ^ 64 then some (.int (i ^ j.toNat)) else none
  | _, _ => none
def oShl : Op2 := fun _ x y => match x, y with
  | .val (.int i), .val (.int j) => if 0 ≤ j ∧ j ≤ 1000 ∧ i.natAbs < 2 ^ 64 then some (.int (i * 2 ^ j.toNat)) else none
  | _, _ => none
def oNeg : Op1 := fun _ x => match x with
  | .val (.int i) => some (.int (-i))
  | _ => none
def oCmp (p : Int → Int → Bool) : Op2 := fun _ x y => match x, y with
  | .val (.int i), .val (.int j) => some (.bl (p i j))
  | _, _ => none
def oLt : Op2 := oCmp fun i j => decide (i < j)
def oLe : Op2 := oCmp fun i j => decide (i ≤ j)
def oGt : Op2 := oCmp fun i j => decide (j < i)
def oGe : Op2 := oCmp fun i j => decide (j ≤ i)
/-! data that == tells apart -/
mutual
def eqv : D → D → Bool
  | .non, .non => true
  | .bl a, .bl b => a == b
  | .bl a, .int j => (if a then 1 else 0) == j
  | .int i, .bl b => i == (if b then 1 else 0)
  | .int i, .int j => i == j
  | .str x, .str y => x == y
  | .lst xs, .lst ys => eqvL xs ys
  | .tup xs, .tup ys => eqvL xs ys
  | .tup xs, .ktp ys => eqvL xs ys
  | .ktp xs, .tup ys => eqvL xs ys
  | .ktp xs, .ktp ys => eqvL xs ys
  | _, _ => false
def eqvL : List D → List D → Bool
  | [], [] => true
  | x :: xs, y :: ys => eqv x y && eqvL xs ys
  | _, _ => false
end
mutual
/-- none, bools, ints, texts, lists, tuples, not deeper than k -/
def shap : Nat → D → Bool
  | _, .non => true
  | _, .bl _ => true
  | _, .int _ => true
  | _, .str x => x.all fun c => decide (c < 1114112)
  | 0, _ => false
  | k + 1, .lst xs => decide (xs.length ≤ lim) && shapL k xs
  | k + 1, .tup xs => decide (xs.length ≤ lim) && shapL k xs
  | k + 1, .ktp xs => decide (xs.length ≤ lim) && shapL k xs
  | _ + 1, _ => false
def shapL : Nat → List D → Bool
  | _, [] => true
  | k, x :: xs => shap k x && shapL k xs
end
/-- the data that == sees -/
def look (s : St) : Opd → Option D
  | .val (.ref n) => match s[n]? with
    | some (.lst xs) => some (.lst xs)
    | _ => none
  | .val d => some d
  | .bor (.lst xs) => some (.lst xs)
  | .bor _ => none
/-- two scalars -/
def scalD : D → D → Bool
  | .non, .non => true | .non, .int _ => true | .int _, .non => true | .non, .bl _ => true | .bl _, .non => true | .non, .str _ => true | .str _, .non => true
  | .int _, .int _ => true | .bl _, .bl _ => true | .str _, .str _ => true
  | .int _, .str _ => true | .str _, .int _ => true | .bl _, .str _ => true | .str _, .bl _ => true
  | _, _ => false
def eqD (s : St) (x y : Opd) : Option Bool := match look s x, look s y with
  | some a, some b => if scalD a b = true then some (decide (a = b)) else if shap 20 a = true ∧ shap 20 b = true then some (eqv a b) else none
  | _, _ => none
def oEq : Op2 := fun s x y => (eqD s x y).map D.bl
def oNe : Op2 := fun s x y => (eqD s x y).map fun b => D.bl (!b)
def oIsN : Op2 := fun _ x y => match x, y with
  | .val d, .val .non => some (.bl (match d with | .non => true | _ => false))
  | .bor _, .val .non => some (.bl false)
  | _, _ => none
def oNotN : Op2 := fun _ x y => match x, y with
  | .val d, .val .non => some (.bl (match d with | .non => false | _ => true))
  | .bor _, .val .non => some (.bl true)
  | _, _ => none
def atD {α : Type} (xs : List α) (i : Int) : Option α := (ixD xs.length i).bind fun j => xs[j]?
def oIx : Op2 := fun s x y => match y with
  | .val (.int i) => match x with
    | .val (.str z) => if z.length ≤ lim then (atD z i).map fun c => .str [c] else none
    | _ => (seqOf s x).bind fun xs => atD xs i
  | _ => none
def oLen : OpN := fun s xs => match xs with
  | [.val (.str z)] => if z.length ≤ lim then some (.int z.length) else none
  | [x] => match seqOf s x with
    | some ys => some (.int ys.length)
    | none => none
  | _ => none
def oAbs : OpN := fun _ xs => match xs with
  | [.val (.int i)] => some (.int (if i < 0 then -i else i))
  | _ => none
def oMax2 : OpN := fun _ xs => match xs with
  | [.val (.int i), .val (.int j)] => some (.int (if j > i then j else i))
  | _ => none
def oMin2 : OpN := fun _ xs => match xs with
  | [.val (.int i), .val (.int j)] => some (.int (if j < i then j else i))
  | _ => none
def oInt : OpN := fun _ xs => match xs with
  | [.val (.int i)] => some (.int i)
  | [.val (.bl k)] => some (.int (if k then 1 else 0))
  | _ => none
def intsOf : List D → Option (List Int)
  | [] => some []
  | .int i :: r => (intsOf r).map (i :: ·)
  | _ :: _ => none
def oSum : OpN := fun s xs => match xs with
  | [x] => match listOf s x with
    | some ds => (intsOf ds).map fun ns => .int ns.sum
    | none => none
  | _ => none
def maxI : List Int → Int
  | [] => 0
  | [x] => x
  | x :: xs => if maxI xs > x then maxI xs else x
def minI : List Int → Int
  | [] => 0
  | [x] => x
  | x :: xs => if minI xs < x then minI xs else x
def oMaxL : OpN := fun s xs => match xs with
  | [x] => match listOf s x with
    | some ds => (intsOf ds).bind fun ns => if ns = [] then none else some (.int (maxI ns))
    | none => none
  | _ => none
def oMinL : OpN := fun s xs => match xs with
  | [x] => match listOf s x with
    | some ds => (intsOf ds).bind fun ns => if ns = [] then none else some (.int (minI ns))
    | none => none
  | _ => none

theorem maxI_mem : ∀ {l : List Int}, l ≠ [] → maxI l ∈ l
  | [], h => absurd rfl h
  | [x], _ => by simp [maxI]
  | x :: y :: r, _ => by
    have ih := maxI_mem (l := y :: r) (by simp)
    unfold maxI
    split
    · exact List.mem_cons_of_mem _ ih
    · exact List.mem_cons_self
theorem maxI_le : ∀ {l : List Int} {z : Int}, z ∈ l → z ≤ maxI l
  | [x], z, h => by simp at h; simp [maxI, h]
  | x :: y :: r, z, h => by
    have ih := fun w (hw : w ∈ y :: r) => maxI_le (l := y :: r) hw
    unfold maxI
    rcases List.mem_cons.mp h with rfl | h
    · split <;> omega
    · have := ih z h
      split <;> omega
theorem minI_mem : ∀ {l : List Int}, l ≠ [] → minI l ∈ l
  | [], h => absurd rfl h
  | [x], _ => by simp [minI]
  | x :: y :: r, _ => by
    have ih := minI_mem (l := y :: r) (by simp)
    unfold minI
    split
    · exact List.mem_cons_of_mem _ ih
    · exact List.mem_cons_self
theorem minI_le : ∀ {l : List Int} {z : Int}, z ∈ l → minI l ≤ z
  | [x], z, h => by simp at h; simp [minI, h]
  | x :: y :: r, z, h => by
    have ih := fun w (hw : w ∈ y :: r) => minI_le (l := y :: r) hw
    unfold minI
    rcases List.mem_cons.mp h with rfl | h
    · split <;> omega
    · have := ih z h
      split <;> omega


abbrev NpN := St → List Opd → Option Cell
def nOpN (f : NpN) (as : AM) : NM := fun r s => (as r s).bind fun xs s1 => orBad s1 (f s1 xs)
abbrev Np2 := St → Opd → Opd → Option Cell
def defl (f : FM) (dds : List D) : FM := fun ds st => f (ds ++ dds) st

/-! ### dicts -/
def lookD (ps : List (D × D)) (k : D) : Option D := (ps.find? fun p => decide (p.1 = k)).map (·.2)
def hasD (ps : List (D × D)) (k : D) : Bool := ps.any fun p => decide (p.1 = k)
def putD (ps : List (D × D)) (k d : D) : List (D × D) := if hasD ps k = true then ps.map (fun p => if p.1 = k then (p.1, d) else p) else ps ++ [(k, d)]
def dropD (ps : List (D × D)) (k : D) : List (D × D) := ps.filter fun p => decide (p.1 ≠ k)
def mergeD (ps more : List (D × D)) : List (D × D) := more.foldl (fun acc p => putD acc p.1 p.2) ps
def flatK : D → Bool
  | .int _ => true
  | .str _ => true
  | _ => false
def isTupK : D → Bool
  | .tup ks => ks.all flatK
  | _ => false
/-- what may be a key of a dict of the kind t: an int, a text (0); a tuple of such (1) -/
def kOk : Nat → D → Bool
  | 0, k => flatK k
  | 1, k => isTupK k
  | _, _ => false
def oGet : Op2 := fun s x y => match dctOf s x with
  | some (t, ps) => match y with
    | .val k => if kOk t k = true then lookD ps k else none
    | .bor _ => none
  | none => oIx s x y
/-- one sign in a text; a flat thing in a tuple; data in a list; a key in a dict -/
def inTx (x z : Tx) : Option Bool := match x with
  | [c] => some (z.contains c)
  | _ => none
def inFlat (d : D) (xs : List D) : Option Bool := if scalD d d = true ∧ xs.all (fun z => scalD z z) = true then some (xs.any fun z => eqv z d) else none
def inLst (s : St) (d : D) (y : Opd) : Option Bool := match listOf s y with
  | some xs => if shap 20 d = true ∧ shap 20 (.lst xs) = true then some (xs.any fun z => eqv z d) else none
  | none => none
def inSeq (s : St) (d : D) (y : Opd) : Option Bool := match y with
  | .val (.str z) => match d with
    | .str a => inTx a z
    | _ => none
  | .val (.tup xs) => inFlat d xs
  | .val (.ktp xs) => inFlat d xs
  | y => inLst s d y
def inD (s : St) (x y : Opd) : Option Bool := match x with
  | .bor _ => none
  | .val k => match dctOf s y with
    | some (t, ps) => if kOk t k = true then some (hasD ps k) else none
    | none => inSeq s k y
def oIn : Op2 := fun s x y => (inD s x y).map D.bl
def oNotIn : Op2 := fun s x y => (inD s x y).map fun b => D.bl (!b)
/-- d.get(k), d.get(k, x) -/
def getK (s : St) (x y : Opd) (w : D) : Option D := match dctOf s x, y with
  | some (t, ps), .val kk => if kOk t kk = true then some ((lookD ps kk).getD w) else none
  | _, _ => none
def eGet1 (d k : EM) : EM := fun r s => (d r s).bind fun x s1 => if (dctOf s1 x).isSome = true then (k r s1).bind fun y s2 => orBad s2 ((getK s2 x y .non).map Opd.val) else .bad
def eGet2 (d k e : EM) : EM := fun r s => (d r s).bind fun x s1 => if (dctOf s1 x).isSome = true then (k r s1).bind fun y s2 => (e r s2).bind fun z s3 => match z with
  | .val w => orBad s3 ((getK s3 x y w).map Opd.val)
  | .bor _ => .bad
  else .bad
/-- d[k] = e of a cell; of one's own -/
def sPutDC (d k e : EM) : SM := fun r s => sBind r (e r s) fun x s1 => sBind r (d r s1) fun y s2 => sBind r (k r s2) fun z s3 => match x, y, z with
  | .val w, .val (.ref n), .val kk => match s3[n]? with
    | some (.dct t ps) => if kOk t kk = true ∧ ps.length < lim then .nx r (s3.set n (.dct t (putD ps kk w))) else .bad
    | _ => .bad
  | _, _, _ => .bad
def sPutDV (i : Nat) (k e : EM) : SM := fun r s => match r[i]? with
  | some (.own (.dct t ps)) => sBind r (e r s) fun x s1 => sBind r (k r s1) fun z s2 => match x, z with
    | .val w, .val kk => if kOk t kk = true ∧ ps.length < lim then .nx (r.set i (.own (.dct t (putD ps kk w)))) s2 else .bad
    | _, _ => .bad
  | _ => .bad
/-- d.setdefault(k, n), d a cell: a new thing where k is not yet -/
def setDN (s3 : St) (m : Nat) (kk : D) (c : Cell) : Out Opd := match s3[m]? with
  | some (.dct 0 ps) => if flatK kk = true ∧ ps.length < lim then
      match lookD ps kk with
      | some d => .ok (.val d) s3
      | none => .ok (.val (.ref s3.length)) ((s3 ++ [c]).set m (.dct 0 (putD ps kk (.ref s3.length))))
    else .bad
  | _ => .bad
def eSetDN (d k : EM) (n : NM) : EM := fun r s => (d r s).bind fun x s1 => if (dctOf s1 x).isSome = true then (k r s1).bind fun y s2 => (n r s2).bind fun c s3 => match x, y with
  | .val (.ref m), .val kk => setDN s3 m kk c
  | _, _ => .bad
  else .bad
/-- dict(pairs) -/
def pairsOf : List D → Option (List (D × D))
  | [] => some []
  | .tup [k, v] :: r => if flatK k = true then (pairsOf r).map ((k, v) :: ·) else none
  | _ :: _ => none
def nDict : NpN := fun s xs => match xs with
  | [x] => match listOf s x with
    | some ds => (pairsOf ds).map fun ps => .dct 0 (mergeD [] ps)
    | none => none
  | _ => none
/-- list(d.items()) -/
def itemsL (s : St) (x : Opd) : Option (List (D × D)) := match x with
  | .val (.dct 0 ps) => some ps
  | .val (.ref n) => match s[n]? with
    | some (.dct 0 ps) => some ps
    | _ => none
  | _ => none
def nItems (d : EM) : NM := fun r s => (d r s).bind fun x s1 => orBad s1 ((itemsL s1 x).map fun ps => Cell.lst (ps.map fun p => .tup [p.1, p.2]))

/-! ### slices -/
def sIxD (n d : Nat) : Option Int → Nat
  | none => d
  | some v => if v < 0 then (v + (n : Int)).toNat else min v.toNat n
def cutD {α : Type} (xs : List α) (lo hi : Option Int) : List α := (xs.drop (sIxD xs.length 0 lo)).take (sIxD xs.length xs.length hi - sIxD xs.length 0 lo)
abbrev OM := Env → St → Out (Option Int)
def oNo : OM := fun _ s => .ok none s
def oSome (a : EM) : OM := fun r s => (a r s).bind fun x s1 => match x with
  | .val (.int i) => .ok (some i) s1
  | _ => .bad
/-- a text, a tuple -/
def cutE : D → Option Int → Option Int → Option D
  | .str z, lo, hi => if z.length ≤ lim then some (.str (cutD z lo hi)) else none
  | .tup xs, lo, hi => some (.tup (cutD xs lo hi))
  | _, _, _ => none
def eSl (a : EM) (lo hi : OM) : EM := fun r s => (a r s).bind fun x s1 => (lo r s1).bind fun l s2 => (hi r s2).bind fun h s3 => match x with
  | .val d => orBad s3 ((cutE d l h).map Opd.val)
  | .bor _ => .bad
/-- a list: a new one -/
def seqL (s : St) : Opd → Option (List D)
  | .val (.scr xs) => some xs
  | x => listOf s x
def nSl (a : EM) (lo hi : OM) : NM := fun r s => (a r s).bind fun x s1 => (lo r s1).bind fun l s2 => (hi r s2).bind fun h s3 => orBad s3 ((seqL s3 x).map fun xs => Cell.lst (cutD xs l h))
def nRev (a : EM) : NM := fun r s => (a r s).bind fun x s1 => orBad s1 ((listOf s1 x).map fun xs => Cell.lst xs.reverse)

/-! ### lists made of lists -/
def nCat : Np2 := fun s x y => match listOf s x, listOf s y with
  | some xs, some ys => if xs.length + ys.length ≤ lim then some (.lst (xs ++ ys)) else none
  | _, _ => none
def nRep : Np2 := fun s x y => match listOf s x, y with
  | some xs, .val (.int k) => if -(2 ^ 63) ≤ k ∧ k < 2 ^ 63 ∧ xs.length * k.toNat ≤ lim then some (.lst (List.replicate k.toNat xs).flatten) else none
  | _, _ => none
def nList : NpN := fun s xs => match xs with
  | [x] => (seqOf s x).map Cell.lst
  | _ => none
def tupOf (s : St) (x : Opd) : Option D := match x with
  | .val (.tup ds) => some (.tup ds)
  | .val (.ktp ds) => some (.ktp ds)
  | x => (listOf s x).map D.tup
def oTuple : OpN := fun s xs => match xs with
  | [x] => tupOf s x
  | _ => none
/-- lexicographic < of texts -/
def ltT : Tx → Tx → Bool
  | [], [] => false
  | [], _ :: _ => true
  | _ :: _, [] => false
  | a :: r, b :: t => decide (a < b) || (decide (a = b) && ltT r t)
def insT (x : Tx) : List Tx → List Tx
  | [] => [x]
  | y :: r => if ltT y x = true then y :: insT x r else x :: y :: r
def sortT : List Tx → List Tx
  | [] => []
  | x :: r => insT x (sortT r)
def insI (x : Int) : List Int → List Int
  | [] => [x]
  | y :: r => if y < x then y :: insI x r else x :: y :: r
def sortI : List Int → List Int
  | [] => []
  | x :: r => insI x (sortI r)
def txsOf : List D → Option (List Tx)
  | [] => some []
  | .str x :: r => (txsOf r).map (x :: ·)
  | _ :: _ => none
/-- sorted of a list of ints or of texts, of a dict with texts for keys; below 64 -/
def nSorted : NpN := fun s xs => match xs with
  | [x] => match dctOf s x with
    | some (0, ps) => match txsOf (ps.map (·.1)) with
      | some ts => if ts.length < 64 then some (.lst ((sortT ts).map D.str)) else none
      | none => none
    | some _ => none
    | none => match listOf s x with
      | some ds => if ds.length < 64 then
          match intsOf ds with
          | some ns => some (.lst ((sortI ns).map D.int))
          | none => match txsOf ds with
            | some ts => some (.lst ((sortT ts).map D.str))
            | none => none
        else none
      | none => none
  | _ => none
/-! ### dead code, lists of lambdas -/
def sDead : SM := fun _ _ => .bad
/-- each lambda is told, in order; all must answer ret -/
def badRun (er : List Nat) (ret : Tx) : List EM → Env → St → Option St
  | [], _, st => some st
  | m :: ms, r, st => match eTold er ret m r st with
    | .ok (.val (.str x)) st1 => if x = ret then badRun er ret ms r st1 else none
    | _ => none
def sBad (ib : Nat) (rest : SM) : SM := fun r s => if ib < r.length then rest (r.set ib .no) s else .bad
def sBadThen (iF : Nat) (er : List Nat) (ret : Tx) (ms : List EM) (m : SM) : SM := fun r s => match badRun er ret ms r s with
  | some s1 => if iF < r.length then m r s1 else .bad
  | none => .bad
end Mir
/-! E2: the relation between the layer's values and heaps and the mirror's data and store. -/
namespace Mir
open PySem PySem.Spec PyProof.Rows L2

def toS (x : Tx) : Str := ⟨x.toArray⟩
theorem toS_list (x : Tx) : (toS x).cps.toList = x := by simp [toS]
theorem toS_len (x : Tx) : (toS x).length = x.length := by simp [toS, Str.length]
theorem toS_inj {x y : Tx} (h : toS x = toS y) : x = y := by
  have := congrArg (fun z : Str => z.cps.toList) h
  simpa [toS] using this
theorem toS_of (z : Str) : toS z.cps.toList = z := by cases z; simp [toS]

/-- what is known of the program's top -/
structure G where
  K : PySem.W.Frag
  ci : Nat → Option (Addr × List Str)
  ex : Nat → Option Addr
  tb : List (Addr × Str)

/-- a tuple, a list of the written part -/
def KT (K : PySem.W.Frag) (a : Addr) (xs : List V) : Prop :=
  ∃ (o : Obj) (its : Array Value) (n : Nat), K.lookup a = some o ∧ o.cls = .type "tuple" ∧ o.data = .seq its n ∧ its.size ≤ sizeLine ∧ Vals xs its.toList
def KL (K : PySem.W.Frag) (a : Addr) (xs : List V) : Prop :=
  ∃ (o : Obj) (its : Array Value) (n : Nat), K.lookup a = some o ∧ o.cls = .type "list" ∧ o.dict = none ∧ o.data = .seq its n ∧ its.size ≤ sizeLine ∧ Vals xs its.toList
theorem KT.seq {K : PySem.W.Frag} {H : Hp} {a : Addr} {xs : List V} (h : KT K a xs) : SqT K H a xs := .inr h
theorem KL.seq {K : PySem.W.Frag} {H : Hp} {a : Addr} {xs : List V} (h : KL K a xs) : SqL K H a xs := .inr h

def RepK : D → Key → Prop
  | .int i, k => k = .inl i
  | .str x, k => k = .inr (toS x)
  | _, _ => False
def RepKs : List D → List Key → Prop
  | [], ks => ks = []
  | d :: ds, ks => ∃ k r, ks = k :: r ∧ RepK d k ∧ RepKs ds r
mutual
/-- v is the data d, all of whose parts are frozen in F (cells: at the places mu) -/
def RepV (g : G) (F : Hp) (mu : List Addr) : D → V → Prop
  | .non, v => v = .non
  | .bl b, v => v = .bl b
  | .int i, v => v = .int i
  | .str x, v => v = .str (toS x)
  | .ref n, v => ∃ a, mu[n]? = some a ∧ v = .ref a
  | .tup ds, v => ∃ p vs, v = .ref p ∧ F p = some (.tup vs) ∧ RepL g F mu ds vs
  | .ktp ds, v => ∃ p vs, v = .ref p ∧ KT g.K p vs ∧ RepL g F mu ds vs
  | .lst ds, v => ∃ p vs, v = .ref p ∧ F p = some (.lst vs) ∧ RepL g F mu ds vs
  | .scr ds, v => ∃ p vs, v = .ref p ∧ ((∃ od, F p = some (.frz od (.lst vs))) ∨ F p = some (.lst vs) ∨ KL g.K p vs) ∧ RepL g F mu ds vs
  | .dct t ps, v => ∃ p, v = .ref p ∧ ((t = 0 ∧ ∃ kvs, F p = some (.dK kvs) ∧ RepP g F mu ps kvs) ∨ (t = 1 ∧ ∃ kvs, F p = some (.dT kvs) ∧ RepT g F mu ps kvs))
  | .obj c fs, v => ∃ p C ns dx vs, v = .ref p ∧ g.ci c = some (C, ns) ∧ fs.length ≤ ns.length ∧ F p = some (.ins C dx (ns.zip vs)) ∧ RepL g F mu fs vs
  | .lam _, _ => False
def RepL (g : G) (F : Hp) (mu : List Addr) : List D → List V → Prop
  | [], vs => vs = []
  | d :: ds, vs => ∃ v r, vs = v :: r ∧ RepV g F mu d v ∧ RepL g F mu ds r
def RepP (g : G) (F : Hp) (mu : List Addr) : List (D × D) → List (Key × V) → Prop
  | [], kvs => kvs = []
  | (k, d) :: ps, kvs => ∃ k' v r, kvs = (k', v) :: r ∧ RepK k k' ∧ RepV g F mu d v ∧ RepP g F mu ps r
def RepT (g : G) (F : Hp) (mu : List Addr) : List (D × D) → List (List Key × V) → Prop
  | [], kvs => kvs = []
  | (.tup ks, d) :: ps, kvs => ∃ k' v r, kvs = (k', v) :: r ∧ RepKs ks k' ∧ RepV g F mu d v ∧ RepT g F mu ps r
  | _ :: _, _ => False
end

/-- F's things stay, mu's places stay -/
structure Mono (F : Hp) (mu : List Addr) (F' : Hp) (mu' : List Addr) : Prop where
  fro : ∀ a o, F a = some o → F' a = some o
  mu : ∀ (n : Nat) (a : Addr), mu[n]? = some a → mu'[n]? = some a
theorem Mono.refl (F : Hp) (mu : List Addr) : Mono F mu F mu := ⟨fun _ _ h => h, fun _ _ h => h⟩
theorem Mono.trans {F F1 F2 : Hp} {m m1 m2 : List Addr} (a : Mono F m F1 m1) (b : Mono F1 m1 F2 m2) : Mono F m F2 m2 :=
  ⟨fun c o h => b.fro c o (a.fro c o h), fun n c h => b.mu n c (a.mu n c h)⟩
section
variable {g : G} {F F' : Hp} {mu mu' : List Addr}
mutual
theorem RepV.mono (m : Mono F mu F' mu') : ∀ (d : D) (v : V), RepV g F mu d v → RepV g F' mu' d v
  | .non, _, h => h
  | .bl _, _, h => h
  | .int _, _, h => h
  | .str _, _, h => h
  | .ref n, v, h => by
    simp only [RepV] at h ⊢
    obtain ⟨a, h1, h2⟩ := h
    exact ⟨a, m.mu _ _ h1, h2⟩
  | .tup ds, v, h => by
    simp only [RepV] at h ⊢
    obtain ⟨p, vs, h1, h2, h3⟩ := h
    exact ⟨p, vs, h1, m.fro _ _ h2, RepL.mono m ds vs h3⟩
  | .ktp ds, v, h => by
    simp only [RepV] at h ⊢
    obtain ⟨p, vs, h1, h2, h3⟩ := h
    exact ⟨p, vs, h1, h2, RepL.mono m ds vs h3⟩
  | .lst ds, v, h => by
    simp only [RepV] at h ⊢
    obtain ⟨p, vs, h1, h2, h3⟩ := h
    exact ⟨p, vs, h1, m.fro _ _ h2, RepL.mono m ds vs h3⟩
  | .scr ds, v, h => by
    simp only [RepV] at h ⊢
    obtain ⟨p, vs, h1, h2, h3⟩ := h
    exact ⟨p, vs, h1, h2.imp (fun ⟨od, z⟩ => ⟨od, m.fro _ _ z⟩) (fun z => z.imp (m.fro _ _) fun z => z), RepL.mono m ds vs h3⟩
  | .dct t ps, v, h => by
    simp only [RepV] at h ⊢
    obtain ⟨p, h1, h2⟩ := h
    refine ⟨p, h1, h2.imp (fun ⟨e, kvs, a, b⟩ => ⟨e, kvs, m.fro _ _ a, RepP.mono m ps kvs b⟩) fun ⟨e, kvs, a, b⟩ => ⟨e, kvs, m.fro _ _ a, RepT.mono m ps kvs b⟩⟩
  | .obj c fs, v, h => by
    simp only [RepV] at h ⊢
    obtain ⟨p, C, ns, dx, vs, h1, h2, h3, h4, h5⟩ := h
    exact ⟨p, C, ns, dx, vs, h1, h2, h3, m.fro _ _ h4, RepL.mono m fs vs h5⟩
  | .lam _, _, h => by simp only [RepV] at h
theorem RepL.mono (m : Mono F mu F' mu') : ∀ (ds : List D) (vs : List V), RepL g F mu ds vs → RepL g F' mu' ds vs
  | [], _, h => by simp only [RepL] at h ⊢; exact h
  | d :: ds, vs, h => by
    simp only [RepL] at h ⊢
    obtain ⟨v, r, h1, h2, h3⟩ := h
    exact ⟨v, r, h1, RepV.mono m d v h2, RepL.mono m ds r h3⟩
theorem RepP.mono (m : Mono F mu F' mu') : ∀ (ps : List (D × D)) (kvs : List (Key × V)), RepP g F mu ps kvs → RepP g F' mu' ps kvs
  | [], _, h => by simp only [RepP] at h ⊢; exact h
  | (k, d) :: ps, kvs, h => by
    simp only [RepP] at h ⊢
    obtain ⟨k', v, r, h1, h2, h3, h4⟩ := h
    exact ⟨k', v, r, h1, h2, RepV.mono m d v h3, RepP.mono m ps r h4⟩
theorem RepT.mono (m : Mono F mu F' mu') : ∀ (ps : List (D × D)) (kvs : List (List Key × V)), RepT g F mu ps kvs → RepT g F' mu' ps kvs
  | [], _, h => by simp only [RepT] at h ⊢; exact h
  | (.tup ks, d) :: ps, kvs, h => by
    simp only [RepT] at h ⊢
    obtain ⟨k', v, r, h1, h2, h3, h4⟩ := h
    exact ⟨k', v, r, h1, h2, RepV.mono m d v h3, RepT.mono m ps r h4⟩
  | (.non, _) :: _, _, h => by simp only [RepT] at h
  | (.bl _, _) :: _, _, h => by simp only [RepT] at h
  | (.int _, _) :: _, _, h => by simp only [RepT] at h
  | (.str _, _) :: _, _, h => by simp only [RepT] at h
  | (.ref _, _) :: _, _, h => by simp only [RepT] at h
  | (.lst _, _) :: _, _, h => by simp only [RepT] at h
  | (.dct _ _, _) :: _, _, h => by simp only [RepT] at h
  | (.obj _ _, _) :: _, _, h => by simp only [RepT] at h
  | (.lam _, _) :: _, _, h => by simp only [RepT] at h
  | (.scr _, _) :: _, _, h => by simp only [RepT] at h
  | (.ktp _, _) :: _, _, h => by simp only [RepT] at h
end
end

section
variable {g : G} {F : Hp} {mu : List Addr}
theorem RepL.length : ∀ {ds : List D} {vs : List V}, RepL g F mu ds vs → ds.length = vs.length
  | [], vs, h => by simp only [RepL] at h; rw [h]; rfl
  | d :: ds, vs, h => by
    simp only [RepL] at h
    obtain ⟨v, r, rfl, _, h3⟩ := h
    simp [RepL.length h3]
theorem RepL.get : ∀ {ds : List D} {vs : List V} {i : Nat} {d : D}, RepL g F mu ds vs → ds[i]? = some d → ∃ v, vs[i]? = some v ∧ RepV g F mu d v
  | [], _, i, d, _, e => by simp at e
  | d :: ds, vs, 0, d', h, e => by
    simp only [RepL] at h
    obtain ⟨v, r, rfl, h2, _⟩ := h
    simp at e
    subst e
    exact ⟨v, rfl, h2⟩
  | d :: ds, vs, i + 1, d', h, e => by
    simp only [RepL] at h
    obtain ⟨v, r, rfl, _, h3⟩ := h
    simp at e
    obtain ⟨w, h4, h5⟩ := RepL.get (i := i) h3 e
    exact ⟨w, by simpa using h4, h5⟩
theorem RepL.append : ∀ {ds es : List D} {vs us : List V}, RepL g F mu ds vs → RepL g F mu es us → RepL g F mu (ds ++ es) (vs ++ us)
  | [], _, _, _, h, k => by simp only [RepL] at h; subst h; exact k
  | d :: ds, _, _, _, h, k => by
    simp only [RepL] at h
    obtain ⟨v, r, rfl, h2, h3⟩ := h
    simp only [List.cons_append, RepL]
    exact ⟨v, _, rfl, h2, RepL.append h3 k⟩
theorem RepL.nil : RepL g F mu [] [] := by simp only [RepL]
theorem RepL.cons {d : D} {v : V} {ds : List D} {vs : List V} (h : RepV g F mu d v) (k : RepL g F mu ds vs) : RepL g F mu (d :: ds) (v :: vs) := by
  simp only [RepL]
  exact ⟨v, vs, rfl, h, k⟩
theorem RepL.one {d : D} {v : V} (h : RepV g F mu d v) : RepL g F mu [d] [v] := .cons h .nil
theorem RepL.set : ∀ {ds : List D} {vs : List V} {d : D} {v : V} (j : Nat), RepL g F mu ds vs → RepV g F mu d v → RepL g F mu (ds.set j d) (vs.set j v)
  | [], _, _, _, _, h, _ => by simp only [RepL] at h; subst h; simp [RepL]
  | e :: ds, _, d, v, 0, h, k => by
    simp only [RepL] at h
    obtain ⟨w, r, rfl, _, h3⟩ := h
    simp only [List.set_cons_zero]
    exact .cons k h3
  | e :: ds, _, d, v, j + 1, h, k => by
    simp only [RepL] at h
    obtain ⟨w, r, rfl, h2, h3⟩ := h
    simp only [List.set_cons_succ]
    exact .cons h2 (RepL.set j h3 k)
theorem RepL.take : ∀ {ds : List D} {vs : List V} (n : Nat), RepL g F mu ds vs → RepL g F mu (ds.take n) (vs.take n)
  | _, _, 0, _ => by simp [RepL]
  | [], _, n + 1, h => by simp only [RepL] at h; subst h; simp [RepL]
  | e :: ds, _, n + 1, h => by
    simp only [RepL] at h
    obtain ⟨w, r, rfl, h2, h3⟩ := h
    simp only [List.take_succ_cons]
    exact .cons h2 (RepL.take n h3)
theorem RepL.drop : ∀ {ds : List D} {vs : List V} (n : Nat), RepL g F mu ds vs → RepL g F mu (ds.drop n) (vs.drop n)
  | _, _, 0, h => h
  | [], _, n + 1, h => by simp only [RepL] at h; subst h; simp [RepL]
  | e :: ds, _, n + 1, h => by
    simp only [RepL] at h
    obtain ⟨w, r, rfl, h2, h3⟩ := h
    simp only [List.drop_succ_cons]
    exact RepL.drop n h3
theorem RepL.reverse : ∀ {ds : List D} {vs : List V}, RepL g F mu ds vs → RepL g F mu ds.reverse vs.reverse
  | [], _, h => by simp only [RepL] at h; subst h; simp [RepL]
  | e :: ds, _, h => by
    simp only [RepL] at h
    obtain ⟨w, r, rfl, h2, h3⟩ := h
    simp only [List.reverse_cons]
    exact RepL.append (RepL.reverse h3) (.one h2)
end

/-! ### cells, slots, the whole -/
def CellAt (g : G) (F : Hp) (mu : List Addr) (H : Hp) (a : Addr) : Cell → Prop
  | .lst xs => ∃ vs, H a = some (.lst vs) ∧ RepL g F mu xs vs
  | .dct t ps => (t = 0 ∧ ∃ kvs, H a = some (.dK kvs) ∧ RepP g F mu ps kvs) ∨ (t = 1 ∧ ∃ kvs, H a = some (.dT kvs) ∧ RepT g F mu ps kvs)
  | .ins c fs => ∃ C ns dx vs, g.ci c = some (C, ns) ∧ fs.length ≤ ns.length ∧ H a = some (.ins C dx (ns.zip vs)) ∧ RepL g F mu fs vs
  | .lck t ps => ∃ od, (t = 0 ∧ ∃ kvs, H a = some (.frz od (.dK kvs)) ∧ RepP g F mu ps kvs) ∨ (t = 1 ∧ ∃ kvs, H a = some (.frz od (.dT kvs)) ∧ RepT g F mu ps kvs)
theorem CellAt.mono {g : G} {F F' : Hp} {mu mu' : List Addr} {H : Hp} {a : Addr} (m : Mono F mu F' mu') : ∀ {c : Cell}, CellAt g F mu H a c → CellAt g F' mu' H a c
  | .lst xs, ⟨vs, h1, h2⟩ => ⟨vs, h1, RepL.mono m _ _ h2⟩
  | .dct t ps, h => Or.imp (fun ⟨e, kvs, a, b⟩ => ⟨e, kvs, a, RepP.mono m _ _ b⟩) (fun ⟨e, kvs, a, b⟩ => ⟨e, kvs, a, RepT.mono m _ _ b⟩) h
  | .ins c fs, ⟨C, ns, dx, vs, h1, h2, h3, h4⟩ => ⟨C, ns, dx, vs, h1, h2, h3, RepL.mono m _ _ h4⟩
  | .lck t ps, ⟨od, h⟩ => ⟨od, Or.imp (fun ⟨e, kvs, a, b⟩ => ⟨e, kvs, a, RepP.mono m _ _ b⟩) (fun ⟨e, kvs, a, b⟩ => ⟨e, kvs, a, RepT.mono m _ _ b⟩) h⟩
/-- it stands where H has it -/
theorem CellAt.there {g : G} {F : Hp} {mu : List Addr} {H : Hp} {a : Addr} : ∀ {c : Cell}, CellAt g F mu H a c → ∃ o, H a = some o ∧ (∀ ps, o ≠ .tbl ps) ∧ ∀ f, o ≠ .ext f
  | .lst xs, ⟨vs, h1, h2⟩ => ⟨_, h1, fun _ z => (by cases z), fun _ z => (by cases z)⟩
  | .dct t ps, h => by
    rcases h with ⟨_, kvs, h, _⟩ | ⟨_, kvs, h, _⟩
    · exact ⟨_, h, fun _ z => (by cases z), fun _ z => (by cases z)⟩
    · exact ⟨_, h, fun _ z => (by cases z), fun _ z => (by cases z)⟩
  | .ins c fs, ⟨C, ns, dx, vs, h1, h2, h3, h4⟩ => ⟨_, h3, fun _ z => (by cases z), fun _ z => (by cases z)⟩
  | .lck t ps, ⟨od, h⟩ => by
    rcases h with ⟨_, kvs, h, _⟩ | ⟨_, kvs, h, _⟩
    · exact ⟨_, h, fun _ z => (by cases z), fun _ z => (by cases z)⟩
    · exact ⟨_, h, fun _ z => (by cases z), fun _ z => (by cases z)⟩
theorem CellAt.at {g : G} {F : Hp} {mu : List Addr} {H H' : Hp} {a : Addr} (e : H' a = H a) : ∀ {c : Cell}, CellAt g F mu H a c → CellAt g F mu H' a c
  | .lst xs, ⟨vs, h1, h2⟩ => ⟨vs, e.trans h1, h2⟩
  | .dct t ps, h => Or.imp (fun ⟨z, kvs, a, b⟩ => ⟨z, kvs, e.trans a, b⟩) (fun ⟨z, kvs, a, b⟩ => ⟨z, kvs, e.trans a, b⟩) h
  | .ins c fs, ⟨C, ns, dx, vs, h1, h2, h3, h4⟩ => ⟨C, ns, dx, vs, h1, h2, e.trans h3, h4⟩
  | .lck t ps, ⟨od, h⟩ => ⟨od, Or.imp (fun ⟨z, kvs, a, b⟩ => ⟨z, kvs, e.trans a, b⟩) (fun ⟨z, kvs, a, b⟩ => ⟨z, kvs, e.trans a, b⟩) h⟩

/-- H has what F has -/
def Held (H : Hp) (a : Addr) (o : HO) : Prop := H a = some o ∨ (False ∧ ∃ od, H a = some (.frz od o))
structure RH (g : G) (H F : Hp) (mu : List Addr) (st : Mir.St) : Prop where
  fro : ∀ a o, F a = some o → Held H a o
  len : mu.length = st.length
  nd : mu.Nodup
  cel : ∀ (n : Nat) (c : Cell), st[n]? = some c → ∃ a, mu[n]? = some a ∧ F a = none ∧ CellAt g F mu H a c
  tab : LamX.Tabs g.tb H
  ntb : ∀ a ps, F a ≠ some (.tbl ps)

def SlotAt (g : G) (F : Hp) (mu : List Addr) (H : Hp) : Slot → Option V → Prop
  | .no, _ => True
  | .val d, o => ∃ v, o = some v ∧ RepV g F mu d v
  | .own c, o => ∃ a, o = some (.ref a) ∧ F a = none ∧ a ∉ mu ∧ CellAt g F mu H a c
structure RE (g : G) (s : L2.St) (H F : Hp) (mu : List Addr) (r : Env) (st : Mir.St) : Prop where
  h : RH g H F mu st
  len : s.length = r.length
  slot : ∀ (i : Nat) (x : Slot), r[i]? = some x → ∃ o, s[i]? = some o ∧ SlotAt g F mu H x o
  own : ∀ (i j : Nat) (c c' : Cell) (a b : Addr), r[i]? = some (.own c) → r[j]? = some (.own c') → s[i]? = some (some (.ref a)) → s[j]? = some (some (.ref b)) → i ≠ j → a ≠ b

/-- nothing stands there, or a table of code objects -/
def Nw (H : Hp) (a : Addr) : Prop := ∀ o, H a = some o → ∃ ps, o = .tbl ps
theorem Nw.of {H : Hp} {a : Addr} (h : H a = none) : Nw H a := fun o e => by rw [h] at e; cases e
theorem Nw.no {H : Hp} {a : Addr} {o : HO} (n : Nw H a) (h : H a = some o) (k : ∀ ps, o ≠ .tbl ps) : False := by
  obtain ⟨ps, e⟩ := n o h
  exact k ps e
theorem Nw.up {H : Hp} {a p : Addr} {o : HO} (hp : Nw H p) (h : Nw (upd H p o) a) : Nw H a := by
  by_cases q : a = p
  · exact q ▸ hp
  · exact fun u e => h u (by rw [upd_ne q]; exact e)
theorem Nw.put {H : Hp} {a p : Addr} {o : HO} (k : ∀ ps, o ≠ .tbl ps) (h : Nw (upd H p o) a) : Nw H a := by
  by_cases q : a = p
  · subst q
    exact (h.no upd_same k).elim
  · exact fun u e => h u (by rw [upd_ne q]; exact e)
/-- what an expression may do: new things, changed cells -/
structure Ext (H F : Hp) (mu : List Addr) (H' F' : Hp) (mu' : List Addr) : Prop where
  mo : Mono F mu F' mu'
  keep : ∀ a o, H a = some o → a ∉ mu → (∀ ps, o ≠ .tbl ps) → H' a = some o
  dom : ∀ a, Nw H' a → Nw H a
  frF : ∀ a o, F' a = some o → F a = some o ∨ Nw H a
  frM : ∀ a, a ∈ mu' → a ∈ mu ∨ Nw H a
theorem Ext.refl (H F : Hp) (mu : List Addr) : Ext H F mu H F mu := ⟨.refl _ _, fun _ _ h _ _ => h, fun _ h => h, fun _ _ h => .inl h, fun _ h => .inl h⟩
theorem Ext.trans {H F H1 F1 H2 F2 : Hp} {m m1 m2 : List Addr} (a : Ext H F m H1 F1 m1) (b : Ext H1 F1 m1 H2 F2 m2) : Ext H F m H2 F2 m2 where
  mo := a.mo.trans b.mo
  keep := fun c o h hm hn => b.keep c o (a.keep c o h hm hn) (fun z => by
    rcases a.frM c z with q | q
    · exact hm q
    · exact q.no h hn) hn
  dom := fun c h => a.dom c (b.dom c h)
  frF := fun c o h => by
    rcases b.frF c o h with q | q
    · exact a.frF c o q
    · exact .inr (a.dom c q)
  frM := fun c h => by
    rcases b.frM c h with q | q
    · exact a.frM c q
    · exact .inr (a.dom c q)

section
variable {g : G} {H F H' F' : Hp} {mu mu' : List Addr} {st st' : Mir.St} {s : L2.St} {r : Env}
theorem RE.step (x : RE g s H F mu r st) (e : Ext H F mu H' F' mu') (h' : RH g H' F' mu' st') : RE g s H' F' mu' r st' := by
  refine ⟨h', x.len, fun i y hy => ?_, x.own⟩
  obtain ⟨o, h1, h2⟩ := x.slot i y hy
  refine ⟨o, h1, ?_⟩
  cases y with
  | no => trivial
  | val d =>
    obtain ⟨v, e1, e2⟩ := h2
    exact ⟨v, e1, RepV.mono e.mo _ _ e2⟩
  | own c =>
    obtain ⟨a, e1, e2, e3, e4⟩ := h2
    obtain ⟨o', q1, q2, _⟩ := e4.there
    refine ⟨a, e1, ?_, ?_, ?_⟩
    · cases q : F' a with
      | none => rfl
      | some z =>
        rcases e.frF a z q with y | y
        · rw [e2] at y; cases y
        · exact (y.no q1 q2).elim
    · intro z
      rcases e.frM a z with y | y
      · exact e3 y
      · exact (y.no q1 q2).elim
    · refine (CellAt.at ?_ e4).mono e.mo
      rw [q1]
      exact e.keep a o' q1 e3 q2
end

/-- an operand's value: data, or a thing of its own that is just read -/
def RepX (g : G) (H F : Hp) (mu : List Addr) : Opd → V → Prop
  | .val d, v => RepV g F mu d v
  | .bor c, v => ∃ a, v = .ref a ∧ F a = none ∧ a ∉ mu ∧ CellAt g F mu H a c
theorem RepX.ext {g : G} {H F H' F' : Hp} {mu mu' : List Addr} {v : V} (e : Ext H F mu H' F' mu') : ∀ {o : Opd}, RepX g H F mu o v → RepX g H' F' mu' o v
  | .val d, h => RepV.mono e.mo d v h
  | .bor c, ⟨a, h1, h2, h3, h4⟩ => by
    obtain ⟨o', q1, q2, _⟩ := h4.there
    refine ⟨a, h1, ?_, ?_, (CellAt.at ?_ h4).mono e.mo⟩
    · cases q : F' a with
      | none => rfl
      | some z =>
        rcases e.frF a z q with y | y
        · rw [h2] at y; cases y
        · exact (y.no q1 q2).elim
    · intro z
      rcases e.frM a z with y | y
      · exact h3 y
      · exact (y.no q1 q2).elim
    · rw [q1]
      exact e.keep a o' q1 h3 q2
def RepXs (g : G) (H F : Hp) (mu : List Addr) : List Opd → List V → Prop
  | [], vs => vs = []
  | o :: os, vs => ∃ v r, vs = v :: r ∧ RepX g H F mu o v ∧ RepXs g H F mu os r
theorem RepXs.ext {g : G} {H F H' F' : Hp} {mu mu' : List Addr} (e : Ext H F mu H' F' mu') : ∀ {os : List Opd} {vs : List V}, RepXs g H F mu os vs → RepXs g H' F' mu' os vs
  | [], _, h => h
  | o :: os, vs, ⟨v, r, h1, h2, h3⟩ => ⟨v, r, h1, h2.ext e, h3.ext e⟩
theorem RepXs.vals {g : G} {H F : Hp} {mu : List Addr} : ∀ {os : List Opd} {vs : List V} {ds : List D}, RepXs g H F mu os vs → valsOf os = some ds → RepL g F mu ds vs
  | [], _, _, h, e => by
    cases e
    have h : _ = ([] : List V) := h
    subst h
    exact .nil
  | .val d :: os, vs, ds, ⟨v, r, h1, h2, h3⟩, e => by
    simp only [valsOf, Option.map_eq_some_iff] at e
    obtain ⟨ds', e1, rfl⟩ := e
    subst h1
    exact .cons h2 (h3.vals e1)
  | .bor _ :: _, _, _, _, e => by simp [valsOf] at e

section
variable {g : G} {H F : Hp} {mu : List Addr} {st : Mir.St} {a : Addr}
theorem RH.lst (x : RH g H F mu st) {vs : List V} (h : F a = some (.lst vs)) : H a = some (.lst vs) := by
  rcases x.fro a _ h with q | ⟨⟨⟩, _⟩
  exact q
theorem RH.tup (x : RH g H F mu st) {vs : List V} (h : F a = some (.tup vs)) : H a = some (.tup vs) := by
  rcases x.fro a _ h with q | ⟨⟨⟩, _⟩
  exact q
theorem RH.ins (x : RH g H F mu st) {C dx : Addr} {fs : List (Str × V)} (h : F a = some (.ins C dx fs)) : H a = some (.ins C dx fs) := by
  rcases x.fro a _ h with q | ⟨⟨⟩, _⟩
  exact q
theorem RH.frz (x : RH g H F mu st) {od : Obj} {u : HO} (h : F a = some (.frz od u)) : H a = some (.frz od u) := by
  rcases x.fro a _ h with q | ⟨⟨⟩, _⟩
  exact q
theorem RH.seqT (x : RH g H F mu st) {vs : List V} (h : F a = some (.tup vs)) : SqT g.K H a vs := SqT.of (x.tup h)
theorem RH.dK (x : RH g H F mu st) {kvs : List (Key × V)} (h : F a = some (.dK kvs)) : Rd H a (.dK kvs) := by
  rcases x.fro a _ h with q | ⟨_, od, q⟩
  · exact .inl q
  · exact .inr ⟨od, q⟩
theorem RH.dT (x : RH g H F mu st) {kvs : List (List Key × V)} (h : F a = some (.dT kvs)) : Rd H a (.dT kvs) := by
  rcases x.fro a _ h with q | ⟨_, od, q⟩
  · exact .inl q
  · exact .inr ⟨od, q⟩
end

/-! ### the readings -/
/-- an error of the kind e leaves -/
def XQ (g : G) (E : XK) (e : Nat) (H : Hp) : Prop := ∃ C, g.ex e = some C ∧ E (.ref C) none H
def OutQ {α β : Type} (g : G) (s : L2.St) (H F : Hp) (mu : List Addr) (r : Env) (rep : Hp → Hp → List Addr → α → β → Prop) (E : XK) (Q : β → Hp → Prop) : Out α → Prop
  | .ok x st' => ∀ v H' F' mu', Ext H F mu H' F' mu' → RE g s H' F' mu' r st' → rep H' F' mu' x v → Q v H'
  | .exc e st' => ∀ H' F' mu', Ext H F mu H' F' mu' → RE g s H' F' mu' r st' → XQ g E e H'
  | .bad => False
def rdE (g : G) (E : XK) (m : EM) : TE := fun s H Q => ∃ r st F mu, RE g s H F mu r st ∧ OutQ g s H F mu r (fun H' F' mu' x v => RepX g H' F' mu' x v) E Q (m r st)
def rdA (g : G) (E : XK) (m : AM) : TA := fun s H Q => ∃ r st F mu, RE g s H F mu r st ∧ OutQ g s H F mu r (fun H' F' mu' x v => RepXs g H' F' mu' x v) E Q (m r st)
def rdT (g : G) (E : XK) (m : TM) : TT := fun s H Q => ∃ r st F mu, RE g s H F mu r st ∧ OutQ g s H F mu r (fun _ _ _ x v => x = v) E Q (m r st)
/-- a new thing -/
def rdN (g : G) (E : XK) (m : NM) : TE := fun s H Q => ∃ r st F mu, RE g s H F mu r st ∧ OutQ g s H F mu r (fun H' F' mu' c v => ∃ a, v = .ref a ∧ F' a = none ∧ a ∉ mu' ∧ Nw H a ∧ CellAt g F' mu' H' a c) E Q (m r st)

theorem OutQ.bind {α β γ δ : Type} {g : G} {s : L2.St} {H F : Hp} {mu : List Addr} {r : Env} {rep : Hp → Hp → List Addr → α → β → Prop} {rep' : Hp → Hp → List Addr → γ → δ → Prop} {E : XK} {Q : β → Hp → Prop} {Q' : δ → Hp → Prop} {o : Out α} {k : α → Mir.St → Out γ}
    (h : OutQ g s H F mu r rep' E Q' (o.bind k))
    (hk : ∀ x st' v H' F' mu', o = .ok x st' → Ext H F mu H' F' mu' → RE g s H' F' mu' r st' → rep H' F' mu' x v → OutQ g s H F mu r rep' E Q' (k x st') → Q v H') : OutQ g s H F mu r rep E Q o := by
  cases o with
  | ok x st' => exact fun v H' F' mu' e re rp => hk x st' v H' F' mu' rfl e re rp h
  | exc e st' => exact h
  | bad => exact h
/-- seen from further on -/
theorem OutQ.ext {α β : Type} {g : G} {s : L2.St} {H F H1 F1 : Hp} {mu mu1 : List Addr} {r : Env} {rep : Hp → Hp → List Addr → α → β → Prop} {E : XK} {Q : β → Hp → Prop} (e : Ext H F mu H1 F1 mu1) : ∀ {o : Out α}, OutQ g s H F mu r rep E Q o → OutQ g s H1 F1 mu1 r rep E Q o
  | .ok x st', h => fun v H' F' mu' e' re rp => h v H' F' mu' (e.trans e') re rp
  | .exc x st', h => fun H' F' mu' e' re => h H' F' mu' (e.trans e') re
  | .bad, h => h
theorem PE.imp {X : Cx} {e : Expr} {t t' : TE} (h : PE X e t) (k : ∀ s H Q, t' s H Q → t s H Q) : PE X e t' := ⟨fun pins s σ H Q I q => h.run pins s σ H Q I (k σ H Q q)⟩
theorem PT.imp {X : Cx} {e : Expr} {t t' : TT} (h : PT X e t) (k : ∀ s H Q, t' s H Q → t s H Q) : PT X e t' := ⟨fun pins s σ H Q I q => h.run pins s σ H Q I (k σ H Q q)⟩
theorem PA.imp {X : Cx} {e : List Expr} {t t' : TA} (h : PA X e t) (k : ∀ s H Q, t' s H Q → t s H Q) : PA X e t' := ⟨fun p pins s σ H Q I q => h.run p pins s σ H Q I (k σ H Q q)⟩
theorem PS.imp {X : Cx} {e : Stmt} {t t' : TS} (h : PS X e t) (k : ∀ D s H, t' D s H → t D s H) : PS X e t' := ⟨fun pins s σ H Q I q => h.run pins s σ H Q I (k Q σ H q)⟩
theorem PSs.imp {X : Cx} {e : List Stmt} {t t' : TS} (h : PSs X e t) (k : ∀ D s H, t' D s H → t D s H) : PSs X e t' := ⟨fun pins s σ H Q I q => h.run pins s σ H Q I (k Q σ H q)⟩
end Mir
/-! E3: the core rules: names, operators, tests, calls, statements, loops. -/
namespace Mir
open PySem PySem.Spec PyProof.Rows L2
section
variable {X : Cx} {g : G} {E : XK} {pos : Pos}

/-! ### names, constants -/
theorem dV (i : Nat) {x : Str} (hN : X.N[i]? = some x := by rfl) (hv : Vis X.env.scope x := by first | exact Or.inl rfl | exact Or.inr (Or.inl rfl) | exact Or.inr (Or.inr rfl)) (hd : (x == ("__debug__" : Str)) = false := by decide)
    (hcd : (x == ("__classdict__" : Str)) = false := by decide) : PE X (.Name x pos) (rdE g E (eV i)) := by
  refine PE.imp (pe_var hN hv hd hcd) fun s H Q h => ?_
  obtain ⟨r, st, F, mu, re, h⟩ := h
  unfold eV at h
  cases hr : r[i]? with
  | none => rw [hr] at h; exact h.elim
  | some y =>
    rw [hr] at h
    obtain ⟨o, h1, h2⟩ := re.slot i y hr
    cases y with
    | no => exact h.elim
    | val d =>
      obtain ⟨v, rfl, rv⟩ := h2
      exact ⟨v, h1, h v H F mu (.refl _ _ _) re rv⟩
    | own c =>
      obtain ⟨a, rfl, e1, e2, e3⟩ := h2
      exact ⟨.ref a, h1, h (.ref a) H F mu (.refl _ _ _) re ⟨a, rfl, e1, e2, e3⟩⟩
/-- whose value is the data d, wherever -/
theorem dConst {e : Expr} {v : V} {d : D} (h : PE X e (tC v)) (hd : ∀ F mu, RepV g F mu d v) : PE X e (rdE g E (eC d)) := by
  refine PE.imp h fun s H Q k => ?_
  obtain ⟨r, st, F, mu, re, k⟩ := k
  exact k v H F mu (.refl _ _ _) re (hd F mu)
theorem dInt {i j} : PE X (.Constant (.int i) j pos) (rdE g E (eC (.int i))) := dConst pe_int fun _ _ => by simp only [RepV]
theorem dBl {b j} : PE X (.Constant (.bool b) j pos) (rdE g E (eC (.bl b))) := dConst pe_bl fun _ _ => by simp only [RepV]
theorem dNon {j} : PE X (.Constant .none j pos) (rdE g E (eC .non)) := dConst pe_non fun _ _ => by simp only [RepV]
theorem dStr {x : Str} {j} (t : Tx) (h : x = toS t := by decide +kernel) : PE X (.Constant (.str x) j pos) (rdE g E (eC (.str t))) := dConst pe_str fun _ _ => by simp only [RepV]; rw [h]
/-- a constant of the module -/
theorem dGlob {x : Str} {v : V} {u : Value} {d : D} (hg : Gl X x) (hm : X.mg x = some u) (rr : RelV v u) (hd : ∀ F mu, RepV g F mu d v) (hdb : (x == ("__debug__" : Str)) = false := by decide) : PE X (.Name x pos) (rdE g E (eC d)) := dConst (pe_glob hg hm rr hdb) hd

/-! ### operations on values -/
/-- what a rule asks of values follows from the operation on data -/
def OpS (g : G) (rr : R2) (f : Op2) : Prop := ∀ (H F : Hp) (mu : List Addr) (st : Mir.St) (x y : Opd) (vx vy : V) (d : D) (Q : VK), RH g H F mu st → RepX g H F mu x vx → RepX g H F mu y vy → f st x y = some d →
  (∀ v H' F', RH g H' F' mu st → Ext H F mu H' F' mu → RepV g F' mu d v → Q v H') → rr vx vy H Q
def OpS1 (g : G) (rr : V → Hp → VK → Prop) (f : Op1) : Prop := ∀ (H F : Hp) (mu : List Addr) (st : Mir.St) (x : Opd) (vx : V) (d : D) (Q : VK), RH g H F mu st → RepX g H F mu x vx → f st x = some d →
  (∀ v H' F', RH g H' F' mu st → Ext H F mu H' F' mu → RepV g F' mu d v → Q v H') → rr vx H Q
def OpSN (g : G) (rr : List V → Hp → VK → Prop) (f : OpN) : Prop := ∀ (H F : Hp) (mu : List Addr) (st : Mir.St) (xs : List Opd) (vs : List V) (d : D) (Q : VK), RH g H F mu st → RepXs g H F mu xs vs → f st xs = some d →
  (∀ v H' F', RH g H' F' mu st → Ext H F mu H' F' mu → RepV g F' mu d v → Q v H') → rr vs H Q
/-- a result without parts -/
theorem OpS.flat {rr : R2} {f : Op2} (h : ∀ (H F : Hp) (mu : List Addr) (st : Mir.St) (x y : Opd) (vx vy : V) (d : D) (Q : VK), RH g H F mu st → RepX g H F mu x vx → RepX g H F mu y vy → f st x y = some d → (∀ v, RepV g F mu d v → Q v H) → rr vx vy H Q) : OpS g rr f :=
  fun H F mu st x y vx vy d Q rh rx ry e q => h H F mu st x y vx vy d Q rh rx ry e fun v rv => q v H F rh (.refl _ _ _) rv
theorem OpS1.flat {rr : V → Hp → VK → Prop} {f : Op1} (h : ∀ (H F : Hp) (mu : List Addr) (st : Mir.St) (x : Opd) (vx : V) (d : D) (Q : VK), RH g H F mu st → RepX g H F mu x vx → f st x = some d → (∀ v, RepV g F mu d v → Q v H) → rr vx H Q) : OpS1 g rr f :=
  fun H F mu st x vx d Q rh rx e q => h H F mu st x vx d Q rh rx e fun v rv => q v H F rh (.refl _ _ _) rv
theorem OpSN.flat {rr : List V → Hp → VK → Prop} {f : OpN} (h : ∀ (H F : Hp) (mu : List Addr) (st : Mir.St) (xs : List Opd) (vs : List V) (d : D) (Q : VK), RH g H F mu st → RepXs g H F mu xs vs → f st xs = some d → (∀ v, RepV g F mu d v → Q v H) → rr vs H Q) : OpSN g rr f :=
  fun H F mu st xs vs d Q rh rx e q => h H F mu st xs vs d Q rh rx e fun v rv => q v H F rh (.refl _ _ _) rv

section
variable {a b c e : Expr} {ma mb mc : EM} {es : List Expr} {mas : AM}
theorem rd2 {rr : R2} {f : Op2} {ta tb : TE} (hs : OpS g rr f) (ha : ∀ s H Q, rdE g E ma s H Q → ta s H Q) (hb : ∀ s H Q, rdE g E mb s H Q → tb s H Q) : ∀ s H Q, rdE g E (eOp2 f ma mb) s H Q → tOp rr ta tb s H Q := by
  intro s H Q h
  obtain ⟨r, st, F, mu, re, h⟩ := h
  refine ha _ _ _ ⟨r, st, F, mu, re, OutQ.bind h fun x st1 vx H1 F1 mu1 _ e1 re1 rx h1 => ?_⟩
  refine hb _ _ _ ⟨r, st1, F1, mu1, re1, OutQ.bind (h1.ext e1) fun y st2 vy H2 F2 mu2 _ e2 re2 ry h2 => ?_⟩
  cases hf : f st2 x y with
  | none => rw [hf] at h2; exact h2.elim
  | some d =>
    rw [hf] at h2
    exact hs H2 F2 mu2 st2 x y vx vy d Q re2.h (rx.ext e2) ry hf fun v H' F' rh' e' rv => h2 v H' F' mu2 (e2.trans e') (re2.step e' rh') rv
theorem dOp {op : Operator} {rr : R2} {f : Op2} (ho : OpR X (binaryOp op) rr) (hs : OpS g rr f) (ha : PE X a (rdE g E ma)) (hb : PE X b (rdE g E mb)) : PE X (.BinOp a op b pos) (rdE g E (eOp2 f ma mb)) :=
  PE.imp (pe_op ho ha hb) (rd2 hs (fun _ _ _ h => h) fun _ _ _ h => h)
theorem dCmp {op : CmpOp} {rr : R2} {f : Op2} (ho : OpR X (compareOp op) rr) (hs : OpS g rr f) (ha : PE X a (rdE g E ma)) (hb : PE X b (rdE g E mb)) (hm : behindInMarks op b = false := by first | exact nomark _ | rfl) : PE X (.Compare a [op] [b] pos) (rdE g E (eOp2 f ma mb)) :=
  PE.imp (pe_cmpR ho ha hb hm) (rd2 hs (fun _ _ _ h => h) fun _ _ _ h => h)
theorem dUn {op : UnaryOp} {rr : V → Hp → VK → Prop} {f : Op1} (ho : UnR X (unaryOp op) rr) (hs : OpS1 g rr f) (ha : PE X a (rdE g E ma)) : PE X (.UnaryOp op a pos) (rdE g E (eOp1 f ma)) := by
  refine PE.imp (pe_un ho ha) fun s H Q h => ?_
  obtain ⟨r, st, F, mu, re, h⟩ := h
  refine ⟨r, st, F, mu, re, OutQ.bind h fun x st1 vx H1 F1 mu1 _ e1 re1 rx h1 => ?_⟩
  cases hf : f st1 x with
  | none => rw [hf] at h1; exact h1.elim
  | some d =>
    rw [hf] at h1
    exact hs H1 F1 mu1 st1 x vx d Q re1.h rx hf fun v H' F' rh' e' rv => h1 v H' F' mu1 (e1.trans e') (re1.step e' rh') rv
/-- a OP b OP' c; the two answers are bools without parts -/
theorem rdChain {rr rr' : R2} {f f' : Op2} (hs : OpS g rr f) (hs' : OpS g rr' f') : ∀ s H Q, rdE g E (eChain f f' ma mb mc) s H Q → tChain rr rr' (rdE g E ma) (rdE g E mb) (rdE g E mc) s H Q := by
  intro s H Q h
  obtain ⟨r, st, F, mu, re, h⟩ := h
  refine ⟨r, st, F, mu, re, OutQ.bind h fun x st1 vx H1 F1 mu1 _ e1 re1 rx h1 => ?_⟩
  refine ⟨r, st1, F1, mu1, re1, OutQ.bind (h1.ext e1) fun y st2 vy H2 F2 mu2 _ e2 re2 ry h2 => ?_⟩
  cases hf : f st2 x y with
  | none => rw [hf] at h2; exact h2.elim
  | some d =>
    rw [hf] at h2
    refine hs H2 F2 mu2 st2 x y vx vy d _ re2.h (rx.ext e2) ry hf fun v H' F' rh' e' rv => ?_
    cases d with
    | bl k =>
      simp only [RepV] at rv
      subst rv
      refine ⟨k, rfl, ?_⟩
      cases k with
      | true =>
        rw [if_pos rfl]
        refine ⟨r, st2, F', mu2, re2.step e' rh', OutQ.bind (h2.ext (e2.trans e')) fun z st3 vz H3 F3 mu3 _ e3 re3 rz h3 => ?_⟩
        cases hf' : f' st3 y z with
        | none => rw [hf'] at h3; exact h3.elim
        | some d' =>
          rw [hf'] at h3
          exact hs' H3 F3 mu3 st3 y z vy vz d' Q re3.h ((ry.ext e').ext e3) rz hf' fun v H4 F4 rh4 e4 rv4 => h3 v H4 F4 mu3 (e3.trans e4) (re3.step e4 rh4) rv4
      | false =>
        rw [if_neg Bool.false_ne_true]
        exact h2 (.bl false) H' F' mu2 (e2.trans e') (re2.step e' rh') (by show RepV g F' mu2 (.bl false) _; simp only [RepV])
    | _ => exact h2.elim
theorem dChain {op op' : CmpOp} {rr rr' : R2} {f f' : Op2} (ho : OpR X (compareOp op) rr) (hs : OpS g rr f) (ho' : OpR X (compareOp op') rr') (hs' : OpS g rr' f') (ha : PE X a (rdE g E ma)) (hb : PE X b (rdE g E mb)) (hc : PE X c (rdE g E mc)) (he : PE X (.Compare a [op, op'] [b, c] pos) (tChain rr rr' (rdE g E ma) (rdE g E mb) (rdE g E mc)) := by first | exact pe_chain ho ho' ha hb hc | exact pe_chain (by assumption) (by assumption) (by assumption) (by assumption) (by assumption)) :
    PE X (.Compare a [op, op'] [b, c] pos) (rdE g E (eChain f f' ma mb mc)) := PE.imp he (rdChain hs hs')

/-! ### and, or, not, if as values -/
theorem dOne {op : BoolOp} (ha : PE X a (rdE g E ma)) : PE X (.BoolOp op [a] pos) (rdE g E ma) := pe_one ha
theorem dAnd {rest : List Expr} (ha : PE X a (rdE g E ma)) (hb : PE X (.BoolOp .And (b :: rest) pos) (rdE g E mb)) : PE X (.BoolOp .And (a :: b :: rest) pos) (rdE g E (eAnd ma mb)) := by
  refine PE.imp (pe_and ha hb) fun s H Q h => ?_
  obtain ⟨r, st, F, mu, re, h⟩ := h
  refine ⟨r, st, F, mu, re, OutQ.bind h fun x st1 vx H1 F1 mu1 _ e1 re1 rx h1 => ?_⟩
  cases x with
  | bor c => exact h1.elim
  | val d =>
    cases d with
    | bl k =>
      simp only [RepX, RepV] at rx
      subst rx
      refine ⟨k, rfl, ?_⟩
      cases k with
      | true => rw [if_pos rfl]; exact ⟨r, st1, F1, mu1, re1, h1.ext e1⟩
      | false => rw [if_neg Bool.false_ne_true]; exact h1 _ H1 F1 mu1 e1 re1 (by simp only [RepX, RepV])
    | _ => exact h1.elim
theorem dOr {rest : List Expr} (ha : PE X a (rdE g E ma)) (hb : PE X (.BoolOp .Or (b :: rest) pos) (rdE g E mb)) : PE X (.BoolOp .Or (a :: b :: rest) pos) (rdE g E (eOr ma mb)) := by
  refine PE.imp (pe_or ha hb) fun s H Q h => ?_
  obtain ⟨r, st, F, mu, re, h⟩ := h
  refine ⟨r, st, F, mu, re, OutQ.bind h fun x st1 vx H1 F1 mu1 _ e1 re1 rx h1 => ?_⟩
  cases x with
  | bor c => exact h1.elim
  | val d =>
    cases d with
    | bl k =>
      simp only [RepX, RepV] at rx
      subst rx
      refine ⟨k, rfl, ?_⟩
      cases k with
      | false => rw [if_neg Bool.false_ne_true]; exact ⟨r, st1, F1, mu1, re1, h1.ext e1⟩
      | true => rw [if_pos rfl]; exact h1 _ H1 F1 mu1 e1 re1 (by simp only [RepX, RepV])
    | _ => exact h1.elim
theorem dNot (ha : PE X a (rdE g E ma)) : PE X (.UnaryOp .Not a pos) (rdE g E (eNot ma)) := by
  refine PE.imp (pe_not ha) fun s H Q h => ?_
  obtain ⟨r, st, F, mu, re, h⟩ := h
  refine ⟨r, st, F, mu, re, OutQ.bind h fun x st1 vx H1 F1 mu1 _ e1 re1 rx h1 => ?_⟩
  cases x with
  | bor c => exact h1.elim
  | val d =>
    cases d with
    | bl k =>
      simp only [RepX, RepV] at rx
      subst rx
      exact ⟨k, rfl, h1 _ H1 F1 mu1 e1 re1 (by simp only [RepX, RepV])⟩
    | _ => exact h1.elim
theorem dIf {t : Expr} {mt : TM} (ht : PT X t (rdT g E mt)) (ha : PE X a (rdE g E ma)) (hb : PE X b (rdE g E mb)) : PE X (.IfExp t a b pos) (rdE g E (eIf mt ma mb)) := by
  refine PE.imp (pe_ifExp ht ha hb) fun s H Q h => ?_
  obtain ⟨r, st, F, mu, re, h⟩ := h
  refine ⟨r, st, F, mu, re, OutQ.bind h fun x st1 vx H1 F1 mu1 _ e1 re1 rx h1 => ?_⟩
  subst rx
  cases x with
  | true => rw [if_pos rfl] at h1 ⊢; exact ⟨r, st1, F1, mu1, re1, h1.ext e1⟩
  | false => rw [if_neg Bool.false_ne_true] at h1 ⊢; exact ⟨r, st1, F1, mu1, re1, h1.ext e1⟩

/-! ### tests -/
theorem dT (ha : PE X a (rdE g E ma)) (he : ∀ whole, isTrue a X.env whole = (do let v ← whole; standAt a.pos; holding [v] (truthy v)) := by intro _; rfl) : PT X a (rdT g E (tE ma)) := by
  refine PT.imp (pt_val ha he) fun s H Q h => ?_
  obtain ⟨r, st, F, mu, re, h⟩ := h
  refine ⟨r, st, F, mu, re, OutQ.bind h fun x st1 vx H1 F1 mu1 _ e1 re1 rx h1 => ?_⟩
  cases x with
  | bor c => exact h1.elim
  | val d =>
    cases d with
    | bl k =>
      simp only [RepX, RepV] at rx
      subst rx
      exact ⟨k, rfl, h1 k H1 F1 mu1 e1 re1 rfl⟩
    | _ => exact h1.elim
/-- a comparison as a test -/
theorem dTc {op : CmpOp} {rr : R2} {f : Op2} (ho : OpR X (compareOp op) rr) (hs : OpS g rr f) (ha : PE X a (rdE g E ma)) (hb : PE X b (rdE g E mb)) (hm : behindInMarks op b = false := by first | exact nomark _ | rfl) : PT X (.Compare a [op] [b] pos) (rdT g E (tE (eOp2 f ma mb))) := by
  refine PT.imp (pt_cmpR ho ha hb hm) fun s H Q h => ?_
  obtain ⟨r, st, F, mu, re, h⟩ := h
  refine rd2 hs (fun _ _ _ h => h) (fun _ _ _ h => h) s H _ ⟨r, st, F, mu, re, OutQ.bind h fun x st1 vx H1 F1 mu1 _ e1 re1 rx h1 => ?_⟩
  cases x with
  | bor c => exact h1.elim
  | val d =>
    cases d with
    | bl k =>
      simp only [RepX, RepV] at rx
      subst rx
      exact ⟨k, rfl, h1 k H1 F1 mu1 e1 re1 rfl⟩
    | _ => exact h1.elim
theorem dTchain {op op' : CmpOp} {rr rr' : R2} {f f' : Op2} (ho : OpR X (compareOp op) rr) (hs : OpS g rr f) (ho' : OpR X (compareOp op') rr') (hs' : OpS g rr' f') (ha : PE X a (rdE g E ma)) (hb : PE X b (rdE g E mb)) (hc : PE X c (rdE g E mc))
    (he : PT X (.Compare a [op, op'] [b, c] pos) (tTest (tChain rr rr' (rdE g E ma) (rdE g E mb) (rdE g E mc))) := by first | exact pt_chain ho ho' ha hb hc | exact pt_chain (by assumption) (by assumption) (by assumption) (by assumption) (by assumption)) :
    PT X (.Compare a [op, op'] [b, c] pos) (rdT g E (tE (eChain f f' ma mb mc))) := by
  refine PT.imp he fun s H Q h => ?_
  obtain ⟨r, st, F, mu, re, h⟩ := h
  refine rdChain hs hs' s H _ ⟨r, st, F, mu, re, OutQ.bind h fun x st1 vx H1 F1 mu1 _ e1 re1 rx h1 => ?_⟩
  cases x with
  | bor c => exact h1.elim
  | val d =>
    cases d with
    | bl k =>
      simp only [RepX, RepV] at rx
      subst rx
      exact ⟨k, rfl, h1 k H1 F1 mu1 e1 re1 rfl⟩
    | _ => exact h1.elim
theorem dTnot {ta : TM} (ha : PT X a (rdT g E ta)) : PT X (.UnaryOp .Not a pos) (rdT g E (tNot ta)) := by
  refine PT.imp (pt_not ha) fun s H Q h => ?_
  obtain ⟨r, st, F, mu, re, h⟩ := h
  refine ⟨r, st, F, mu, re, OutQ.bind h fun x st1 vx H1 F1 mu1 _ e1 re1 rx h1 => ?_⟩
  subst rx
  exact h1 _ H1 F1 mu1 e1 re1 rfl
theorem wAnd1 {ta : TM} (ha : PT X a (rdT g E ta)) : PW X (.BoolOp .And [a] pos) (rdT g E ta) := pw_and1 ha
theorem wOr1 {ta : TM} (ha : PT X a (rdT g E ta)) : PW X (.BoolOp .Or [a] pos) (rdT g E ta) := pw_or1 ha
theorem wAnd {ta tb : TM} {rest : List Expr} (ha : PT X a (rdT g E ta)) (hb : PW X (.BoolOp .And (b :: rest) pos) (rdT g E tb)) : PW X (.BoolOp .And (a :: b :: rest) pos) (rdT g E (Mir.tAnd ta tb)) := by
  refine ⟨fun wh pins s σ H Q I h => (pw_and ha hb).run wh pins s σ H Q I ?_⟩
  obtain ⟨r, st, F, mu, re, h⟩ := h
  refine ⟨r, st, F, mu, re, OutQ.bind h fun x st1 vx H1 F1 mu1 _ e1 re1 rx h1 => ?_⟩
  subst rx
  cases x with
  | true => rw [if_pos rfl] at h1 ⊢; exact ⟨r, st1, F1, mu1, re1, h1.ext e1⟩
  | false => rw [if_neg Bool.false_ne_true] at h1 ⊢; exact h1 _ H1 F1 mu1 e1 re1 rfl
theorem wOr {ta tb : TM} {rest : List Expr} (ha : PT X a (rdT g E ta)) (hb : PW X (.BoolOp .Or (b :: rest) pos) (rdT g E tb)) : PW X (.BoolOp .Or (a :: b :: rest) pos) (rdT g E (Mir.tOr ta tb)) := by
  refine ⟨fun wh pins s σ H Q I h => (pw_or ha hb).run wh pins s σ H Q I ?_⟩
  obtain ⟨r, st, F, mu, re, h⟩ := h
  refine ⟨r, st, F, mu, re, OutQ.bind h fun x st1 vx H1 F1 mu1 _ e1 re1 rx h1 => ?_⟩
  subst rx
  cases x with
  | false => rw [if_neg Bool.false_ne_true] at h1 ⊢; exact ⟨r, st1, F1, mu1, re1, h1.ext e1⟩
  | true => rw [if_pos rfl] at h1 ⊢; exact h1 _ H1 F1 mu1 e1 re1 rfl

/-! ### arguments -/
theorem aN : PA X [] (rdA g E aNil) := by
  refine PA.imp pa_nil fun s H Q h => ?_
  obtain ⟨r, st, F, mu, re, h⟩ := h
  exact h [] H F mu (.refl _ _ _) re rfl
theorem aC (ha : PE X a (rdE g E ma)) (hr : PA X es (rdA g E mas)) (he : PA X (a :: es) (tCons (rdE g E ma) (rdA g E mas)) := by first | exact pa_cons ha hr | exact pa_cons (by assumption) (by assumption)) : PA X (a :: es) (rdA g E (aCons ma mas)) := by
  refine PA.imp he fun s H Q h => ?_
  obtain ⟨r, st, F, mu, re, h⟩ := h
  refine ⟨r, st, F, mu, re, OutQ.bind h fun x st1 vx H1 F1 mu1 _ e1 re1 rx h1 => ?_⟩
  refine ⟨r, st1, F1, mu1, re1, OutQ.bind (h1.ext e1) fun xs st2 vs H2 F2 mu2 _ e2 re2 rxs h2 => ?_⟩
  exact h2 (vx :: vs) H2 F2 mu2 e2 re2 ⟨vx, vs, rfl, rx.ext e2, rxs⟩
end
end
end Mir
/-! E4: operations on data, and why the rules' wants follow. -/
namespace Mir
open PySem PySem.Spec PyProof.Rows L2
theorem lim_line : lim ≤ sizeLine := by decide
section
variable {X : Cx} {g : G}
theorem toS_app (a b : Tx) : toS (a ++ b) = toS a ++ toS b := by
  show (⟨(a ++ b).toArray⟩ : Str) = ⟨a.toArray ++ b.toArray⟩
  simp
theorem sAdd : OpS g (fun x y H Q => (∃ i j, x = V.int i ∧ y = V.int j ∧ Q (V.int (i + j)) H) ∨ (∃ i j, x = V.str i ∧ y = V.str j ∧ i.length + j.length ≤ sizeLine ∧ Q (V.str (i ++ j)) H)) oAdd := by
  refine .flat fun H F mu st x y vx vy d Q rh rx ry e q => ?_
  unfold oAdd at e
  split at e
  · simp only [RepX, RepV] at rx ry
    cases e
    exact .inl ⟨_, _, rx, ry, q _ (by simp only [RepV])⟩
  · simp only [RepX, RepV] at rx ry
    split at e
    · rename_i a b h
      cases e
      refine .inr ⟨_, _, rx, ry, ?_, q _ (by simp only [RepV]; rw [toS_app])⟩
      have := lim_line
      rw [toS_len, toS_len]
      omega
    · cases e
  · cases e
theorem rAdd : OpR X (binaryOp .Add) (fun x y H Q => (∃ i j, x = V.int i ∧ y = V.int j ∧ Q (V.int (i + j)) H) ∨ (∃ i j, x = V.str i ∧ y = V.str j ∧ i.length + j.length ≤ sizeLine ∧ Q (V.str (i ++ j)) H)) := OpR.or op_add op_add_str
theorem sInt {f : Int → Int → V} {h : Int → Int → D} {C : Int → Int → Prop} {o : Op2} (ho : ∀ st x y d, o st x y = some d → ∃ i j, x = .val (.int i) ∧ y = .val (.int j) ∧ C i j ∧ d = h i j) (hr : ∀ i j F mu v, RepV g F mu (h i j) v ↔ v = f i j) : OpS g (rI C f) o := by
  refine .flat fun H F mu st x y vx vy d Q rh rx ry e q => ?_
  obtain ⟨i, j, rfl, rfl, c, rfl⟩ := ho _ _ _ _ e
  simp only [RepX, RepV] at rx ry
  exact ⟨i, j, rx, ry, c, q _ ((hr _ _ _ _ _).mpr rfl)⟩
theorem sInt0 {f : Int → Int → V} {h : Int → Int → D} {o : Op2} (ho : ∀ st x y d, o st x y = some d → ∃ i j, x = .val (.int i) ∧ y = .val (.int j) ∧ d = h i j) (hr : ∀ i j F mu v, RepV g F mu (h i j) v ↔ v = f i j) : OpS g (rI0 f) o := by
  refine .flat fun H F mu st x y vx vy d Q rh rx ry e q => ?_
  obtain ⟨i, j, rfl, rfl, rfl⟩ := ho _ _ _ _ e
  simp only [RepX, RepV] at rx ry
  exact ⟨i, j, rx, ry, q _ ((hr _ _ _ _ _).mpr rfl)⟩
theorem sSub : OpS g (rI0 fun i j => .int (i - j)) oSub := sInt0 (h := fun i j => .int (i - j)) (fun st x y d e => by unfold oSub at e; split at e <;> cases e; exact ⟨_, _, rfl, rfl, rfl⟩) fun _ _ _ _ _ => by simp only [RepV]
theorem sMul : OpS g (rI CMul fun i j => .int (i * j)) oMul := sInt (h := fun i j => .int (i * j)) (fun st x y d e => by
  unfold oMul at e
  split at e
  · split at e
    · rename_i i j h
      cases e
      refine ⟨_, _, rfl, rfl, ?_, rfl⟩
      simp only [small64, Bool.and_eq_true, decide_eq_true_eq] at h
      exact h
    · cases e
  · cases e) fun _ _ _ _ _ => by simp only [RepV]
theorem sFdiv : OpS g (rI CDiv fun i j => .int (i / j)) oFdiv := sInt (h := fun i j => .int (i / j)) (fun st x y d e => by
  unfold oFdiv at e
  split at e
  · split at e
    · cases e
      exact ⟨_, _, rfl, rfl, by assumption, rfl⟩
    · cases e
  · cases e) fun _ _ _ _ _ => by simp only [RepV]
theorem sMod : OpS g (rI (fun _ j => 0 < j) fun i j => .int (i % j)) oMod := sInt (h := fun i j => .int (i % j)) (fun st x y d e => by
  unfold oMod at e
  split at e
  · split at e
    · cases e
      exact ⟨_, _, rfl, rfl, by assumption, rfl⟩
    · cases e
  · cases e) fun _ _ _ _ _ => by simp only [RepV]
theorem sPow : OpS g (rI CPow fun i j => .int (i ^ j.toNat)) oPow := sInt (h := fun i j => .int (i ^ j.toNat)) (fun st x y d e => by
  unfold oPow at e
  split at e
  · split at e
    · rename_i h
      cases e
      exact ⟨_, _, rfl, rfl, ⟨h.1, by omega, h.2.2⟩, rfl⟩
    · cases e
  · cases e) fun _ _ _ _ _ => by simp only [RepV]
theorem sShl : OpS g (rI CPow fun i j => .int (i * 2 ^ j.toNat)) oShl := sInt (h := fun i j => .int (i * 2 ^ j.toNat)) (fun st x y d e => by
  unfold oShl at e
  split at e
  · split at e
    · rename_i h
      cases e
      exact ⟨_, _, rfl, rfl, ⟨h.1, by omega, h.2.2⟩, rfl⟩
    · cases e
  · cases e) fun _ _ _ _ _ => by simp only [RepV]
theorem sNeg : OpS1 g (rU fun i => .int (-i)) oNeg := by
  refine .flat fun H F mu st x vx d Q rh rx e q => ?_
  unfold oNeg at e
  split at e
  · simp only [RepX, RepV] at rx
    cases e
    exact ⟨_, rx, q _ (by simp only [RepV])⟩
  · cases e
theorem sCmp {p : Int → Int → Bool} : OpS g (rI0 fun i j => .bl (p i j)) (oCmp p) := sInt0 (h := fun i j => .bl (p i j)) (fun st x y d e => by unfold oCmp at e; split at e <;> cases e; exact ⟨_, _, rfl, rfl, rfl⟩) fun _ _ _ _ _ => by simp only [RepV]
theorem sLt : OpS g (rI0 fun i j => .bl (decide (i < j))) oLt := sCmp
theorem sLe : OpS g (rI0 fun i j => .bl (decide (i ≤ j))) oLe := sCmp
theorem sGt : OpS g (rI0 fun i j => .bl (decide (j < i))) oGt := sCmp
theorem sGe : OpS g (rI0 fun i j => .bl (decide (j ≤ i))) oGe := sCmp
theorem sIsN : OpS g (fun x y H Q => y = .non ∧ Q (.bl (decide (x = .non))) H) oIsN := by
  refine .flat fun H F mu st x y vx vy d Q rh rx ry e q => ?_
  unfold oIsN at e
  split at e
  · rename_i d'
    simp only [RepX, RepV] at ry
    cases e
    refine ⟨ry, q _ ?_⟩
    simp only [RepV]
    cases d' <;> simp only [RepX, RepV] at rx <;> (try (subst rx; rfl)) <;> (try exact rx.elim)
    all_goals (obtain ⟨p, hp⟩ := rx; first | (obtain ⟨h1, h2⟩ := hp; subst h2; rfl) | (obtain ⟨h1, h2⟩ := hp; subst h1; rfl) | (obtain ⟨h0, h1, h2⟩ := hp; subst h1; rfl) | (obtain ⟨h0, h3, h4, h1, h2⟩ := hp; obtain ⟨h5, h6⟩ := h2; subst h5; rfl) | (obtain ⟨a1, a2, a3, a4, a5, a6⟩ := hp; subst a5; rfl))
  · simp only [RepX, RepV] at ry
    cases e
    obtain ⟨a, h1, _⟩ := rx
    subst h1
    exact ⟨ry, q _ (by simp only [RepV]; rfl)⟩
  · cases e
theorem sNotN : OpS g (fun x y H Q => y = .non ∧ Q (.bl (!decide (x = .non))) H) oNotN := by
  refine .flat fun H F mu st x y vx vy d Q rh rx ry e q => ?_
  unfold oNotN at e
  split at e
  · rename_i d'
    simp only [RepX, RepV] at ry
    cases e
    refine ⟨ry, q _ ?_⟩
    simp only [RepV]
    cases d' <;> simp only [RepX, RepV] at rx <;> (try (subst rx; rfl)) <;> (try exact rx.elim)
    all_goals (obtain ⟨p, hp⟩ := rx; first | (obtain ⟨h1, h2⟩ := hp; subst h2; rfl) | (obtain ⟨h1, h2⟩ := hp; subst h1; rfl) | (obtain ⟨h0, h1, h2⟩ := hp; subst h1; rfl) | (obtain ⟨h0, h3, h4, h1, h2⟩ := hp; obtain ⟨h5, h6⟩ := h2; subst h5; rfl) | (obtain ⟨a1, a2, a3, a4, a5, a6⟩ := hp; subst a5; rfl))
  · simp only [RepX, RepV] at ry
    cases e
    obtain ⟨a, h1, _⟩ := rx
    subst h1
    exact ⟨ry, q _ (by simp only [RepV]; rfl)⟩
  · cases e

/-! ### == of data -/
mutual
def toP : D → PyData
  | .bl b => .bool b
  | .int i => .int i
  | .str x => .str (toS x)
  | .lst xs => .list (toPs xs)
  | .tup xs => .tuple (toPs xs)
  | .ktp xs => .tuple (toPs xs)
  | _ => .none
def toPs : List D → List PyData
  | [] => []
  | x :: xs => toP x :: toPs xs
end
mutual
theorem shap_lay : ∀ (k : Nat) (d : D), shap k d = true → PyData.canLay0 (toP d) = true ∧ PyData.depth (toP d) ≤ k
  | k, .non, _ => by cases k <;> simp [toP, PyData.canLay0, PyData.depth]
  | k, .bl _, _ => by cases k <;> simp [toP, PyData.canLay0, PyData.depth]
  | k, .int _, _ => by cases k <;> simp [toP, PyData.canLay0, PyData.depth]
  | k, .str x, h => by
    have h' : (x.all fun c => decide (c < 1114112)) = true := by cases k <;> simpa [shap] using h
    refine ⟨?_, by simp [toP, PyData.depth]⟩
    simp only [toP, PyData.canLay0, PyData.strOk, toS]
    simpa using h'
  | 0, .lst _, h => by simp [shap] at h
  | 0, .tup _, h => by simp [shap] at h
  | 0, .ktp _, h => by simp [shap] at h
  | k + 1, .ktp xs, h => by
    simp only [shap, Bool.and_eq_true] at h
    have := shapL_lay k xs h.2
    simp only [toP, PyData.canLay0, PyData.depth]
    exact ⟨this.1, by omega⟩
  | k + 1, .lst xs, h => by
    simp only [shap, Bool.and_eq_true] at h
    have := shapL_lay k xs h.2
    simp only [toP, PyData.canLay0, PyData.depth]
    exact ⟨this.1, by omega⟩
  | k + 1, .tup xs, h => by
    simp only [shap, Bool.and_eq_true] at h
    have := shapL_lay k xs h.2
    simp only [toP, PyData.canLay0, PyData.depth]
    exact ⟨this.1, by omega⟩
  | k, .ref _, h => by cases k <;> simp [shap] at h
  | k, .dct _ _, h => by cases k <;> simp [shap] at h
  | k, .obj _ _, h => by cases k <;> simp [shap] at h
  | k, .lam _, h => by cases k <;> simp [shap] at h
  | k, .scr _, h => by cases k <;> simp [shap] at h
theorem shapL_lay : ∀ (k : Nat) (xs : List D), shapL k xs = true → PyData.canLayAll0 (toPs xs) = true ∧ PyData.depthAll (toPs xs) ≤ k
  | _, [], _ => by simp [toPs, PyData.canLayAll0, PyData.depthAll]
  | k, x :: xs, h => by
    simp only [shapL, Bool.and_eq_true] at h
    have h1 := shap_lay k x h.1
    have h2 := shapL_lay k xs h.2
    simp only [toPs, PyData.canLayAll0, PyData.depthAll, Bool.and_eq_true]
    exact ⟨⟨h1.1, h2.1⟩, by omega⟩
end
theorem shap_shaped {d : D} (h : shap 20 d = true) : SeqAt.shaped (toP d) = true := by
  have := shap_lay 20 d h
  simp only [SeqAt.shaped, Bool.and_eq_true, decide_eq_true_eq]
  exact ⟨this.1, by omega⟩
theorem toS_beq (x y : Tx) : (toS x == toS y) = (x == y) := by
  by_cases h : x = y
  · subst h; simp
  · have : ¬ toS x = toS y := fun z => h (toS_inj z)
    rw [beq_eq_false_iff_ne.mpr h, beq_eq_false_iff_ne.mpr this]
mutual
theorem eqv_toP : ∀ (j k : Nat) (a b : D), shap j a = true → shap k b = true → PyData.eqv (toP a) (toP b) = eqv a b
  | j, k, .non, b, _, h => by cases b <;> (try (cases k <;> simp [shap] at h)) <;> simp [toP, PyData.eqv, eqv]
  | j, k, .bl _, b, _, h => by cases b <;> (try (cases k <;> simp [shap] at h)) <;> simp [toP, PyData.eqv, eqv]
  | j, k, .int _, b, _, h => by cases b <;> (try (cases k <;> simp [shap] at h)) <;> simp [toP, PyData.eqv, eqv]
  | j, k, .str x, b, _, h => by cases b <;> (try (cases k <;> simp [shap] at h)) <;> simp [toP, PyData.eqv, eqv, toS_beq]
  | 0, _, .lst _, _, h, _ => by simp [shap] at h
  | 0, _, .tup _, _, h, _ => by simp [shap] at h
  | 0, _, .ktp _, _, h, _ => by simp [shap] at h
  | j + 1, k, .lst xs, b, h1, h => by
    simp only [shap, Bool.and_eq_true] at h1
    cases b with
    | lst ys =>
      cases k with
      | zero => simp [shap] at h
      | succ k =>
        simp only [shap, Bool.and_eq_true] at h
        simp only [toP, PyData.eqv, eqv]
        exact eqvL_toP j k xs ys h1.2 h.2
    | _ => (try (cases k <;> simp [shap] at h)) <;> simp [toP, PyData.eqv, eqv]
  | j + 1, k, .tup xs, b, h1, h => by
    simp only [shap, Bool.and_eq_true] at h1
    cases b with
    | tup ys =>
      cases k with
      | zero => simp [shap] at h
      | succ k =>
        simp only [shap, Bool.and_eq_true] at h
        simp only [toP, PyData.eqv, eqv]
        exact eqvL_toP j k xs ys h1.2 h.2
    | ktp ys =>
      cases k with
      | zero => simp [shap] at h
      | succ k =>
        simp only [shap, Bool.and_eq_true] at h
        simp only [toP, PyData.eqv, eqv]
        exact eqvL_toP j k xs ys h1.2 h.2
    | _ => (try (cases k <;> simp [shap] at h)) <;> simp [toP, PyData.eqv, eqv]
  | j + 1, k, .ktp xs, b, h1, h => by
    simp only [shap, Bool.and_eq_true] at h1
    cases b with
    | tup ys =>
      cases k with
      | zero => simp [shap] at h
      | succ k =>
        simp only [shap, Bool.and_eq_true] at h
        simp only [toP, PyData.eqv, eqv]
        exact eqvL_toP j k xs ys h1.2 h.2
    | ktp ys =>
      cases k with
      | zero => simp [shap] at h
      | succ k =>
        simp only [shap, Bool.and_eq_true] at h
        simp only [toP, PyData.eqv, eqv]
        exact eqvL_toP j k xs ys h1.2 h.2
    | _ => (try (cases k <;> simp [shap] at h)) <;> simp [toP, PyData.eqv, eqv]
  | j, _, .ref _, _, h, _ => by cases j <;> simp [shap] at h
  | j, _, .dct _ _, _, h, _ => by cases j <;> simp [shap] at h
  | j, _, .obj _ _, _, h, _ => by cases j <;> simp [shap] at h
  | j, _, .lam _, _, h, _ => by cases j <;> simp [shap] at h
  | j, _, .scr _, _, h, _ => by cases j <;> simp [shap] at h
theorem eqvL_toP : ∀ (j k : Nat) (a b : List D), shapL j a = true → shapL k b = true → PyData.eqvAll (toPs a) (toPs b) = eqvL a b
  | _, _, [], [], _, _ => by simp [toPs, PyData.eqvAll, eqvL]
  | _, _, [], _ :: _, _, _ => by simp [toPs, PyData.eqvAll, eqvL]
  | _, _, _ :: _, [], _, _ => by simp [toPs, PyData.eqvAll, eqvL]
  | j, k, x :: xs, y :: ys, h1, h2 => by
    simp only [shapL, Bool.and_eq_true] at h1 h2
    simp only [toPs, PyData.eqvAll, eqvL]
    rw [eqv_toP j k x y h1.1 h2.1, eqvL_toP j k xs ys h1.2 h2.2]
end
mutual
theorem dp_of {H F : Hp} {mu : List Addr} {st : Mir.St} (rh : RH g H F mu st) : ∀ (k : Nat) (d : D) (v : V), shap k d = true → RepV g F mu d v → Dp g.K H v (toP d)
  | _, .non, v, _, r => by simp only [RepV] at r; subst r; exact .non
  | _, .bl b, v, _, r => by simp only [RepV] at r; subst r; simp only [toP]; exact .bl b
  | _, .int b, v, _, r => by simp only [RepV] at r; subst r; simp only [toP]; exact .int b
  | _, .str b, v, _, r => by simp only [RepV] at r; subst r; simp only [toP]; exact .str _
  | 0, .lst _, _, h, _ => by simp [shap] at h
  | 0, .tup _, _, h, _ => by simp [shap] at h
  | 0, .ktp _, _, h, _ => by simp [shap] at h
  | k + 1, .ktp xs, v, h, r => by
    simp only [shap, Bool.and_eq_true] at h
    simp only [RepV] at r
    obtain ⟨p, vs, rfl, h1, h2⟩ := r
    simp only [toP]
    exact .tup h1.seq (dps_of rh k xs vs h.2 h2)
  | k + 1, .lst xs, v, h, r => by
    simp only [shap, Bool.and_eq_true] at h
    simp only [RepV] at r
    obtain ⟨p, vs, rfl, h1, h2⟩ := r
    simp only [toP]
    exact .lst (SqL.of (rh.lst h1)) (dps_of rh k xs vs h.2 h2)
  | k + 1, .tup xs, v, h, r => by
    simp only [shap, Bool.and_eq_true] at h
    simp only [RepV] at r
    obtain ⟨p, vs, rfl, h1, h2⟩ := r
    simp only [toP]
    exact .tup (rh.seqT h1) (dps_of rh k xs vs h.2 h2)
  | j, .ref _, _, h, _ => by cases j <;> simp [shap] at h
  | j, .dct _ _, _, h, _ => by cases j <;> simp [shap] at h
  | j, .obj _ _, _, h, _ => by cases j <;> simp [shap] at h
  | j, .lam _, _, h, _ => by cases j <;> simp [shap] at h
  | j, .scr _, _, h, _ => by cases j <;> simp [shap] at h
theorem dps_of {H F : Hp} {mu : List Addr} {st : Mir.St} (rh : RH g H F mu st) : ∀ (k : Nat) (ds : List D) (vs : List V), shapL k ds = true → RepL g F mu ds vs → DpAll g.K H vs (toPs ds)
  | _, [], vs, _, r => by simp only [RepL] at r; subst r; exact .nil
  | k, d :: ds, vs, h, r => by
    simp only [shapL, Bool.and_eq_true] at h
    simp only [RepL] at r
    obtain ⟨v, rest, rfl, r1, r2⟩ := r
    simp only [toPs]
    exact .cons (dp_of rh k d v h.1 r1) (dps_of rh k ds rest h.2 r2)
end
/-- a list to be read: its items -/
theorem listOf_rep {H F : Hp} {mu : List Addr} {st : Mir.St} (rh : RH g H F mu st) {o : Opd} {v : V} {ds : List D} (r : RepX g H F mu o v) (h : listOf st o = some ds) : ∃ p vs, v = .ref p ∧ H p = some (.lst vs) ∧ RepL g F mu ds vs := by
  unfold listOf at h
  split at h
  · cases h
    simp only [RepX, RepV] at r
    obtain ⟨p, vs, rfl, h1, h2⟩ := r
    exact ⟨p, vs, rfl, rh.lst h1, h2⟩
  · rename_i n
    split at h
    · rename_i xs hn
      cases h
      simp only [RepX, RepV] at r
      obtain ⟨a, h1, rfl⟩ := r
      obtain ⟨a', h2, _, h3⟩ := rh.cel _ _ hn
      rw [h1] at h2
      cases h2
      obtain ⟨vs, h4, h5⟩ := h3
      exact ⟨a, vs, rfl, h4, h5⟩
    · cases h
  · cases h
    obtain ⟨a, rfl, _, _, vs, h4, h5⟩ := r
    exact ⟨a, vs, rfl, h4, h5⟩
  · cases h
theorem seqOf_rep {H F : Hp} {mu : List Addr} {st : Mir.St} (rh : RH g H F mu st) {o : Opd} {v : V} {ds : List D} (r : RepX g H F mu o v) (h : seqOf st o = some ds) : ∃ p vs, v = .ref p ∧ (SqL g.K H p vs ∨ SqT g.K H p vs) ∧ RepL g F mu ds vs := by
  unfold seqOf at h
  split at h
  · cases h
    simp only [RepX, RepV] at r
    obtain ⟨p, vs, rfl, h1, h2⟩ := r
    exact ⟨p, vs, rfl, .inr (rh.seqT h1), h2⟩
  · cases h
    simp only [RepX, RepV] at r
    obtain ⟨p, vs, rfl, h1, h2⟩ := r
    exact ⟨p, vs, rfl, .inr h1.seq, h2⟩
  · obtain ⟨p, vs, h1, h2, h3⟩ := listOf_rep rh r h
    exact ⟨p, vs, h1, .inl (SqL.of h2), h3⟩
theorem look_rep {H F : Hp} {mu : List Addr} {st : Mir.St} (rh : RH g H F mu st) {o : Opd} {v : V} {d : D} (r : RepX g H F mu o v) (h : look st o = some d) (hs : shap 20 d = true) : Dp g.K H v (toP d) := by
  unfold look at h
  split at h
  · rename_i n
    split at h
    · rename_i xs hn
      cases h
      obtain ⟨p, vs, rfl, h1, h2⟩ := listOf_rep rh r (show listOf st (.val (.ref n)) = some xs by simp only [listOf, hn])
      simp only [shap, Bool.and_eq_true] at hs
      simp only [toP]
      exact .lst (SqL.of h1) (dps_of rh _ xs vs hs.2 h2)
    · cases h
  · cases h
    exact dp_of rh _ _ _ hs r
  · rename_i xs
    cases h
    obtain ⟨p, vs, rfl, h1, h2⟩ := listOf_rep rh r (show listOf st (.bor (.lst xs)) = some xs from rfl)
    simp only [shap, Bool.and_eq_true] at hs
    simp only [toP]
    exact .lst (SqL.of h1) (dps_of rh _ xs vs hs.2 h2)
  · cases h
theorem scal_rep {H F : Hp} {mu : List Addr} {st : Mir.St} {x y : Opd} {vx vy : V} {a b : D} (rx : RepX g H F mu x vx) (ry : RepX g H F mu y vy) (hx : look st x = some a) (hy : look st y = some b) (hs : scalD a b = true) : scal vx vy = true ∧ decide (vx = vy) = decide (a = b) := by
  have key : ∀ {o : Opd} {v : V} {d : D}, RepX g H F mu o v → look st o = some d → (match d with | .non => v = .non | .bl k => v = .bl k | .int k => v = .int k | .str k => v = .str (toS k) | _ => True) := by
    intro o v d r h
    unfold look at h
    split at h
    · split at h
      · cases h; trivial
      · cases h
    · cases h
      cases d <;> simp only [RepX, RepV] at r <;> first | exact r | trivial
    · cases h; trivial
    · cases h
  have kx := key rx hx
  have ky := key ry hy
  cases a <;> cases b <;> simp only [scalD] at hs <;> (try (exact absurd hs (by decide))) <;> simp only at kx ky <;> subst kx <;> subst ky <;> refine ⟨rfl, ?_⟩ <;> (try rfl)
  all_goals simp only [V.bl.injEq, V.int.injEq, V.str.injEq, D.bl.injEq, D.int.injEq, D.str.injEq]
  rename_i p q
  by_cases e : p = q
  · subst e; simp
  · rw [decide_eq_false e, decide_eq_false fun z => e (toS_inj z)]
theorem sEq : OpS g (fun x y H Q => rEq x y H Q ∨ rEqD g.K x y H Q) oEq := by
  refine .flat fun H F mu st x y vx vy d Q rh rx ry e q => ?_
  simp only [oEq, eqD, Option.map_eq_some_iff] at e
  obtain ⟨k, e, rfl⟩ := e
  split at e
  · rename_i a b ha hb
    split at e
    · rename_i hs
      cases e
      obtain ⟨h1, h2⟩ := scal_rep rx ry ha hb hs
      exact .inl ⟨h1, q _ (by simp only [RepV]; rw [h2])⟩
    · split at e
      · rename_i hs
        cases e
        exact .inr ⟨_, _, look_rep rh rx ha hs.1, look_rep rh ry hb hs.2, shap_shaped hs.1, shap_shaped hs.2, q _ (by simp only [RepV]; rw [eqv_toP _ _ a b hs.1 hs.2])⟩
      · cases e
  · cases e
theorem sNe : OpS g (fun x y H Q => rNe x y H Q ∨ rNeD g.K x y H Q) oNe := by
  refine .flat fun H F mu st x y vx vy d Q rh rx ry e q => ?_
  simp only [oNe, eqD, Option.map_eq_some_iff] at e
  obtain ⟨k, e, rfl⟩ := e
  split at e
  · rename_i a b ha hb
    split at e
    · rename_i hs
      cases e
      obtain ⟨h1, h2⟩ := scal_rep rx ry ha hb hs
      exact .inl ⟨h1, q _ (by simp only [RepV]; rw [h2])⟩
    · split at e
      · rename_i hs
        cases e
        exact .inr ⟨_, _, look_rep rh rx ha hs.1, look_rep rh ry hb hs.2, shap_shaped hs.1, shap_shaped hs.2, q _ (by simp only [RepV]; rw [eqv_toP _ _ a b hs.1 hs.2])⟩
      · cases e
  · cases e
theorem rEqAll (hu : X.A.units + 64 < cLine) : OpR X (compareOp .Eq) (fun x y H Q => rEq x y H Q ∨ rEqD X.K x y H Q) := OpR.or op_eq (op_eqD hu)
theorem rNeAll (hu : X.A.units + 64 < cLine) : OpR X (compareOp .NotEq) (fun x y H Q => rNe x y H Q ∨ rNeD X.K x y H Q) := OpR.or op_ne (op_neD hu)

/-! ### places -/
theorem atD_rep {F : Hp} {mu : List Addr} {ds : List D} {vs : List V} {i : Int} {d : D} (r : RepL g F mu ds vs) (h : atD ds i = some d) : ∃ v, atI vs i = some v ∧ RepV g F mu d v := by
  have hl := r.length
  unfold atD at h
  cases hj : ixD ds.length i with
  | none => rw [hj] at h; cases h
  | some j =>
    rw [hj] at h
    obtain ⟨v, h1, h2⟩ := r.get (i := j) (show ds[j]? = some d from h)
    refine ⟨v, ?_, h2⟩
    unfold atI
    have e : L2.ixN vs.length i = some j := by
      rw [← hl, ← hj]
      unfold L2.ixN ixD
      split
      · rfl
      · by_cases hq : 0 ≤ (ds.length : Int) + i
        · rw [if_pos hq, if_pos (by omega), Int.add_comm]
        · rw [if_neg hq, if_neg (by omega)]
    rw [e]
    exact h1
theorem atD_str {x : Tx} {i : Int} {c : Nat} (h : atD x i = some c) : atI (toS x).cps.toList i = some c := by
  rw [toS_list]
  unfold atD at h
  unfold atI
  have e : L2.ixN x.length i = ixD x.length i := by
    unfold L2.ixN ixD
    split
    · rfl
    · by_cases hq : 0 ≤ (x.length : Int) + i
      · rw [if_pos hq, if_pos (by omega), Int.add_comm]
      · rw [if_neg hq, if_neg (by omega)]
  rw [e]
  exact h
theorem sIx : OpS g (rIx g.K) oIx := by
  refine .flat fun H F mu st x y vx vy d Q rh rx ry e q => ?_
  unfold oIx at e
  split at e
  · rename_i i
    simp only [RepX, RepV] at ry
    split at e
    · rename_i z
      split at e
      · rename_i hz
        simp only [Option.map_eq_some_iff] at e
        obtain ⟨c, hc, rfl⟩ := e
        simp only [RepX, RepV] at rx
        have := lim_line
        exact .inr (.inr ⟨_, i, c, rx, ry, by rw [toS_len]; omega, atD_str hc, q _ (by simp only [RepV]; rfl)⟩)
      · cases e
    · cases hsq : seqOf st x with
      | none => rw [hsq] at e; cases e
      | some ds =>
        rw [hsq] at e
        obtain ⟨p, vs, rfl, h1, h2⟩ := seqOf_rep rh rx hsq
        obtain ⟨v, h3, h4⟩ := atD_rep h2 (show atD ds i = some d from e)
        rcases h1 with h1 | h1
        · exact .inl ⟨p, vs, i, v, rfl, ry, h1, h3, q _ h4⟩
        · exact .inr (.inl ⟨p, vs, i, v, rfl, ry, h1, h3, q _ h4⟩)
  · cases e
theorem repxs1 {H F : Hp} {mu : List Addr} {x : Opd} {vs : List V} (r : RepXs g H F mu [x] vs) : ∃ v, vs = [v] ∧ RepX g H F mu x v := by
  obtain ⟨v, r', rfl, h1, h2⟩ := r
  have h2 : r' = [] := h2
  subst h2
  exact ⟨v, rfl, h1⟩
theorem repxs2 {H F : Hp} {mu : List Addr} {x y : Opd} {vs : List V} (r : RepXs g H F mu [x, y] vs) : ∃ v w, vs = [v, w] ∧ RepX g H F mu x v ∧ RepX g H F mu y w := by
  obtain ⟨v, r', rfl, h1, h2⟩ := r
  obtain ⟨w, rfl, h3⟩ := repxs1 h2
  exact ⟨v, w, rfl, h1, h3⟩
theorem sLen : OpSN g (fun xs H Q => ∃ x n, xs = [x] ∧ LenV g.K x H n ∧ Q (.int n) H) oLen := by
  refine .flat fun H F mu st xs vs d Q rh rx e q => ?_
  unfold oLen at e
  split at e
  · rename_i z
    split at e
    · rename_i hz
      cases e
      obtain ⟨v, rfl, r1⟩ := repxs1 rx
      simp only [RepX, RepV] at r1
      subst r1
      have := lim_line
      exact ⟨_, z.length, rfl, ⟨by rw [toS_len]; omega, by rw [toS_len]⟩, q _ (by simp only [RepV])⟩
    · cases e
  · obtain ⟨v, rfl, r1⟩ := repxs1 rx
    split at e
    · rename_i ys hy
      cases e
      obtain ⟨p, us, rfl, h1, h2⟩ := seqOf_rep rh r1 hy
      refine ⟨_, ys.length, rfl, ?_, q _ (by simp only [RepV])⟩
      rcases h1 with h1 | h1
      · exact .inl ⟨us, h1, h2.length⟩
      · exact .inr ⟨us, h1, h2.length⟩
    · cases e
  · cases e
theorem sAbs : OpSN g (fun xs H Q => ∃ i, xs = [.int i] ∧ Q (.int (if i < 0 then -i else i)) H) oAbs := by
  refine .flat fun H F mu st xs vs d Q rh rx e q => ?_
  unfold oAbs at e
  split at e
  · cases e
    obtain ⟨v, rfl, r1⟩ := repxs1 rx
    simp only [RepX, RepV] at r1
    subst r1
    exact ⟨_, rfl, q _ (by simp only [RepV])⟩
  · cases e
theorem sMax2 : OpSN g (fun xs H Q => ∃ i j, xs = [.int i, .int j] ∧ Q (.int (if j > i then j else i)) H) oMax2 := by
  refine .flat fun H F mu st xs vs d Q rh rx e q => ?_
  unfold oMax2 at e
  split at e
  · cases e
    obtain ⟨v, w, rfl, r1, r2⟩ := repxs2 rx
    simp only [RepX, RepV] at r1 r2
    subst r1 r2
    exact ⟨_, _, rfl, q _ (by simp only [RepV])⟩
  · cases e
theorem sMin2 : OpSN g (fun xs H Q => ∃ i j, xs = [.int i, .int j] ∧ Q (.int (if j < i then j else i)) H) oMin2 := by
  refine .flat fun H F mu st xs vs d Q rh rx e q => ?_
  unfold oMin2 at e
  split at e
  · cases e
    obtain ⟨v, w, rfl, r1, r2⟩ := repxs2 rx
    simp only [RepX, RepV] at r1 r2
    subst r1 r2
    exact ⟨_, _, rfl, q _ (by simp only [RepV])⟩
  · cases e
theorem sIntB : OpSN g (fun xs H Q => (∃ i, xs = [.int i] ∧ Q (.int i) H) ∨ ∃ k, xs = [.bl k] ∧ Q (.int (if k then 1 else 0)) H) oInt := by
  refine .flat fun H F mu st xs vs d Q rh rx e q => ?_
  unfold oInt at e
  split at e
  · cases e
    obtain ⟨v, rfl, r1⟩ := repxs1 rx
    simp only [RepX, RepV] at r1
    subst r1
    exact .inl ⟨_, rfl, q _ (by simp only [RepV])⟩
  · cases e
    obtain ⟨v, rfl, r1⟩ := repxs1 rx
    simp only [RepX, RepV] at r1
    subst r1
    exact .inr ⟨_, rfl, q _ (by simp only [RepV])⟩
  · cases e
theorem intsOf_rep {F : Hp} {mu : List Addr} : ∀ {ds : List D} {vs : List V} {ns : List Int}, RepL g F mu ds vs → intsOf ds = some ns → vs = ns.map V.int
  | [], vs, ns, r, e => by
    simp only [RepL] at r
    cases e
    rw [r]
    rfl
  | .int i :: ds, vs, ns, r, e => by
    simp only [RepL, RepV] at r
    obtain ⟨v, r', rfl, rfl, h3⟩ := r
    simp only [intsOf, Option.map_eq_some_iff] at e
    obtain ⟨ms, e1, rfl⟩ := e
    rw [intsOf_rep h3 e1]
    rfl
  | .non :: _, _, _, _, e => by simp [intsOf] at e
  | .bl _ :: _, _, _, _, e => by simp [intsOf] at e
  | .str _ :: _, _, _, _, e => by simp [intsOf] at e
  | .ref _ :: _, _, _, _, e => by simp [intsOf] at e
  | .tup _ :: _, _, _, _, e => by simp [intsOf] at e
  | .lst _ :: _, _, _, _, e => by simp [intsOf] at e
  | .dct _ _ :: _, _, _, _, e => by simp [intsOf] at e
  | .obj _ _ :: _, _, _, _, e => by simp [intsOf] at e
  | .lam _ :: _, _, _, _, e => by simp [intsOf] at e
  | .scr _ :: _, _, _, _, e => by simp [intsOf] at e
  | .ktp _ :: _, _, _, _, e => by simp [intsOf] at e
theorem sSum : OpSN g (rSum g.K) oSum := by
  refine .flat fun H F mu st xs vs d Q rh rx e q => ?_
  unfold oSum at e
  split at e
  · obtain ⟨v, rfl, r1⟩ := repxs1 rx
    split at e
    · rename_i ds hd
      simp only [Option.map_eq_some_iff] at e
      obtain ⟨ns, e1, rfl⟩ := e
      obtain ⟨p, us, rfl, h1, h2⟩ := listOf_rep rh r1 hd
      have := intsOf_rep h2 e1
      subst this
      exact ⟨p, ns, rfl, SqL.of h1, q _ (by simp only [RepV])⟩
    · cases e
  · cases e
theorem sMaxL : OpSN g (rMax g.K) oMaxL := by
  refine .flat fun H F mu st xs vs d Q rh rx e q => ?_
  unfold oMaxL at e
  split at e
  · obtain ⟨v, rfl, r1⟩ := repxs1 rx
    split at e
    · rename_i ds hd
      simp only [Option.bind_eq_some_iff] at e
      obtain ⟨ns, e1, e2⟩ := e
      split at e2
      · cases e2
      · rename_i hne
        cases e2
        obtain ⟨p, us, rfl, h1, h2⟩ := listOf_rep rh r1 hd
        have := intsOf_rep h2 e1
        subst this
        refine ⟨p, ns, rfl, SqL.of h1, by cases ns <;> simp at hne ⊢, fun m hm hall => ?_⟩
        have a1 := hall _ (maxI_mem hne)
        have a2 := maxI_le hm
        have : m = maxI ns := by omega
        subst this
        exact q _ (by simp only [RepV])
    · cases e
  · cases e
theorem sMinL : OpSN g (rMin g.K) oMinL := by
  refine .flat fun H F mu st xs vs d Q rh rx e q => ?_
  unfold oMinL at e
  split at e
  · obtain ⟨v, rfl, r1⟩ := repxs1 rx
    split at e
    · rename_i ds hd
      simp only [Option.bind_eq_some_iff] at e
      obtain ⟨ns, e1, e2⟩ := e
      split at e2
      · cases e2
      · rename_i hne
        cases e2
        obtain ⟨p, us, rfl, h1, h2⟩ := listOf_rep rh r1 hd
        have := intsOf_rep h2 e1
        subst this
        refine ⟨p, ns, rfl, SqL.of h1, by cases ns <;> simp at hne ⊢, fun m hm hall => ?_⟩
        have a1 := hall _ (minI_mem hne)
        have a2 := minI_le hm
        have : m = minI ns := by omega
        subst this
        exact q _ (by simp only [RepV])
    · cases e
  · cases e
end
end Mir
/-! E5: new things, calls, objects, statements, loops. -/
namespace Mir
open PySem PySem.Spec PyProof.Rows L2

section
variable {g : G} {H F : Hp} {mu : List Addr} {st : Mir.St} {p : Addr} {o : HO}
theorem cell_ne (rh : RH g H F mu st) (hp : H p = none) {n : Nat} {a : Addr} (h : mu[n]? = some a) : a ≠ p := by
  intro e
  have hn : n < mu.length := (List.getElem?_eq_some_iff.mp h).1
  obtain ⟨c, hc⟩ : ∃ c, st[n]? = some c := ⟨st[n]'(by rw [← rh.len]; exact hn), List.getElem?_eq_getElem _⟩
  obtain ⟨a', h1, _, h3⟩ := rh.cel n c hc
  rw [h] at h1
  cases h1
  obtain ⟨o, h4, _⟩ := h3.there
  rw [e, hp] at h4
  cases h4
theorem mem_mu (rh : RH g H F mu st) {a : Addr} (h : a ∈ mu) : H a ≠ none := by
  obtain ⟨n, hn⟩ := List.getElem?_of_mem h
  intro e
  exact cell_ne rh e hn rfl
theorem F_new (rh : RH g H F mu st) (hp : H p = none) : F p = none := by
  cases e : F p with
  | none => rfl
  | some x =>
    rcases rh.fro p x e with q | ⟨_, od, q⟩
    · rw [hp] at q; cases q
    · rw [hp] at q; cases q
theorem tabs_new {T : List (Addr × Str)} (t : LamX.Tabs T H) (hp : H p = none) : LamX.Tabs T (upd H p o) :=
  t.ext fun b u e => by rw [upd_ne (ne_of_none e hp)]; exact e
/-- a new thing that stays as it is -/
theorem RH.new (rh : RH g H F mu st) (hp : H p = none) (hn : ∀ ps, o ≠ .tbl ps := by intro ps z; cases z) : RH g (upd H p o) (upd F p o) mu st where
  ntb := fun a ps e => by
    by_cases h : a = p
    · subst h
      rw [upd_same] at e
      exact hn ps (Option.some.inj e)
    · rw [upd_ne h] at e
      exact rh.ntb a ps e
  fro := fun a u e => by
    by_cases h : a = p
    · subst h
      rw [upd_same] at e
      exact .inl (by rw [upd_same]; exact e)
    · rw [upd_ne h] at e
      rcases rh.fro a u e with q | ⟨k, od, q⟩
      · exact .inl (by rw [upd_ne h]; exact q)
      · exact .inr ⟨k, od, by rw [upd_ne h]; exact q⟩
  len := rh.len
  nd := rh.nd
  cel := fun n c e => by
    obtain ⟨a, h1, h2, h3⟩ := rh.cel n c e
    have hne := cell_ne rh hp h1
    exact ⟨a, h1, by rw [upd_ne hne]; exact h2, (CellAt.at (upd_ne hne) h3).mono ⟨fun b u q => by rw [upd_ne (fun z => by rw [z, F_new rh hp] at q; cases q)]; exact q, fun _ _ q => q⟩⟩
  tab := tabs_new rh.tab hp
theorem Ext.new (rh : RH g H F mu st) (hp : H p = none) : Ext H F mu (upd H p o) (upd F p o) mu where
  mo := ⟨fun a u e => by rw [upd_ne (fun z => by rw [z, F_new rh hp] at e; cases e)]; exact e, fun _ _ h => h⟩
  keep := fun a u e _ _ => by rw [upd_ne (ne_of_none e hp)]; exact e
  dom := fun a h => Nw.up (Nw.of hp) h
  frF := fun a u e => by
    by_cases q : a = p
    · exact .inr (q ▸ Nw.of hp)
    · rw [upd_ne q] at e; exact .inl e
  frM := fun a h => .inl h
theorem Mono.new (rh : RH g H F mu st) (hp : H p = none) : Mono F mu (upd F p o) mu := (Ext.new rh hp (o := o)).mo
/-- a new thing of its own -/
theorem RH.newOwn (rh : RH g H F mu st) (hp : H p = none) : RH g (upd H p o) F mu st where
  ntb := rh.ntb
  fro := fun a u e => by
    have h : a ≠ p := fun z => by rw [z, F_new rh hp] at e; cases e
    rcases rh.fro a u e with q | ⟨k, od, q⟩
    · exact .inl (by rw [upd_ne h]; exact q)
    · exact .inr ⟨k, od, by rw [upd_ne h]; exact q⟩
  len := rh.len
  nd := rh.nd
  cel := fun n c e => by
    obtain ⟨a, h1, h2, h3⟩ := rh.cel n c e
    exact ⟨a, h1, h2, CellAt.at (upd_ne (cell_ne rh hp h1)) h3⟩
  tab := tabs_new rh.tab hp
theorem Ext.newOwn (hp : H p = none) : Ext H F mu (upd H p o) F mu where
  mo := .refl _ _
  keep := fun a u e _ _ => by rw [upd_ne (ne_of_none e hp)]; exact e
  dom := fun a h => Nw.up (Nw.of hp) h
  frF := fun a u e => .inl e
  frM := fun a h => .inl h
/-- a thing of its own becomes frozen -/
theorem RH.freeze (rh : RH g H F mu st) {a : Addr} (hF : F a = none) (hm : a ∉ mu) (ho : H a = some o) (hn : ∀ ps, o ≠ .tbl ps := by intro ps z; cases z) : RH g H (upd F a o) mu st where
  ntb := fun b ps e => by
    by_cases h : b = a
    · subst h
      rw [upd_same] at e
      exact hn ps (Option.some.inj e)
    · rw [upd_ne h] at e
      exact rh.ntb b ps e
  fro := fun b u e => by
    by_cases h : b = a
    · subst h
      rw [upd_same] at e
      cases e
      exact .inl ho
    · rw [upd_ne h] at e
      exact rh.fro b u e
  len := rh.len
  nd := rh.nd
  cel := fun n c e => by
    obtain ⟨b, h1, h2, h3⟩ := rh.cel n c e
    have hne : b ≠ a := fun z => hm (z ▸ List.mem_of_getElem? h1)
    exact ⟨b, h1, by rw [upd_ne hne]; exact h2, h3.mono ⟨fun d u q => by rw [upd_ne (fun z => by rw [z, hF] at q; cases q)]; exact q, fun _ _ q => q⟩⟩
  tab := rh.tab
theorem Mono.freeze {a : Addr} (hF : F a = none) : Mono F mu (upd F a o) mu := ⟨fun d u q => by rw [upd_ne (fun z => by rw [z, hF] at q; cases q)]; exact q, fun _ _ q => q⟩
theorem Ext.freeze {H0 F0 : Hp} {mu0 : List Addr} (e : Ext H0 F0 mu0 H F mu) {a : Addr} (hF : F a = none) (h0 : Nw H0 a) : Ext H0 F0 mu0 H (upd F a o) mu where
  mo := e.mo.trans (Mono.freeze hF)
  keep := e.keep
  dom := e.dom
  frF := fun b u q => by
    by_cases h : b = a
    · exact .inr (h ▸ h0)
    · rw [upd_ne h] at q; exact e.frF b u q
  frM := e.frM
/-- .. becomes a cell -/
theorem RH.cell (rh : RH g H F mu st) {a : Addr} {c : Cell} (hF : F a = none) (hm : a ∉ mu) (hc : CellAt g F mu H a c) : RH g H F (mu ++ [a]) (st ++ [c]) where
  ntb := rh.ntb
  fro := rh.fro
  len := by simp [rh.len]
  nd := by
    rw [List.nodup_append]
    exact ⟨rh.nd, by simp, fun x hx y hy => by
      rw [List.mem_singleton] at hy
      intro z
      exact hm (hy ▸ z ▸ hx)⟩
  cel := fun n c' e => by
    have mo : Mono F mu F (mu ++ [a]) := ⟨fun _ _ h => h, fun i b h => by rw [List.getElem?_append_left (List.getElem?_eq_some_iff.mp h).1]; exact h⟩
    by_cases h : n < st.length
    · rw [List.getElem?_append_left h] at e
      obtain ⟨b, h1, h2, h3⟩ := rh.cel n c' e
      exact ⟨b, mo.mu _ _ h1, h2, h3.mono mo⟩
    · have hn : n < (st ++ [c]).length := (List.getElem?_eq_some_iff.mp e).1
      have hn' : n = st.length := by simp at hn; omega
      subst hn'
      rw [List.getElem?_append_right (Nat.le_refl _)] at e
      simp at e
      subst e
      refine ⟨a, ?_, hF, hc.mono mo⟩
      rw [← rh.len, List.getElem?_append_right (Nat.le_refl _)]
      simp
  tab := rh.tab
theorem Mono.cell {a : Addr} : Mono F mu F (mu ++ [a]) := ⟨fun _ _ h => h, fun i b h => by rw [List.getElem?_append_left (List.getElem?_eq_some_iff.mp h).1]; exact h⟩
theorem Ext.cell {H0 F0 : Hp} {mu0 : List Addr} (e : Ext H0 F0 mu0 H F mu) {a : Addr} (h0 : Nw H0 a) : Ext H0 F0 mu0 H F (mu ++ [a]) where
  mo := e.mo.trans Mono.cell
  keep := e.keep
  dom := e.dom
  frF := e.frF
  frM := fun b h => by
    rcases List.mem_append.mp h with q | q
    · exact e.frM b q
    · rw [List.mem_singleton] at q
      exact .inr (q ▸ h0)
theorem tabs_set {T : List (Addr × Str)} {a : Addr} {u : HO} (t : LamX.Tabs T H) (ha : H a = some u) (h1 : ∀ ps, u ≠ .tbl ps) (h2 : ∀ f, u ≠ .ext f) : LamX.Tabs T (upd H a o) := fun q hq => by
  obtain ⟨ps, e1, e2, e3⟩ := t q hq
  have n1 : q.1 ≠ a := fun z => by
    rw [z, ha] at e1
    exact h1 _ (Option.some.inj e1)
  refine ⟨ps, by rw [upd_ne n1]; exact e1, e2, fun pos cv hc => ?_⟩
  obtain ⟨c, e4, e5⟩ := e3 pos cv hc
  have n2 : c ≠ a := fun z => by
    rw [z, ha] at e5
    exact h2 _ (Option.some.inj e5)
  exact ⟨c, e4, by rw [upd_ne n2]; exact e5⟩
/-- a cell is written -/
theorem RH.put (rh : RH g H F mu st) {n : Nat} {a : Addr} {c c' : Cell} (hn : st[n]? = some c) (ha : mu[n]? = some a) (hc : CellAt g F mu (upd H a o) a c') : RH g (upd H a o) F mu (st.set n c') where
  ntb := rh.ntb
  fro := fun b u e => by
    obtain ⟨a', h1, h2, _⟩ := rh.cel n c hn
    rw [ha] at h1
    cases h1
    have hne : b ≠ a := fun z => by rw [z, h2] at e; cases e
    rcases rh.fro b u e with q | ⟨k, od, q⟩
    · exact .inl (by rw [upd_ne hne]; exact q)
    · exact .inr ⟨k, od, by rw [upd_ne hne]; exact q⟩
  len := by simp [rh.len]
  nd := rh.nd
  cel := fun m d e => by
    obtain ⟨a', h1, h2, _⟩ := rh.cel n c hn
    rw [ha] at h1
    cases h1
    by_cases h : m = n
    · subst h
      rw [List.getElem?_set_self (List.getElem?_eq_some_iff.mp hn).1] at e
      cases e
      exact ⟨a, ha, h2, hc⟩
    · rw [List.getElem?_set_ne (Ne.symm h)] at e
      obtain ⟨b, q1, q2, q3⟩ := rh.cel m d e
      have hne : b ≠ a := fun z => by
        subst z
        exact h (nd_ix rh.nd q1 ha)
      exact ⟨b, q1, q2, CellAt.at (upd_ne hne) q3⟩
  tab := by
    obtain ⟨a', h1, h2, h3⟩ := rh.cel n c hn
    rw [ha] at h1
    cases h1
    obtain ⟨u, q1, q2, q3⟩ := h3.there
    exact tabs_set rh.tab q1 q2 q3
theorem Ext.put {n : Nat} {a : Addr} (ha : mu[n]? = some a) (hn : ∀ ps, o ≠ .tbl ps := by intro ps z; cases z) : Ext H F mu (upd H a o) F mu where
  mo := .refl _ _
  keep := fun b u e hb _ => by rw [upd_ne (fun (z : b = a) => hb (by rw [z]; exact List.mem_of_getElem? ha))]; exact e
  dom := fun b h => Nw.put hn h
  frF := fun b u e => .inl e
  frM := fun b h => .inl h
/-- a thing of one's own is written: it is no one else's -/
theorem RH.putOwn (rh : RH g H F mu st) {a : Addr} {u : HO} (hF : F a = none) (hm : a ∉ mu) (ha : H a = some u) (h1 : ∀ ps, u ≠ .tbl ps) (h2 : ∀ f, u ≠ .ext f) : RH g (upd H a o) F mu st where
  ntb := rh.ntb
  fro := fun b w e => by
    have hne : b ≠ a := fun z => by rw [z, hF] at e; cases e
    rcases rh.fro b w e with q | ⟨k, od, q⟩
    · exact .inl (by rw [upd_ne hne]; exact q)
    · exact .inr ⟨k, od, by rw [upd_ne hne]; exact q⟩
  len := rh.len
  nd := rh.nd
  cel := fun n c e => by
    obtain ⟨b, q1, q2, q3⟩ := rh.cel n c e
    exact ⟨b, q1, q2, CellAt.at (upd_ne fun (z : b = a) => hm (by rw [← z]; exact List.mem_of_getElem? q1)) q3⟩
  tab := tabs_set rh.tab ha h1 h2
end

/-! ### what defs promise -/
def FnQ (g : G) (H F : Hp) (mu : List Addr) (E : XK) (Q : VK) : Out D → Prop
  | .ok d st' => ∀ v H' F' mu', Ext H F mu H' F' mu' → RH g H' F' mu' st' → RepV g F' mu' d v → Q v H'
  | .exc e st' => ∀ H' F' mu', Ext H F mu H' F' mu' → RH g H' F' mu' st' → XQ g E e H'
  | .bad => False
def spOf (g : G) (n : Nat) (f : FM) : Sp := fun vs H Q E => vs.length = n ∧ ∃ ds st F mu, RH g H F mu st ∧ RepL g F mu ds vs ∧ FnQ g H F mu E Q (f ds st)
/-- an __init__: the instance is the caller's own -/
def XnQ (g : G) (H F : Hp) (mu : List Addr) (a : Addr) (c : Nat) (E : XK) (Q : VK) : Out (List D) → Prop
  | .ok fs st' => ∀ H' F' mu', Ext H F mu H' F' mu' → RH g H' F' mu' st' → F' a = none → a ∉ mu' → CellAt g F' mu' H' a (.ins c fs) → Q .non H'
  | .exc e st' => ∀ H' F' mu', Ext H F mu H' F' mu' → RH g H' F' mu' st' → XQ g E e H'
  | .bad => False
/-- H0: the heap ahead of the instance -/
def spInit (g : G) (c n : Nat) (f : XM) : Sp := fun vs H Q E => vs.length = n ∧ ∃ a dx C ns us ds st F mu H0, vs = .ref a :: us ∧ g.ci c = some (C, ns) ∧ H = upd (upd H0 dx (.own a)) a (.ins C dx []) ∧ H0 a = none ∧ H0 dx = none ∧ dx ≠ a ∧
  RH g H0 F mu st ∧ RepL g F mu ds us ∧ XnQ g H0 F mu a c E Q (f ds st)

section
variable {X : Cx} {g : G} {E : XK} {pos : Pos} {a b c e o : Expr} {ma mb mc : EM} {es : List Expr} {mas : AM}
/-! ### tuples, lists -/
theorem valsOf_len : ∀ {xs : List Opd} {ds : List D}, valsOf xs = some ds → xs.length = ds.length
  | [], _, h => by cases h; rfl
  | .val d :: xs, ds, h => by
    simp only [valsOf, Option.map_eq_some_iff] at h
    obtain ⟨ds', h1, rfl⟩ := h
    simp [valsOf_len h1]
  | .bor _ :: _, _, h => by simp [valsOf] at h
theorem xTup {x1} (h : PA X es (rdA g E mas)) : PE X (.Tuple es x1 pos) (rdE g E (eTup mas)) := by
  refine PE.imp (pe_tup h) fun s H Q k => ?_
  obtain ⟨r, st, F, mu, re, k⟩ := k
  refine ⟨r, st, F, mu, re, OutQ.bind k fun xs st1 vs H1 F1 mu1 _ e1 re1 rx k1 => ?_⟩
  cases hv : valsOf xs with
  | none => rw [hv] at k1; exact k1.elim
  | some ds =>
    rw [hv] at k1
    dsimp only at k1
    split at k1
    · rename_i hl
      have rl := rx.vals hv
      refine ⟨by rw [← rl.length]; exact Nat.le_trans hl lim_line, fun p hp => ?_⟩
      refine k1 _ _ (upd F1 p (.tup vs)) mu1 (e1.trans (Ext.new re1.h hp)) (re1.step (Ext.new re1.h hp) (re1.h.new hp)) ?_
      simp only [RepX, RepV]
      exact ⟨p, vs, rfl, upd_same, RepL.mono (Mono.new re1.h hp) _ _ rl⟩
    · exact k1.elim
theorem yLst (h : PA X es (rdA g E mas)) : PE X (.List es pos) (rdN g E (nLst mas)) := by
  refine PE.imp (pe_lst h) fun s H Q k => ?_
  obtain ⟨r, st, F, mu, re, k⟩ := k
  refine ⟨r, st, F, mu, re, OutQ.bind k fun xs st1 vs H1 F1 mu1 _ e1 re1 rx k1 => ?_⟩
  cases hv : valsOf xs with
  | none => rw [hv] at k1; exact k1.elim
  | some ds =>
    rw [hv] at k1
    dsimp only at k1
    split at k1
    · rename_i hl
      have rl := rx.vals hv
      refine ⟨by rw [← rl.length]; exact Nat.le_trans hl lim_line, fun p hp => ?_⟩
      have h0 : Nw H p := e1.dom p (Nw.of hp)
      exact k1 _ _ F1 mu1 (e1.trans (Ext.newOwn hp)) (re1.step (Ext.newOwn hp) (re1.h.newOwn hp)) ⟨p, rfl, F_new re1.h hp, fun z => mem_mu re1.h z hp, h0, vs, upd_same, rl⟩
    · exact k1.elim
/-- frozen -/
theorem CellAt.frz {F : Hp} {mu : List Addr} {H : Hp} {p : Addr} {c : Cell} {d : D} {st : Mir.St} {g : G} (rh : RH g H F mu st) (hF : F p = none) (hm : p ∉ mu) (h : CellAt g F mu H p c) (hd : c.frz = some d) : ∃ u, H p = some u ∧ RH g H (upd F p u) mu st ∧ RepV g (upd F p u) mu d (.ref p) := by
  cases c with
  | lst xs =>
    cases hd
    obtain ⟨vs, h1, h2⟩ := h
    exact ⟨_, h1, rh.freeze hF hm h1, by simp only [RepV]; exact ⟨p, vs, rfl, upd_same, RepL.mono (Mono.freeze hF) _ _ h2⟩⟩
  | dct t ps =>
    cases hd
    rcases h with ⟨e, kvs, h1, h2⟩ | ⟨e, kvs, h1, h2⟩
    · exact ⟨_, h1, rh.freeze hF hm h1, by simp only [RepV]; exact ⟨p, rfl, .inl ⟨e, kvs, upd_same, RepP.mono (Mono.freeze hF) _ _ h2⟩⟩⟩
    · exact ⟨_, h1, rh.freeze hF hm h1, by simp only [RepV]; exact ⟨p, rfl, .inr ⟨e, kvs, upd_same, RepT.mono (Mono.freeze hF) _ _ h2⟩⟩⟩
  | ins c fs =>
    cases hd
    obtain ⟨C, ns, dx, vs, h1, h2, h3, h4⟩ := h
    exact ⟨_, h3, rh.freeze hF hm h3, by simp only [RepV]; exact ⟨p, C, ns, dx, vs, rfl, h1, h2, upd_same, RepL.mono (Mono.freeze hF) _ _ h4⟩⟩
  | lck _ _ => cases hd
theorem xFrzT {n : NM} : ∀ s H Q, rdE g E (eFrz n) s H Q → rdN g E n s H Q := by
  intro s H Q k
  obtain ⟨r, st, F, mu, re, k⟩ := k
  refine ⟨r, st, F, mu, re, OutQ.bind k fun c st1 v H1 F1 mu1 _ e1 re1 rx k1 => ?_⟩
  obtain ⟨p, rfl, q1, q2, q3, q4⟩ := rx
  cases hd : c.frz with
  | none => rw [hd] at k1; exact k1.elim
  | some d =>
    rw [hd] at k1
    obtain ⟨u, u1, u2, u3⟩ := q4.frz re1.h q1 q2 hd
    have ee : Ext H F mu H1 (upd F1 p u) mu1 := e1.freeze q1 q3
    refine k1 _ H1 (upd F1 p u) mu1 ee ?_ u3
    exact re.step ee u2
theorem xFrz {n : NM} (h : PE X e (rdN g E n)) : PE X e (rdE g E (eFrz n)) := PE.imp h xFrzT
theorem xNew {n : NM} (h : PE X e (rdN g E n)) : PE X e (rdE g E (eNew n)) := by
  refine PE.imp h fun s H Q k => ?_
  obtain ⟨r, st, F, mu, re, k⟩ := k
  refine ⟨r, st, F, mu, re, OutQ.bind k fun c st1 v H1 F1 mu1 _ e1 re1 rx k1 => ?_⟩
  obtain ⟨p, rfl, q1, q2, q3, q4⟩ := rx
  have ee := e1.cell (a := p) q3
  refine k1 _ H1 F1 (mu1 ++ [p]) ee (re.step ee (re1.h.cell q1 q2 q4)) ?_
  simp only [RepX, RepV]
  refine ⟨p, ?_, rfl⟩
  rw [← re1.h.len, List.getElem?_append_right (Nat.le_refl _)]
  simp

/-! ### calls of built-ins -/
theorem xCB {rr : List V → Hp → VK → Prop} {f : OpN} (hs : OpSN g rr f) (h : PE X e (tCB rr (rdA g E mas))) : PE X e (rdE g E (eOpN f mas)) := by
  refine PE.imp h fun s H Q k => ?_
  obtain ⟨r, st, F, mu, re, k⟩ := k
  refine ⟨r, st, F, mu, re, OutQ.bind k fun xs st1 vs H1 F1 mu1 _ e1 re1 rx k1 => ?_⟩
  cases hf : f st1 xs with
  | none => rw [hf] at k1; exact k1.elim
  | some d =>
    rw [hf] at k1
    exact hs H1 F1 mu1 st1 xs vs d Q re1.h rx hf fun v H' F' rh' e' rv => k1 v H' F' mu1 (e1.trans e') (re1.step e' rh') rv
/-- .. that hand back something new -/
def NpSN (g : G) (rr : List V → Hp → VK → Prop) (f : NpN) : Prop := ∀ (H F : Hp) (mu : List Addr) (st : Mir.St) (xs : List Opd) (vs : List V) (c : Cell) (Q : VK), RH g H F mu st → RepXs g H F mu xs vs → f st xs = some c →
  (∀ p H', RH g H' F mu st → Ext H F mu H' F mu → H p = none → F p = none → p ∉ mu → CellAt g F mu H' p c → Q (.ref p) H') → rr vs H Q
theorem dom_none {H F H' F' : Hp} {mu mu' : List Addr} {p : Addr} (e : Ext H F mu H' F' mu') (hp : H' p = none) : Nw H p := e.dom p (Nw.of hp)
theorem yCB {rr : List V → Hp → VK → Prop} {f : NpN} (hs : NpSN g rr f) (h : PE X e (tCB rr (rdA g E mas))) : PE X e (rdN g E (nOpN f mas)) := by
  refine PE.imp h fun s H Q k => ?_
  obtain ⟨r, st, F, mu, re, k⟩ := k
  refine ⟨r, st, F, mu, re, OutQ.bind k fun xs st1 vs H1 F1 mu1 _ e1 re1 rx k1 => ?_⟩
  cases hf : f st1 xs with
  | none => rw [hf] at k1; exact k1.elim
  | some d =>
    rw [hf] at k1
    exact hs H1 F1 mu1 st1 xs vs d Q re1.h rx hf fun p H' rh' e' h1 h2 h3 h4 => k1 _ H' F1 mu1 (e1.trans e') (re1.step e' rh') ⟨p, rfl, h2, h3, dom_none e1 h1, h4⟩
/-- a binary operation that hands back something new -/
def NpS (g : G) (rr : R2) (f : Np2) : Prop := ∀ (H F : Hp) (mu : List Addr) (st : Mir.St) (x y : Opd) (vx vy : V) (c : Cell) (Q : VK), RH g H F mu st → RepX g H F mu x vx → RepX g H F mu y vy → f st x y = some c →
  (∀ p H', RH g H' F mu st → Ext H F mu H' F mu → H p = none → F p = none → p ∉ mu → CellAt g F mu H' p c → Q (.ref p) H') → rr vx vy H Q
theorem yOp2 {rr : R2} {f : Np2} (hs : NpS g rr f) (h : PE X e (tOp rr (rdE g E ma) (rdE g E mb))) : PE X e (rdN g E (nOp2 f ma mb)) := by
  refine PE.imp h fun s H Q k => ?_
  obtain ⟨r, st, F, mu, re, k⟩ := k
  refine ⟨r, st, F, mu, re, OutQ.bind k fun x st1 vx H1 F1 mu1 _ e1 re1 rx k1 => ?_⟩
  refine ⟨r, st1, F1, mu1, re1, OutQ.bind (k1.ext e1) fun y st2 vy H2 F2 mu2 _ e2 re2 ry k2 => ?_⟩
  cases hf : f st2 x y with
  | none => rw [hf] at k2; exact k2.elim
  | some d =>
    rw [hf] at k2
    exact hs H2 F2 mu2 st2 x y vx vy d Q re2.h (rx.ext e2) ry hf fun p H' rh' e' h1 h2 h3 h4 => k2 _ H' F2 mu2 (e2.trans e') (re2.step e' rh') ⟨p, rfl, h2, h3, dom_none (e1.trans e2) h1, h4⟩
theorem xOp2 {rr : R2} {f : Op2} (hs : OpS g rr f) (h : PE X e (tOp rr (rdE g E ma) (rdE g E mb))) : PE X e (rdE g E (eOp2 f ma mb)) := PE.imp h (rd2 hs (fun _ _ _ h => h) fun _ _ _ h => h)

/-! ### calls of defs -/
theorem xCall0 {n : Nat} {f : FM} {dds : List D} {dvs : List V} (hd : ∀ F mu, RepL g F mu dds dvs) (h : PE X e (tCall (spOf g n f) dvs E (rdA g E mas))) (hn : ∀ r st xs st', mas r st = .ok xs st' → xs.length + dvs.length = n) : PE X e (rdE g E (eCall (defl f dds) mas)) := by
  refine PE.imp h fun s H Q k => ?_
  obtain ⟨r, st, F, mu, re, k⟩ := k
  refine ⟨r, st, F, mu, re, OutQ.bind k fun xs st1 vs H1 F1 mu1 ho e1 re1 rx k1 => ?_⟩
  cases hv : valsOf xs with
  | none => rw [hv] at k1; exact k1.elim
  | some ds =>
    rw [hv] at k1
    have rl := rx.vals hv
    refine ⟨by rw [List.length_append, ← rl.length, ← valsOf_len hv]; exact hn _ _ _ _ ho, ds ++ dds, st1, F1, mu1, re1.h, rl.append (hd _ _), ?_⟩
    dsimp only [defl] at k1
    cases hf : f (ds ++ dds) st1 with
    | ok d st2 =>
      rw [hf] at k1
      exact fun v H' F' mu' e' rh' rv => k1 v H' F' mu' (e1.trans e') (re1.step e' rh') rv
    | exc x st2 =>
      rw [hf] at k1
      exact fun H' F' mu' e' rh' => k1 H' F' mu' (e1.trans e') (re1.step e' rh')
    | bad => rw [hf] at k1; exact k1
def AM.len (as : AM) (k : Nat) : Prop := ∀ r st xs st', as r st = .ok xs st' → xs.length = k
theorem len0 : AM.len aNil 0 := fun r st xs st' h => by
  simp only [aNil] at h
  injection h with h1 h2
  rw [← h1]
  rfl
theorem lenS {k : Nat} (h : AM.len mas k) : AM.len (aCons ma mas) (k + 1) := fun r st xs st' e => by
  unfold aCons at e
  cases h1 : ma r st with
  | ok x s1 =>
    rw [h1] at e
    simp only [Out.bind] at e
    cases h2 : mas r s1 with
    | ok ys s2 =>
      rw [h2] at e
      simp only [Out.bind] at e
      injection e with e1 e2
      rw [← e1, List.length_cons, h _ _ _ _ h2]
    | exc z s2 => rw [h2] at e; cases e
    | bad => rw [h2] at e; cases e
  | exc z s1 => rw [h1] at e; cases e
  | bad => rw [h1] at e; cases e
/-- f(..) -/
theorem xCall {n k : Nat} {f : FM} {dds : List D} {dvs : List V} (hd : ∀ F mu, RepL g F mu dds dvs) (h : PE X e (tCall (spOf g n f) dvs E (rdA g E mas))) (hl : AM.len mas k) (hn : k + dvs.length = n) : PE X e (rdE g E (eCall (defl f dds) mas)) :=
  xCall0 hd h fun r st xs st' q => by rw [hl _ _ _ _ q]; exact hn
theorem defl_nil (f : FM) : defl f [] = f := by
  funext ds st
  simp [defl]
theorem xCallN {n : Nat} {f : FM} (h : PE X e (tCall (spOf g n f) [] E (rdA g E mas))) (hl : AM.len mas n) : PE X e (rdE g E (eCall f mas)) := by
  have := xCall (dds := []) (dvs := []) (fun _ _ => RepL.nil) h hl rfl
  rwa [defl_nil] at this
theorem insOf_rep {H F : Hp} {mu : List Addr} {st : Mir.St} {x : Opd} {v : V} {c : Nat} {fs : List D} (rh : RH g H F mu st) (r : RepX g H F mu x v) (h : insOf st x = some (c, fs)) :
    ∃ p C ns dx vs, v = .ref p ∧ g.ci c = some (C, ns) ∧ fs.length ≤ ns.length ∧ H p = some (.ins C dx (ns.zip vs)) ∧ RepL g F mu fs vs := by
  unfold insOf at h
  split at h
  · cases h
    simp only [RepX, RepV] at r
    obtain ⟨p, C, ns, dx, vs, h1, h2, h3, h4, h5⟩ := r
    exact ⟨p, C, ns, dx, vs, h1, h2, h3, rh.ins h4, h5⟩
  · split at h
    · rename_i n c' fs' hn
      cases h
      simp only [RepX, RepV] at r
      obtain ⟨a, h1, rfl⟩ := r
      obtain ⟨a', h2, _, C, ns, dx, vs, h3, h4, h5, h6⟩ := rh.cel _ _ hn
      rw [h1] at h2
      cases h2
      exact ⟨a, C, ns, dx, vs, rfl, h3, h4, h5, h6⟩
    · cases h
  · cases h
    obtain ⟨a, rfl, _, _, C, ns, dx, vs, h3, h4, h5, h6⟩ := r
    exact ⟨a, C, ns, dx, vs, rfl, h3, h4, h5, h6⟩
  · cases h
theorem lookup_zip_none {ns : List Str} {m : Str} (h : m ∉ ns) : ∀ (vs : List V), (ns.zip vs).lookup m = none := by
  induction ns with
  | nil => intro vs; simp
  | cons n ns ih =>
    intro vs
    cases vs with
    | nil => simp
    | cons v vs =>
      rw [List.zip_cons_cons, List.lookup_cons]
      have : (m == n) = false := beq_eq_false_iff_ne.mpr fun z => h (z ▸ List.mem_cons_self)
      rw [this]
      exact ih (fun z => h (List.mem_cons_of_mem _ z)) vs
theorem lookup_zip {m : Str} {j : Nat} : ∀ {ns : List Str} {vs : List V} {v : V}, ns.Nodup → ns[j]? = some m → vs[j]? = some v → (ns.zip vs).lookup m = some v := by
  induction j with
  | zero =>
    intro ns vs v nd h1 h2
    cases ns with
    | nil => simp at h1
    | cons n ns =>
      cases vs with
      | nil => simp at h2
      | cons w vs =>
        simp at h1 h2
        subst h1 h2
        simp [List.lookup_cons]
  | succ j ih =>
    intro ns vs v nd h1 h2
    cases ns with
    | nil => simp at h1
    | cons n ns =>
      cases vs with
      | nil => simp at h2
      | cons w vs =>
        simp at h1 h2
        rw [List.zip_cons_cons, List.lookup_cons]
        have : (m == n) = false := beq_eq_false_iff_ne.mpr fun z => (List.nodup_cons.mp nd).1 (z ▸ List.mem_of_getElem? h1)
        rw [this]
        exact ih (List.nodup_cons.mp nd).2 h1 h2
/-- o.m(..) -/
theorem xMeth {C : Addr} {ns : List Str} {m : Str} {ci n k : Nat} {f : FM} {dds : List D} {dvs : List V} (hc : g.ci ci = some (C, ns)) (hm : m ∉ ns) (hd : ∀ F mu, RepL g F mu dds dvs) (h : PE X e (tMeth C m (spOf g n f) dvs E (rdE g E ma) (rdA g E mas))) (hl : AM.len mas k) (hn : k + dvs.length + 1 = n) : PE X e (rdE g E (eMeth ci (defl f dds) ma mas)) := by
  refine PE.imp h fun s H Q k' => ?_
  obtain ⟨r, st, F, mu, re, k'⟩ := k'
  refine ⟨r, st, F, mu, re, OutQ.bind k' fun x st1 v H1 F1 mu1 _ e1 re1 rx k1 => ?_⟩
  split at k1
  · rename_i d c' fs _ hi
    split at k1
    · rename_i hcc
      subst hcc
      obtain ⟨p, C', ns', dx, vs, rfl, h1, h2, h3, h4⟩ := insOf_rep re1.h rx hi
      rw [hc] at h1
      cases h1
      refine ⟨p, dx, _, rfl, h3, lookup_zip_none hm _, r, st1, F1, mu1, re1, OutQ.bind (k1.ext e1) fun xs st2 us H2 F2 mu2 ho e2 re2 rxs k2 => ?_⟩
      cases hv : valsOf xs with
      | none => rw [hv] at k2; exact k2.elim
      | some ds =>
        rw [hv] at k2
        have rl := rxs.vals hv
        refine ⟨?_, d :: (ds ++ dds), st2, F2, mu2, re2.h, .cons (RepV.mono e2.mo _ _ rx) (rl.append (hd _ _)), ?_⟩
        · rw [List.length_cons, List.length_append, ← rl.length, ← valsOf_len hv, hl _ _ _ _ ho]
          exact hn
        · dsimp only [defl, List.cons_append] at k2
          cases hf : f (d :: (ds ++ dds)) st2 with
          | ok d2 st3 =>
            rw [hf] at k2
            exact fun v H' F' mu' e' rh' rv => k2 v H' F' mu' (e2.trans e') (re2.step e' rh') rv
          | exc y st3 =>
            rw [hf] at k2
            exact fun H' F' mu' e' rh' => k2 H' F' mu' (e2.trans e') (re2.step e' rh')
          | bad => rw [hf] at k2; exact k2
    · exact k1.elim
  · exact k1.elim
theorem xMethN {C : Addr} {ns : List Str} {m : Str} {ci n k : Nat} {f : FM} (hc : g.ci ci = some (C, ns)) (hm : m ∉ ns) (h : PE X e (tMeth C m (spOf g n f) [] E (rdE g E ma) (rdA g E mas))) (hl : AM.len mas k) (hn : k + 1 = n) : PE X e (rdE g E (eMeth ci f ma mas)) := by
  have := xMeth (dds := []) (dvs := []) hc hm (fun _ _ => RepL.nil) h hl hn
  rwa [defl_nil] at this
theorem aNilT : ∀ s H Q, rdA g E aNil s H Q → tNil s H Q := fun s H Q h => by
  obtain ⟨r, st, F, mu, re, h⟩ := h
  exact h [] H F mu (.refl _ _ _) re rfl
theorem tMeth_nil {C : Addr} {m : Str} {sp : Sp} {dvs : List V} {ta : TE} (h : PE X e (tMeth C m sp dvs E ta tNil)) (mono : ∀ s H Q Q', (∀ v H1, Q v H1 → Q' v H1) → ta s H Q → ta s H Q') : PE X e (tMeth C m sp dvs E ta (rdA g E aNil)) := PE.imp h fun s H Q k =>
  mono s H _ _ (fun v H1 ⟨p, dx, fs, h1, h2, h3, h4⟩ => ⟨p, dx, fs, h1, h2, h3, aNilT _ _ _ h4⟩) k
theorem rdE_mono : ∀ s H Q Q', (∀ v H1, Q v H1 → Q' v H1) → rdE g E ma s H Q → rdE g E ma s H Q' := fun s H Q Q' h k => by
  obtain ⟨r, st, F, mu, re, k⟩ := k
  refine ⟨r, st, F, mu, re, ?_⟩
  cases hm : ma r st with
  | ok x st' => rw [hm] at k; exact fun v H' F' mu' e' re' rv => h _ _ (k v H' F' mu' e' re' rv)
  | exc x st' => rw [hm] at k; exact k
  | bad => rw [hm] at k; exact k
/-- o.f -/
theorem xFld {C : Addr} {ns : List Str} {f : Str} {ci j : Nat} (hK : X.K = g.K) (hc : g.ci ci = some (C, ns)) (nd : ns.Nodup) (hj : ns[j]? = some f) (cl : Cls g.K C) (na : NoAttr g.K C f) (h : PE X e (tFld X.K (rdE g E ma) f)) : PE X e (rdE g E (eFld ci j ma)) := by
  refine PE.imp h fun s H Q k => ?_
  obtain ⟨r, st, F, mu, re, k⟩ := k
  refine ⟨r, st, F, mu, re, OutQ.bind k fun x st1 v H1 F1 mu1 _ e1 re1 rx k1 => ?_⟩
  split at k1
  · rename_i c' fs hi
    split at k1
    · rename_i hcc
      subst hcc
      obtain ⟨p, C', ns', dx, vs, rfl, h1, h2, h3, h4⟩ := insOf_rep re1.h rx hi
      rw [hc] at h1
      cases h1
      cases hf : fs[j]? with
      | none => rw [hf] at k1; exact k1.elim
      | some d =>
        rw [hf] at k1
        obtain ⟨w, w1, w2⟩ := h4.get hf
        exact ⟨p, C, dx, _, w, rfl, h3, by rw [hK]; exact cl, by rw [hK]; exact na, lookup_zip nd hj w1, k1 w H1 F1 mu1 e1 re1 w2⟩
    · exact k1.elim
  · exact k1.elim
/-- C(..) -/
theorem yMake {C : Addr} {ns : List Str} {ci n k : Nat} {f : XM} (hc : g.ci ci = some (C, ns)) (h : PE X e (tMake C (spInit g ci n f) [] E (rdA g E mas))) (hl : AM.len mas k) (hn : k + 1 = n) : PE X e (rdN g E (nMake ci f mas)) := by
  refine PE.imp h fun s H Q k' => ?_
  obtain ⟨r, st, F, mu, re, k'⟩ := k'
  refine ⟨r, st, F, mu, re, OutQ.bind k' fun xs st1 vs H1 F1 mu1 ho e1 re1 rx k1 => ?_⟩
  cases hv : valsOf xs with
  | none => rw [hv] at k1; exact k1.elim
  | some ds =>
    rw [hv] at k1
    intro x dx nx ndx nex
    have rl := rx.vals hv
    refine ⟨?_, x, dx, C, ns, vs, ds, st1, F1, mu1, H1, by rw [List.append_nil], hc, rfl, nx, ndx, nex, re1.h, rl, ?_⟩
    · rw [List.append_nil, List.length_cons, ← rl.length, ← valsOf_len hv, hl _ _ _ _ ho]
      exact hn
    · dsimp only at k1
      cases hf : f ds st1 with
      | ok fs st2 =>
        rw [hf] at k1
        exact fun H' F' mu' e' rh' q1 q2 q3 => ⟨rfl, k1 _ H' F' mu' (e1.trans e') (re1.step e' rh') ⟨x, rfl, q1, q2, dom_none e1 nx, q3⟩⟩
      | exc y st2 =>
        rw [hf] at k1
        exact fun H' F' mu' e' rh' => k1 H' F' mu' (e1.trans e') (re1.step e' rh')
      | bad => rw [hf] at k1; exact k1
theorem tMake_nil {C : Addr} {sp : Sp} {dvs : List V} (h : PE X e (tMake C sp dvs E tNil)) : PE X e (tMake C sp dvs E (rdA g E aNil)) := PE.imp h fun s H Q k => aNilT _ _ _ k
theorem tCall_nil {sp : Sp} {dvs : List V} (h : PE X e (tCall sp dvs E tNil)) : PE X e (tCall sp dvs E (rdA g E aNil)) := PE.imp h fun s H Q k => aNilT _ _ _ k
end
end Mir
/-! E6: statements, loops, comprehensions, defs. -/
namespace Mir
open PySem PySem.Spec PyProof.Rows L2

structure Bs where
  H : Hp
  F : Hp
  mu : List Addr
  self : Option Addr := none
structure RB (g : G) (B : Bs) (s : L2.St) (H F : Hp) (mu : List Addr) (r : Env) (st : Mir.St) : Prop where
  re : RE g s H F mu r st
  ext : Ext B.H B.F B.mu H F mu
  own : ∀ (i : Nat) (c : Cell) (a : Addr), r[i]? = some (.own c) → s[i]? = some (some (.ref a)) → Nw B.H a
  slf : ∀ (i ci : Nat) (fs : List D) (a : Addr), r[i]? = some (.own (.ins ci fs)) → s[i]? = some (some (.ref a)) → B.self = some a
def PostS (g : G) (E : XK) (B : Bs) (F : Hp) (mu : List Addr) (D : Ends) : SOut → Prop
  | .nx r' st' => ∀ s' H' F' mu', RB g B s' H' F' mu' r' st' → Mono F mu F' mu' → D.nx s' H'
  | .bk r' st' => ∀ s' H' F' mu', RB g B s' H' F' mu' r' st' → Mono F mu F' mu' → D.bk s' H'
  | .ct r' st' => ∀ s' H' F' mu', RB g B s' H' F' mu' r' st' → Mono F mu F' mu' → D.ct s' H'
  | .rt d st' => ∀ v H' F' mu', RH g H' F' mu' st' → Ext B.H B.F B.mu H' F' mu' → RepV g F' mu' d v → D.rt v H'
  | .exc e _ st' => ∀ H' F' mu', RH g H' F' mu' st' → Ext B.H B.F B.mu H' F' mu' → XQ g E e H'
  | .bad => False
def rdS (g : G) (E : XK) (B : Bs) (m : SM) : TS := fun D s H => ∃ r st F mu, RB g B s H F mu r st ∧ PostS g E B F mu D (m r st)
theorem PostS.mono {g : G} {E : XK} {B : Bs} {F F1 : Hp} {mu mu1 : List Addr} {D : Ends} (m : Mono F mu F1 mu1) : ∀ {o : SOut}, PostS g E B F mu D o → PostS g E B F1 mu1 D o
  | .nx _ _, h => fun s' H' F' mu' rb k => h s' H' F' mu' rb (m.trans k)
  | .bk _ _, h => fun s' H' F' mu' rb k => h s' H' F' mu' rb (m.trans k)
  | .ct _ _, h => fun s' H' F' mu' rb k => h s' H' F' mu' rb (m.trans k)
  | .rt _ _, h => h
  | .exc _ _ _, h => h
  | .bad, h => h
section
variable {g : G} {B : Bs} {s : L2.St} {H F H' F' : Hp} {mu mu' : List Addr} {r : Env} {st st' : Mir.St}
theorem RB.step (x : RB g B s H F mu r st) (e : Ext H F mu H' F' mu') (re : RE g s H' F' mu' r st') : RB g B s H' F' mu' r st' := ⟨re, x.ext.trans e, x.own, x.slf⟩
theorem get_set {α : Type} {l : List α} {i j : Nat} {x : α} (h : i < l.length) : (l.set i x)[j]? = if i = j then some x else l[j]? := by
  rw [List.getElem?_set]
  split
  · simp [h]
  · rfl
theorem RE.setV (x : RE g s H F mu r st) {i : Nat} {d : D} {v : V} (hv : RepV g F mu d v) (hi : i < r.length) : RE g (s.set i (some v)) H F mu (r.set i (.val d)) st := by
  have hi' : i < s.length := by rw [x.len]; exact hi
  refine ⟨x.h, by simp [x.len], fun j y hy => ?_, fun j k c c' a b h1 h2 h3 h4 ne => ?_⟩
  · rw [get_set hi] at hy
    by_cases e : i = j
    · subst e
      rw [if_pos rfl] at hy
      cases hy
      exact ⟨some v, by simp [hi'], v, rfl, hv⟩
    · rw [if_neg e] at hy
      obtain ⟨o, h1, h2⟩ := x.slot j y hy
      exact ⟨o, by rw [get_set hi', if_neg e]; exact h1, h2⟩
  · rw [get_set hi] at h1 h2
    rw [get_set hi'] at h3 h4
    by_cases e : i = j
    · rw [if_pos e] at h1; cases h1
    · by_cases e' : i = k
      · rw [if_pos e'] at h2; cases h2
      · rw [if_neg e] at h1 h3
        rw [if_neg e'] at h2 h4
        exact x.own j k c c' a b h1 h2 h3 h4 ne
theorem RB.setV (x : RB g B s H F mu r st) {i : Nat} {d : D} {v : V} (hv : RepV g F mu d v) (hi : i < r.length) : RB g B (s.set i (some v)) H F mu (r.set i (.val d)) st := by
  have hi' : i < s.length := by rw [x.re.len]; exact hi
  refine ⟨x.re.setV hv hi, x.ext, fun j c a h1 h2 => ?_, fun j ci fs a h1 h2 => ?_⟩
  · rw [get_set hi] at h1
    rw [get_set hi'] at h2
    by_cases e : i = j
    · rw [if_pos e] at h1; cases h1
    · rw [if_neg e] at h1 h2
      exact x.own j c a h1 h2
  · rw [get_set hi] at h1
    rw [get_set hi'] at h2
    by_cases e : i = j
    · rw [if_pos e] at h1; cases h1
    · rw [if_neg e] at h1 h2
      exact x.slf j ci fs a h1 h2
theorem RE.setO (x : RE g s H F mu r st) {i : Nat} {c : Cell} {a : Addr} (hF : F a = none) (hm : a ∉ mu) (hc : CellAt g F mu H a c) (hi : i < r.length)
    (hne : ∀ (j : Nat) (c' : Cell) (b : Addr), j ≠ i → r[j]? = some (.own c') → s[j]? = some (some (.ref b)) → b ≠ a) : RE g (s.set i (some (.ref a))) H F mu (r.set i (.own c)) st := by
  have hi' : i < s.length := by rw [x.len]; exact hi
  refine ⟨x.h, by simp [x.len], fun j y hy => ?_, fun j k c1 c2 a1 b1 h1 h2 h3 h4 ne => ?_⟩
  · rw [get_set hi] at hy
    by_cases e : i = j
    · subst e
      rw [if_pos rfl] at hy
      cases hy
      exact ⟨some (.ref a), by simp [hi'], a, rfl, hF, hm, hc⟩
    · rw [if_neg e] at hy
      obtain ⟨o, h1, h2⟩ := x.slot j y hy
      exact ⟨o, by rw [get_set hi', if_neg e]; exact h1, h2⟩
  · rw [get_set hi] at h1 h2
    rw [get_set hi'] at h3 h4
    by_cases e : i = j
    · by_cases e' : i = k
      · exact absurd (e.symm.trans e') ne
      · rw [if_pos e] at h3
        rw [if_neg e'] at h2 h4
        cases h3
        exact Ne.symm (hne k c2 b1 (Ne.symm e') h2 h4)
    · by_cases e' : i = k
      · rw [if_pos e'] at h4
        rw [if_neg e] at h1 h3
        cases h4
        exact hne j c1 a1 (Ne.symm e) h1 h3
      · rw [if_neg e] at h1 h3
        rw [if_neg e'] at h2 h4
        exact x.own j k c1 c2 a1 b1 h1 h2 h3 h4 ne
/-- what other slots own stands in H -/
theorem RE.ownAt (x : RE g s H F mu r st) {j : Nat} {c : Cell} {b : Addr} (h1 : r[j]? = some (.own c)) (h2 : s[j]? = some (some (.ref b))) : F b = none ∧ b ∉ mu ∧ CellAt g F mu H b c := by
  obtain ⟨o, e1, e2⟩ := x.slot j _ h1
  rw [h2] at e1
  cases e1
  obtain ⟨a, e3, e4, e5, e6⟩ := e2
  cases e3
  exact ⟨e4, e5, e6⟩
theorem RE.ownGet (x : RE g s H F mu r st) {j : Nat} {c : Cell} (h1 : r[j]? = some (.own c)) : ∃ b, s[j]? = some (some (.ref b)) ∧ F b = none ∧ b ∉ mu ∧ CellAt g F mu H b c := by
  obtain ⟨o, e1, e2⟩ := x.slot j _ h1
  obtain ⟨a, rfl, e4, e5, e6⟩ := e2
  exact ⟨a, e1, e4, e5, e6⟩
theorem RB.setO (x : RB g B s H F mu r st) {i : Nat} {c : Cell} {a : Addr} (hF : F a = none) (hm : a ∉ mu) (hc : CellAt g F mu H a c) (hi : i < r.length) (h0 : Nw B.H a) (hI : c.noIns = true)
    (hne : ∀ (j : Nat) (c' : Cell) (b : Addr), j ≠ i → r[j]? = some (.own c') → s[j]? = some (some (.ref b)) → b ≠ a) : RB g B (s.set i (some (.ref a))) H F mu (r.set i (.own c)) st := by
  have hi' : i < s.length := by rw [x.re.len]; exact hi
  refine ⟨x.re.setO hF hm hc hi hne, x.ext, fun j c a h1 h2 => ?_, fun j ci fs a h1 h2 => ?_⟩
  · rw [get_set hi] at h1
    rw [get_set hi'] at h2
    by_cases e : i = j
    · rw [if_pos e] at h2
      cases h2
      exact h0
    · rw [if_neg e] at h1 h2
      exact x.own j c a h1 h2
  · rw [get_set hi] at h1
    rw [get_set hi'] at h2
    by_cases e : i = j
    · rw [if_pos e] at h1
      cases h1
      cases hI
    · rw [if_neg e] at h1 h2
      exact x.slf j ci fs a h1 h2
end

section
variable {X : Cx} {g : G} {E : XK} {B : Bs} {pos : Pos} {a b c e o : Expr} {ma mb mc : EM} {es : List Expr} {mas : AM} {sa sb : Stmt} {ss : List Stmt} {m m1 m2 : SM}
theorem qNil : PSs X [] (rdS g E B sNext) := PSs.imp pss_nil fun D s H h => by
  obtain ⟨r, st, F, mu, rb, h⟩ := h
  exact h s H F mu rb (.refl _ _)
theorem qSeq (h1 : PS X sa (rdS g E B m1)) (h2 : PSs X ss (rdS g E B m2)) : PSs X (sa :: ss) (rdS g E B (sSeq m1 m2)) := PSs.imp (pss_cons h1 h2) fun D s H h => by
  obtain ⟨r, st, F, mu, rb, h⟩ := h
  refine ⟨r, st, F, mu, rb, ?_⟩
  unfold sSeq at h
  cases hm : m1 r st with
  | nx r1 st1 =>
    rw [hm] at h
    exact fun s' H' F' mu' rb' k => ⟨r1, st1, F', mu', rb', h.mono k⟩
  | rt d st1 => rw [hm] at h; exact h
  | bk r1 st1 => rw [hm] at h; exact h
  | ct r1 st1 => rw [hm] at h; exact h
  | exc e r1 st1 => rw [hm] at h; exact h
  | bad => rw [hm] at h; exact h
theorem qOne (h1 : PS X sa (rdS g E B m1)) : PSs X [sa] (rdS g E B m1) := pss_one h1
/-- from an expression's end to the statement's -/
theorem sbind {α β : Type} {D : Ends} {s : L2.St} {H F : Hp} {mu : List Addr} {r : Env} {st : Mir.St} {rep : Hp → Hp → List Addr → α → β → Prop} {Q : β → Hp → Prop} {x : Out α} {k : α → Mir.St → SOut} (rb : RB g B s H F mu r st)
    (h : PostS g E B F mu D (sBind r x k))
    (hk : ∀ y st' v H' F' mu', x = .ok y st' → Ext H F mu H' F' mu' → RB g B s H' F' mu' r st' → rep H' F' mu' y v → PostS g E B F' mu' D (k y st') → Q v H') : OutQ g s H F mu r rep E Q x := by
  cases x with
  | ok y st' => exact fun v H' F' mu' e re rp => hk y st' v H' F' mu' rfl e (rb.step e re) rp (h.mono e.mo)
  | exc e st' => exact fun H' F' mu' ex re => h H' F' mu' re.h (rb.ext.trans ex)
  | bad => exact h
theorem qSet {i : Nat} {x : Str} {pos' : Pos} (hN : X.N.Nodup) (hi : X.N[i]? = some x) (hx : Loc X.env.scope x) (he : PE X e (rdE g E ma)) (hs : swapsWith e (some (.Name x pos')) pos.line X.env = pure false := by rfl) (hf : X.fn x = true ∨ X.env.scope.names.lookup x = some .local := by first | exact .inl rfl | exact .inr rfl | assumption) :
    PS X (.Assign [.Name x pos'] e pos) (rdS g E B (sSet i ma)) := PS.imp (ps_set hN hi hx he hs hf) fun D s H h => by
  obtain ⟨r, st, F, mu, rb, h⟩ := h
  refine ⟨r, st, F, mu, rb.re, sbind rb h fun y st' v H' F' mu' _ e rb' rp h' => ?_⟩
  cases y with
  | bor c => exact h'.elim
  | val d =>
    dsimp only at h'
    by_cases hl : i < r.length
    · rw [if_pos hl] at h'
      exact h' _ H' F' mu' (rb'.setV rp hl) (.refl _ _)
    · rw [if_neg hl] at h'
      exact h'.elim
theorem qOwn {i : Nat} {x : Str} {n : NM} {pos' : Pos} (hN : X.N.Nodup) (hi : X.N[i]? = some x) (hx : Loc X.env.scope x) (he : PE X e (rdN g E n)) (hs : swapsWith e (some (.Name x pos')) pos.line X.env = pure false := by rfl) (hf : X.fn x = true ∨ X.env.scope.names.lookup x = some .local := by first | exact .inl rfl | exact .inr rfl | assumption) :
    PS X (.Assign [.Name x pos'] e pos) (rdS g E B (sOwn i n)) := PS.imp (ps_set hN hi hx he hs hf) fun D s H h => by
  obtain ⟨r, st, F, mu, rb, h⟩ := h
  refine ⟨r, st, F, mu, rb.re, sbind rb h fun y st' v H' F' mu' _ e rb' rp h' => ?_⟩
  obtain ⟨p, rfl, q1, q2, q3, q4⟩ := rp
  split at h'
  · rename_i hl
    refine h' _ H' F' mu' (rb'.setO q1 q2 q4 hl.1 (rb.ext.dom _ q3) hl.2 fun j c' b hj h1 h2 => ?_) (.refl _ _)
    obtain ⟨_, _, z⟩ := rb.re.ownAt h1 h2
    obtain ⟨u, z1, z2, _⟩ := z.there
    exact fun z => q3.no (z ▸ z1) z2
  · exact h'.elim
theorem qIf {t : Expr} {mt : TM} {sa sb : List Stmt} (ht : PT X t (rdT g E mt)) (ha : PSs X sa (rdS g E B m1)) (hb : PSs X sb (rdS g E B m2)) : PS X (.If t sa sb pos) (rdS g E B (sIf mt m1 m2)) := PS.imp (ps_if ht ha hb) fun D s H h => by
  obtain ⟨r, st, F, mu, rb, h⟩ := h
  refine ⟨r, st, F, mu, rb.re, sbind rb h fun y st' v H' F' mu' _ e rb' rp h' => ?_⟩
  subst rp
  cases y with
  | true => rw [if_pos rfl] at h' ⊢; exact ⟨r, st', F', mu', rb', h'⟩
  | false => rw [if_neg Bool.false_ne_true] at h' ⊢; exact ⟨r, st', F', mu', rb', h'⟩
theorem qRet (he : PE X e (rdE g E ma)) : PS X (.Return (some e) pos) (rdS g E B (sRet ma)) := PS.imp (ps_ret he) fun D s H h => by
  obtain ⟨r, st, F, mu, rb, h⟩ := h
  refine ⟨r, st, F, mu, rb.re, sbind rb h fun y st' v H' F' mu' _ e rb' rp h' => ?_⟩
  cases y with
  | bor c => exact h'.elim
  | val d => exact h' v H' F' mu' rb'.re.h rb'.ext rp
theorem qRetV {i : Nat} (he : PE X e (tVar i)) : PS X (.Return (some e) pos) (rdS g E B (sRetV i)) := PS.imp (ps_ret he) fun D s H h => by
  obtain ⟨r, st, F, mu, rb, h⟩ := h
  unfold sRetV at h
  cases hr : r[i]? with
  | none => rw [hr] at h; exact h.elim
  | some y =>
    rw [hr] at h
    cases y with
    | no => exact h.elim
    | val d =>
      obtain ⟨o, h1, v, rfl, h2⟩ := rb.re.slot i _ hr
      exact ⟨v, h1, h v H F mu rb.re.h rb.ext h2⟩
    | own c =>
      obtain ⟨p, h1, h2, h3, h4⟩ := rb.re.ownGet hr
      dsimp only at h
      cases hd : c.frz with
      | none => rw [hd] at h; exact h.elim
      | some d =>
        rw [hd] at h
        obtain ⟨u, u1, u2, u3⟩ := h4.frz rb.re.h h2 h3 hd
        exact ⟨.ref p, h1, h (.ref p) H (upd F p u) mu u2 (rb.ext.freeze h2 (rb.own i c p hr h1)) u3⟩
theorem qRetN : PS X (.Return none pos) (rdS g E B sRetN) := PS.imp ps_retN fun D s H h => by
  obtain ⟨r, st, F, mu, rb, h⟩ := h
  exact h _ H F mu rb.re.h rb.ext (by simp only [RepV])
theorem qExpr (he : PE X e (rdE g E ma)) (hs : swapsWith e none pos.line X.env = pure false := by rfl) : PS X (.Expr e pos) (rdS g E B (sExpr ma)) := PS.imp (ps_expr he hs) fun D s H h => by
  obtain ⟨r, st, F, mu, rb, h⟩ := h
  exact ⟨r, st, F, mu, rb.re, sbind rb h fun y st' v H' F' mu' _ e rb' rp h' => h' _ H' F' mu' rb' (.refl _ _)⟩
theorem qDoc {x j p2} : PS X (.Expr (.Constant (.str x) j pos) p2) (rdS g E B sNext) := PS.imp ps_doc fun D s H h => by
  obtain ⟨r, st, F, mu, rb, h⟩ := h
  exact h s H F mu rb (.refl _ _)
theorem qBreak : PS X (.Break pos) (rdS g E B sBreak) := PS.imp ps_break fun D s H h => by
  obtain ⟨r, st, F, mu, rb, h⟩ := h
  exact h s H F mu rb (.refl _ _)
theorem qCont : PS X (.Continue pos) (rdS g E B sCont) := PS.imp ps_continue fun D s H h => by
  obtain ⟨r, st, F, mu, rb, h⟩ := h
  exact h s H F mu rb (.refl _ _)
theorem qRaise {k : Nat} {C : Addr} (hx : g.ex k = some C) (h : PS X sa (fun D s H => E (.ref C) none H)) : PS X sa (rdS g E B (sRaise k)) := PS.imp h fun D s H h => by
  obtain ⟨r, st, F, mu, rb, h⟩ := h
  obtain ⟨C', h1, h2⟩ := h H F mu rb.re.h rb.ext
  rw [hx] at h1
  cases h1
  exact h2

/-! ### targets -/
/-- what the target does with a value -/
def TgS (g : G) (tr : TG) (tg : Tg) : Prop := ∀ (H F : Hp) (mu : List Addr) (st : Mir.St) (R : L2.St → Env → Prop) (s : L2.St) (r : Env) (d : D) (v : V) (r1 : Env) (Q : L2.St → Hp → Prop), RH g H F mu st →
  (∀ s r i d v, R s r → RepV g F mu d v → i < r.length → R (s.set i (some v)) (r.set i (.val d))) → R s r → RepV g F mu d v → bindT tg d r = some r1 →
  (∀ s', R s' r1 → (∀ vs : List Nat, (∀ i ∈ tg.slots, i ∈ vs) → wipe s' vs = wipe s vs) → Q s' H) → tr v s H Q
def TgsS (g : G) (tr : TGs) (tgs : List Tg) : Prop := ∀ (H F : Hp) (mu : List Addr) (st : Mir.St) (R : L2.St → Env → Prop) (s : L2.St) (r : Env) (ds : List D) (vs : List V) (r1 : Env) (Q : L2.St → Hp → Prop), RH g H F mu st →
  (∀ s r i d v, R s r → RepV g F mu d v → i < r.length → R (s.set i (some v)) (r.set i (.val d))) → R s r → RepL g F mu ds vs → bindTs tgs ds r = some r1 →
  (∀ s', R s' r1 → (∀ vs : List Nat, (∀ i ∈ Tg.slotsL tgs, i ∈ vs) → wipe s' vs = wipe s vs) → Q s' H) → tr vs s H Q
theorem wipe_set {i : Nat} {v : Option V} : ∀ (vs : List Nat) (s : L2.St), i ∈ vs → wipe (s.set i v) vs = wipe s vs
  | w :: vs, s, h => by
    unfold wipe
    by_cases e : i ∈ vs
    · rw [wipe_set vs s e]
    · have hw : i = w := by
        rcases List.mem_cons.mp h with h | h
        · exact h
        · exact absurd h e
      subst hw
      refine List.ext_getElem? fun j => ?_
      by_cases hj : j = i
      · subst hj
        by_cases hl : j < s.length
        · rw [List.getElem?_set_self (by rw [wipe_length, List.length_set]; exact hl), List.getElem?_set_self (by rw [wipe_length]; exact hl)]
        · rw [List.getElem?_eq_none (by simp [wipe_length]; omega), List.getElem?_eq_none (by simp [wipe_length]; omega)]
      · rw [List.getElem?_set_ne (Ne.symm hj), List.getElem?_set_ne (Ne.symm hj)]
        have aux : ∀ (vs : List Nat) (s s' : L2.St), s[j]? = s'[j]? → s.length = s'.length → (wipe s vs)[j]? = (wipe s' vs)[j]? := by
          intro vs
          induction vs with
          | nil => intro s s' h _; exact h
          | cons w vs ih =>
            intro s s' h hl
            unfold wipe
            by_cases hjw : w = j
            · subst hjw
              by_cases hq : w < s.length
              · rw [List.getElem?_set_self (by rw [wipe_length]; exact hq), List.getElem?_set_self (by rw [wipe_length, ← hl]; exact hq)]
              · rw [List.getElem?_eq_none (by simp [wipe_length]; omega), List.getElem?_eq_none (by simp [wipe_length]; omega)]
            · rw [List.getElem?_set_ne hjw, List.getElem?_set_ne hjw]
              exact ih s s' h hl
        exact aux vs _ _ (List.getElem?_set_ne (Ne.symm hj)) (by simp)
theorem tgN {i : Nat} : TgS g (gName i) (.nm i) := by
  intro H F mu st R s r d v r1 Q rh hc hR hv hb k
  simp only [bindT] at hb
  split at hb
  · rename_i hl
    cases hb
    exact k _ (hc s r i d v hR hv hl) fun vs h => wipe_set vs s (h i (by simp [Tg.slots]))
  · cases hb
theorem tgsN : TgsS g gNil [] := by
  intro H F mu st R s r ds vs r1 Q rh hc hR hv hb k
  cases ds with
  | nil =>
    simp only [bindTs] at hb
    cases hb
    simp only [RepL] at hv
    exact ⟨hv, k s hR fun _ _ => rfl⟩
  | cons d ds => simp [bindTs] at hb
theorem tgsC {t : TG} {u : TGs} {tg : Tg} {tgs : List Tg} (h1 : TgS g t tg) (h2 : TgsS g u tgs) : TgsS g (gCons t u) (tg :: tgs) := by
  intro H F mu st R s r ds vs r1 Q rh hc hR hv hb k
  cases ds with
  | nil => simp [bindTs] at hb
  | cons d ds =>
    simp only [bindTs] at hb
    simp only [RepL] at hv
    obtain ⟨v, rest, rfl, hv1, hv2⟩ := hv
    refine ⟨v, rest, rfl, ?_⟩
    cases hb1 : bindT tg d r with
    | none => rw [hb1] at hb; cases hb
    | some r' =>
      rw [hb1] at hb
      refine h1 H F mu st R s r d v r' _ rh hc hR hv1 hb1 fun s' hR' hw' => ?_
      refine h2 H F mu st R s' r' ds rest r1 Q rh hc hR' hv2 hb fun s2 hR2 hw2 => ?_
      refine k s2 hR2 fun ws hws => ?_
      simp only [Tg.slotsL, List.mem_append] at hws
      rw [hw2 ws fun i hi => hws i (.inr hi), hw' ws fun i hi => hws i (.inl hi)]
theorem tgT {n : Nat} {u : TGs} {tgs : List Tg} (h : TgsS g u tgs) (hn : tgs.length = n) : TgS g (gTup g.K n u) (.tp tgs) := by
  intro H F mu st R s r d v r1 Q rh hc hR hv hb k
  have hl : ∀ (ts : List Tg) (ds : List D) (r r1 : Env), bindTs ts ds r = some r1 → ds.length = ts.length := by
    intro ts
    induction ts with
    | nil => intro ds r r1 h; cases ds <;> simp [bindTs] at h ⊢
    | cons t ts ih =>
      intro ds r r1 h
      cases ds with
      | nil => simp [bindTs] at h
      | cons d ds =>
        simp only [bindTs] at h
        split at h
        · simp [ih _ _ _ h]
        · cases h
  have fin : ∀ (ds : List D) (p : Addr) (vs : List V), SqT g.K H p vs → RepL g F mu ds vs → bindTs tgs ds r = some r1 → gTup g.K n u (.ref p) s H Q := fun ds p vs h1 h2 hb =>
    ⟨p, vs, rfl, h1, by rw [← h2.length, hl _ _ _ _ hb, hn], h H F mu st R s r ds vs r1 Q rh hc hR h2 hb fun s' hR' hw => k s' hR' fun ws hws => hw ws fun i hi => hws i (by simpa [Tg.slots] using hi)⟩
  cases d with
  | tup ds =>
    simp only [bindT] at hb
    simp only [RepV] at hv
    obtain ⟨p, vs, rfl, h1, h2⟩ := hv
    exact fin ds p vs (rh.seqT h1) h2 hb
  | ktp ds =>
    simp only [bindT] at hb
    simp only [RepV] at hv
    obtain ⟨p, vs, rfl, h1, h2⟩ := hv
    exact fin ds p vs h1.seq h2 hb
  | _ => simp [bindT] at hb
theorem qUnp {tg : Tg} {tr : TG} {tgt : Expr} (he : PE X e (rdE g E ma)) (hg : PG X tgt tr) (hT : TgS g tr tg) (h0 : PS X (.Assign [tgt] e pos) (tAsg (rdE g E ma) tr)) : PS X (.Assign [tgt] e pos) (rdS g E B (sUnp tg ma)) := PS.imp h0 fun D s H h => by
  obtain ⟨r, st, F, mu, rb, h⟩ := h
  refine ⟨r, st, F, mu, rb.re, sbind rb h fun y st' v H' F' mu' _ e rb' rp h' => ?_⟩
  cases y with
  | bor c => exact h'.elim
  | val d =>
    dsimp only at h'
    cases hb : bindT tg d r with
    | none => rw [hb] at h'; exact h'.elim
    | some r1 =>
      rw [hb] at h'
      refine hT H' F' mu' st' (fun s r => RB g B s H' F' mu' r st') s r d v r1 _ rb'.re.h (fun s r i d v h1 h2 h3 => h1.setV h2 h3) rb' rp hb fun s' hR _ => ?_
      exact h' s' H' F' mu' hR (.refl _ _)

/-! ### what is walked -/
/-- J hands out the data ds -/
def Iter (g : G) (J : It) (ds : List D) (w : Watch) (F0 : Hp) (mu0 : List Addr) : Prop := ∀ (H F : Hp) (mu : List Addr) (st : Mir.St), Mono F0 mu0 F mu → RH g H F mu st → w.ok st = true → ∀ i : Nat, (i = ds.length → J.stop i H) ∧ ∀ d, ds[i]? = some d → J.go i H ∧
  ∀ x H', J.yld i H x H' → ∃ F', RH g H' F' mu st ∧ Ext H F mu H' F' mu ∧ RepV g F' mu d x
def rdI (g : G) (E : XK) (m : IM) : TI := fun s H R => ∃ r st F mu, RE g s H F mu r st ∧ OutQ g s H F mu r (fun _ F' mu' p J => Iter g J p.1 p.2 F' mu') E R (m r st)
theorem PI.imp {tg : Expr} {w w' : TI} (h : PI X tg e w) (k : ∀ s H R, w' s H R → w s H R) : PI X tg e w' := ⟨fun pins s σ H R I q => h.run pins s σ H R I (k σ H R q)⟩
def isFree : Watch → Bool
  | .free => true
  | _ => false
theorem qFor {tgt iter : Expr} {body : List Stmt} {it : IM} {tg : Tg} {tr : TG} (hp : PassesOwn (model X.prog X.w) X.A X.env X.xe) (hc : X.calm = true) (hi : PI X tgt iter (rdI g E it)) (hg : PG X tgt tr) (hT : TgS g tr tg) (hb : PSs X body (rdS g E B m1))
    (hs : ∀ x, foldedSetIterable iter X.env x = pure x := by intro _; rfl) : PS X (.For tgt iter body [] pos) (rdS g E B (sFor it tg m1)) := PS.imp (ps_for hp hc hi hg hb hs) fun D s H h => by
  obtain ⟨r, st, F, mu, rb, h⟩ := h
  refine ⟨r, st, F, mu, rb.re, sbind rb h fun p st1 J H1 F1 mu1 _ e1 rb1 hJ h1 => ?_⟩
  obtain ⟨ds, w⟩ := p
  dsimp only at h1 hJ
  split at h1
  · rename_i hw0
    refine ⟨fun i k σ H => k = ds.length - i ∧ i ≤ ds.length ∧ ∃ r st F mu, RB g B σ H F mu r st ∧ Mono F1 mu1 F mu ∧ w.ok st = true ∧ PostS g E B F mu D (forLoop tg m1 w (ds.drop i) r st),
      ⟨ds.length, by simp, Nat.zero_le _, r, st1, F1, mu1, rb1, .refl _ _, hw0, by simpa using h1⟩, ?_⟩
    rintro i k σ H2 ⟨rfl, hik, r2, st2, F2, mu2, rb2, mo2, hw2, h2⟩
    have hJi := hJ H2 F2 mu2 st2 mo2 rb2.re.h hw2 i
    by_cases hlt : i < ds.length
    · have hd : ds[i]? = some ds[i] := List.getElem?_eq_getElem hlt
      obtain ⟨hgo, hy⟩ := hJi.2 _ hd
      rw [List.drop_eq_getElem_cons hlt] at h2
      unfold forLoop at h2
      refine .inr ⟨hgo, fun σ' H' => ∃ r st F mu, RB g B σ' H' F mu r st ∧ Mono F1 mu1 F mu ∧ w.ok st = true ∧ PostS g E B F mu D (forLoop tg m1 w (ds.drop (i + 1)) r st), fun σ' H' hN => ⟨ds.length - (i + 1), by omega, rfl, hlt, hN⟩, fun x H' yy => ?_⟩
      obtain ⟨F', rh', ex', rv⟩ := hy x H' yy
      have rb' := rb2.step ex' (rb2.re.step ex' rh')
      cases hbt : bindT tg ds[i] r2 with
      | none => rw [hbt] at h2; exact h2.elim
      | some r3 =>
        rw [hbt] at h2
        dsimp only at h2
        refine hT H' F' mu2 st2 (fun s r => RB g B s H' F' mu2 r st2) σ r2 _ x r3 _ rh' (fun s r i d v q1 q2 q3 => q1.setV q2 q3) rb' rv hbt fun s' hR _ => ?_
        refine ⟨r3, st2, F', mu2, hR, ?_⟩
        have h2' := PostS.mono (D := D) ex'.mo h2
        cases hm : m1 r3 st2 with
        | nx r4 st4 =>
          rw [hm] at h2'
          dsimp only at h2'
          split at h2'
          · rename_i hw4
            exact fun s4 H4 F4 mu4 rb4 mo4 => ⟨r4, st4, F4, mu4, rb4, (mo2.trans ex'.mo).trans mo4, hw4, PostS.mono mo4 h2'⟩
          · exact h2'.elim
        | ct r4 st4 =>
          rw [hm] at h2'
          dsimp only at h2'
          split at h2'
          · rename_i hw4
            exact fun s4 H4 F4 mu4 rb4 mo4 => ⟨r4, st4, F4, mu4, rb4, (mo2.trans ex'.mo).trans mo4, hw4, PostS.mono mo4 h2'⟩
          · exact h2'.elim
        | bk r4 st4 => rw [hm] at h2'; exact h2'
        | rt d st4 => rw [hm] at h2'; exact h2'
        | exc e r4 st4 => rw [hm] at h2'; exact h2'
        | bad => rw [hm] at h2'; exact h2'
    · have he : i = ds.length := by omega
      subst he
      rw [List.drop_length] at h2
      exact .inl ⟨hJi.1 rfl, h2 σ H2 F2 mu2 rb2 (.refl _ _)⟩
  · exact h1.elim
theorem qWhile {t : Expr} {body : List Stmt} {mt : TM} (hp : PassesOwn (model X.prog X.w) X.A X.env X.xe) (ht : PT X t (rdT g E mt)) (hb : PSs X body (rdS g E B m1)) : PS X (.While t body [] pos) (rdS g E B (sWhile mt m1)) := PS.imp (ps_while hp ht hb) fun D s H h => by
  obtain ⟨r, st, F, mu, rb, h⟩ := h
  refine ⟨fun k σ H => ∃ r st F mu, RB g B σ H F mu r st ∧ PostS g E B F mu D (whileLoop mt m1 k r st), ⟨fuel, r, st, F, mu, rb, h⟩, ?_⟩
  rintro k σ H2 ⟨r2, st2, F2, mu2, rb2, h2⟩
  cases k with
  | zero => exact h2.elim
  | succ k =>
    unfold whileLoop at h2
    refine ⟨r2, st2, F2, mu2, rb2.re, ?_⟩
    cases hm : mt r2 st2 with
    | ok c st3 =>
      rw [hm] at h2
      intro c' H3 F3 mu3 e3 re3 ec
      subst ec
      have rb3 := rb2.step e3 re3
      cases c with
      | true =>
        rw [if_pos rfl]
        refine ⟨fun σ' H' => ∃ r st F mu, RB g B σ' H' F mu r st ∧ PostS g E B F mu D (whileLoop mt m1 k r st), fun σ' H' hN => ⟨k, Nat.lt_succ_self _, hN⟩, r2, st3, F3, mu3, rb3, ?_⟩
        have h2' := PostS.mono (D := D) e3.mo h2
        dsimp only at h2'
        cases hb4 : m1 r2 st3 with
        | nx r4 st4 => rw [hb4] at h2'; exact fun s4 H4 F4 mu4 rb4 mo4 => ⟨r4, st4, F4, mu4, rb4, PostS.mono mo4 h2'⟩
        | ct r4 st4 => rw [hb4] at h2'; exact fun s4 H4 F4 mu4 rb4 mo4 => ⟨r4, st4, F4, mu4, rb4, PostS.mono mo4 h2'⟩
        | bk r4 st4 => rw [hb4] at h2'; exact h2'
        | rt d st4 => rw [hb4] at h2'; exact h2'
        | exc e r4 st4 => rw [hb4] at h2'; exact h2'
        | bad => rw [hb4] at h2'; exact h2'
      | false =>
        rw [if_neg Bool.false_ne_true]
        exact h2 σ H3 F3 mu3 rb3 e3.mo
    | exc e st3 =>
      rw [hm] at h2
      exact fun H' F' mu' ex re => h2 H' F' mu' re.h (rb2.ext.trans ex)
    | bad => rw [hm] at h2; exact h2.elim

/-! ### comprehensions -/
theorem wipeE_len : ∀ (vs : List Nat) (r : Env), (wipeE vs r).length = r.length
  | [], r => rfl
  | v :: vs, r => by unfold wipeE; rw [List.length_set, wipeE_len vs r]
theorem RE.wipe {s : L2.St} {H F : Hp} {mu : List Addr} {r : Env} {st : Mir.St} (x : RE g s H F mu r st) : ∀ vs : List Nat, RE g (L2.wipe s vs) H F mu (wipeE vs r) st
  | [] => x
  | w :: vs => by
    have ih := x.wipe vs
    unfold L2.wipe wipeE
    by_cases hw : w < r.length
    · have hl : w < (wipeE vs r).length := by rw [wipeE_len]; exact hw
      have hl' : w < (L2.wipe s vs).length := by rw [ih.len]; exact hl
      refine ⟨ih.h, by simp [ih.len], fun j y hy => ?_, fun i j c c' a b h1 h2 h3 h4 ne => ?_⟩
      · rw [get_set hl] at hy
        by_cases e : w = j
        · rw [if_pos e] at hy
          cases hy
          exact ⟨none, by rw [get_set hl', if_pos e], trivial⟩
        · rw [if_neg e] at hy
          obtain ⟨o, q1, q2⟩ := ih.slot j y hy
          exact ⟨o, by rw [get_set hl', if_neg e]; exact q1, q2⟩
      · rw [get_set hl] at h1 h2
        rw [get_set hl'] at h3 h4
        by_cases e : w = i
        · rw [if_pos e] at h1; cases h1
        · by_cases e' : w = j
          · rw [if_pos e'] at h2; cases h2
          · rw [if_neg e] at h1 h3
            rw [if_neg e'] at h2 h4
            exact ih.own i j c c' a b h1 h2 h3 h4 ne
    · rw [List.set_eq_of_length_le (by rw [ih.len, wipeE_len]; omega), List.set_eq_of_length_le (by rw [wipeE_len]; omega)]
      exact ih
theorem yLcT {E' : XK} {it : IM} {tg : Tg} {tr : TG} {mt : TM} {tt : TT} {vs : List Nat} (hv : ∀ i ∈ tg.slots, i ∈ vs) (hT : TgS g tr tg) (htt : ∀ s H Q, rdT g E' mt s H Q → tt s H Q) : ∀ s H Q, rdN g E (nLc it tg mt ma vs) s H Q → tLc (rdI g E it) tr tt (rdE g E' ma) vs s H Q := by
  intro s H Q k
  obtain ⟨r, st, F, mu, re, k⟩ := k
  refine ⟨r, st, F, mu, re, OutQ.bind k fun p st1 J H1 F1 mu1 _ e1 re1 hJ k1 => ?_⟩
  obtain ⟨ds, w⟩ := p
  dsimp only at hJ k1
  intro D hD
  split at k1
  · rename_i hw0
    refine ⟨fun i m H2 => m = ds.length - i ∧ i ≤ ds.length ∧ ∃ acc us st2 F2 mu2, RE g s H2 F2 mu2 r st2 ∧ Ext H1 F1 mu1 H2 F2 mu2 ∧ F2 D = none ∧ D ∉ mu2 ∧ H2 D = some (.lst us) ∧ RepL g F2 mu2 acc us ∧ w.ok st2 = true ∧
      OutQ g s H F mu r (fun H' F' mu' c v => ∃ a, v = .ref a ∧ F' a = none ∧ a ∉ mu' ∧ Nw H a ∧ CellAt g F' mu' H' a c) E Q (lcRes (lcLoop tg mt ma vs w r (ds.drop i) acc st2)),
      ⟨ds.length, by simp, Nat.zero_le _, [], [], st1, F1, mu1, re1.step (Ext.newOwn hD) (re1.h.newOwn hD), Ext.newOwn hD, F_new re1.h hD, fun z => mem_mu re1.h z hD, upd_same, .nil, hw0, by simpa using k1⟩, ?_⟩
    rintro i m H2 ⟨rfl, hik, acc, us, st2, F2, mu2, re2, ex2, fD, mD, hHD, rl, hw2, k2⟩
    have mo2 : Mono F1 mu1 F2 mu2 := ex2.mo
    have hJi := hJ H2 F2 mu2 st2 mo2 re2.h hw2 i
    by_cases hlt : i < ds.length
    · have hd : ds[i]? = some ds[i] := List.getElem?_eq_getElem hlt
      obtain ⟨hgo, hy⟩ := hJi.2 _ hd
      rw [List.drop_eq_getElem_cons hlt] at k2
      unfold lcLoop at k2
      refine .inr ⟨hgo, fun H' => ∃ acc us st2 F2 mu2, RE g s H' F2 mu2 r st2 ∧ Ext H1 F1 mu1 H' F2 mu2 ∧ F2 D = none ∧ D ∉ mu2 ∧ H' D = some (.lst us) ∧ RepL g F2 mu2 acc us ∧ w.ok st2 = true ∧
        OutQ g s H F mu r (fun H' F' mu' c v => ∃ a, v = .ref a ∧ F' a = none ∧ a ∉ mu' ∧ Nw H a ∧ CellAt g F' mu' H' a c) E Q (lcRes (lcLoop tg mt ma vs w r (ds.drop (i + 1)) acc st2)),
        fun H' hN => ⟨ds.length - (i + 1), by omega, rfl, hlt, hN⟩, fun x H' yy => ?_⟩
      obtain ⟨F', rh', ex', rv⟩ := hy x H' yy
      have re' := re2.step ex' rh'
      have keepD : ∀ {H3 F3 : Hp} {mu3 : List Addr}, Ext H2 F2 mu2 H3 F3 mu3 → F3 D = none ∧ D ∉ mu3 ∧ H3 D = some (.lst us) := by
        intro H3 F3 mu3 ex3
        refine ⟨?_, fun z => ?_, ex3.keep D _ hHD mD (fun ps z => by cases z)⟩
        · cases q : F3 D with
          | none => rfl
          | some z =>
            rcases ex3.frF D z q with y | y
            · rw [fD] at y; cases y
            · exact (y.no hHD (fun ps z => by cases z)).elim
        · rcases ex3.frM D z with y | y
          · exact mD y
          · exact y.no hHD (fun ps z => by cases z)
      cases hbt : bindT tg ds[i] (wipeE vs r) with
      | none => rw [hbt] at k2; exact k2.elim
      | some r3 =>
        rw [hbt] at k2
        dsimp only at k2
        refine hT H' F' mu2 st2 (fun s r => RE g s H' F' mu2 r st2) (L2.wipe s vs) (wipeE vs r) _ x r3 _ rh' (fun s r i d v q1 q2 q3 => q1.setV q2 q3) (re'.wipe vs) rv hbt fun s' hR hws => ?_
        have hww := hws vs hv
        have wipe_idem : ∀ (vs : List Nat) (s : L2.St), wipe (wipe s vs) vs = wipe s vs := by
          have h1 : ∀ (vs : List Nat) (s : L2.St) (i : Nat), i ∈ vs → (wipe s vs)[i]? = if i < s.length then some none else none := by
            intro vs
            induction vs with
            | nil => intro s i h; cases h
            | cons w vs ih =>
              intro s i h
              unfold wipe
              by_cases e : w = i
              · subst e
                by_cases hl : w < s.length
                · rw [List.getElem?_set_self (by rw [wipe_length]; exact hl), if_pos hl]
                · rw [List.getElem?_eq_none (by simp [wipe_length]; omega), if_neg hl]
              · rw [List.getElem?_set_ne e]
                exact ih s i ((List.mem_cons.mp h).resolve_left (Ne.symm e))
          intro vs s
          refine List.ext_getElem? fun j => ?_
          by_cases hj : j ∈ vs
          · rw [h1 vs _ j hj, h1 vs _ j hj, wipe_length]
          · rw [wipe_out hj]
        rw [wipe_idem] at hww
        refine ⟨hww, htt _ _ _ ⟨r3, st2, F', mu2, hR, ?_⟩⟩
        cases hm : mt r3 st2 with
        | exc e st3 => rw [hm] at k2; exact k2.elim
        | bad => rw [hm] at k2; exact k2.elim
        | ok c st3 =>
          rw [hm] at k2
          intro c' H3 F3 mu3 e3 re3 ec
          subst ec
          cases c with
          | true =>
            rw [if_pos rfl]
            dsimp only at k2
            refine ⟨r3, st3, F3, mu3, re3, ?_⟩
            cases hm4 : ma r3 st3 with
            | exc e st4 => rw [hm4] at k2; exact k2.elim
            | bad => rw [hm4] at k2; exact k2.elim
            | ok y st4 =>
              rw [hm4] at k2
              intro v H4 F4 mu4 e4 re4 ry
              cases y with
              | bor c => exact k2.elim
              | val d =>
                dsimp only at k2
                by_cases hz : w.ok st4 = true ∧ acc.length < lim
                · rw [if_pos hz] at k2
                  have exA : Ext H2 F2 mu2 H4 F4 mu4 := (ex'.trans e3).trans e4
                  obtain ⟨d1, d2, d3⟩ := keepD exA
                  refine ⟨us, d3, ?_, acc ++ [d], us ++ [v], st4, F4, mu4, ?_, ?_, d1, d2, upd_same, ?_, hz.1, k2⟩
                  · rw [← rl.length]
                    exact Nat.lt_of_lt_of_le hz.2 lim_line
                  · have rh5 : RH g (upd H4 D (.lst (us ++ [v]))) F4 mu4 st4 := re4.h.putOwn d1 d2 d3 (fun _ z => by cases z) (fun _ z => by cases z)
                    have exB : Ext H F mu (upd H4 D (.lst (us ++ [v]))) F4 mu4 := by
                      have q := e1.trans (ex2.trans exA)
                      refine ⟨q.mo, fun a o h1 h2 h3 => ?_, fun a h1 => ?_, q.frF, q.frM⟩
                      · rw [upd_ne (fun (z : a = D) => (dom_none e1 hD).no (z ▸ h1) h3)]
                        exact q.keep a o h1 h2 h3
                      · exact q.dom a (Nw.put (fun ps z => by cases z) h1)
                    exact re.step exB rh5
                  · have q := ex2.trans exA
                    refine ⟨q.mo, fun a o h1 h2 h3 => ?_, fun a h1 => ?_, q.frF, q.frM⟩
                    · rw [upd_ne (fun z => by rw [z, hD] at h1; cases h1)]
                      exact q.keep a o h1 h2 h3
                    · exact q.dom a (Nw.put (fun ps z => by cases z) h1)
                  · exact (RepL.mono exA.mo _ _ rl).append (.one ry)
                · rw [if_neg hz] at k2
                  exact k2.elim
          | false =>
            rw [if_neg Bool.false_ne_true]
            dsimp only at k2
            by_cases hz : w.ok st3 = true
            · rw [if_pos hz] at k2
              have exA : Ext H2 F2 mu2 H3 F3 mu3 := ex'.trans e3
              obtain ⟨d1, d2, d3⟩ := keepD exA
              exact ⟨acc, us, st3, F3, mu3, re.step (e1.trans (ex2.trans exA)) re3.h, ex2.trans exA, d1, d2, d3, RepL.mono exA.mo _ _ rl, hz, k2⟩
            · rw [if_neg hz] at k2
              exact k2.elim
    · have he : i = ds.length := by omega
      subst he
      rw [List.drop_length] at k2
      exact .inl ⟨hJi.1 rfl, k2 _ H2 F2 mu2 (e1.trans ex2) re2 ⟨D, rfl, fD, mD, dom_none e1 hD, us, hHD, rl⟩⟩
  · exact k1.elim
theorem yLc {E' : XK} {it : IM} {tg : Tg} {tr : TG} {mt : TM} {tt : TT} {vs : List Nat} (hv : ∀ i ∈ tg.slots, i ∈ vs) (hT : TgS g tr tg) (htt : ∀ s H Q, rdT g E' mt s H Q → tt s H Q) (h : PE X e (tLc (rdI g E it) tr tt (rdE g E' ma) vs)) : PE X e (rdN g E (nLc it tg mt ma vs)) := PE.imp h (yLcT hv hT htt)
end
end Mir
/-! E7: stores to lists and objects, defs, what is walked. -/
namespace Mir
open PySem PySem.Spec PyProof.Rows L2
section
variable {X : Cx} {g : G} {E : XK} {B : Bs} {pos : Pos} {a b c e o : Expr} {ma mb mc : EM} {es : List Expr} {mas : AM} {sa sb : Stmt} {ss : List Stmt} {m m1 m2 : SM}

/-! ### two names at once -/
theorem RB.ownFresh {s : L2.St} {H F : Hp} {mu : List Addr} {r : Env} {st : Mir.St} (rb : RB g B s H F mu r st) {p : Addr} (h0 : ∀ (j : Nat) (c' : Cell) (b : Addr), r[j]? = some (.own c') → s[j]? = some (some (.ref b)) → b ≠ p) (i : Nat) :
    ∀ (j : Nat) (c' : Cell) (b : Addr), j ≠ i → r[j]? = some (.own c') → s[j]? = some (some (.ref b)) → b ≠ p := fun j c' b _ h1 h2 => h0 j c' b h1 h2
/-- what a source stands for: a value, or a thing of its own (new since H0) -/
def SrcAt (g : G) (H0 H F : Hp) (mu : List Addr) : Slot → V → Prop
  | .no, _ => False
  | .val d, v => RepV g F mu d v
  | .own c, v => ∃ a, v = .ref a ∧ F a = none ∧ a ∉ mu ∧ Nw H0 a ∧ CellAt g F mu H a c ∧ c.noIns = true
def rdSrc (g : G) (E : XK) (a : Src) : TE := fun s H Q => ∃ r st F mu, RE g s H F mu r st ∧ OutQ g s H F mu r (fun H' F' mu' x v => SrcAt g H H' F' mu' x v) E Q (a.run r st)
theorem srcV (h : PE X e (rdE g E ma)) : PE X e (rdSrc g E (.v ma)) := PE.imp h fun s H Q k => by
  obtain ⟨r, st, F, mu, re, k⟩ := k
  refine ⟨r, st, F, mu, re, OutQ.bind k fun x st1 v H1 F1 mu1 _ e1 re1 rx k1 => ?_⟩
  cases x with
  | bor c => exact k1.elim
  | val d => exact k1 v H1 F1 mu1 e1 re1 rx
theorem srcO {n : NM} (h : PE X e (rdN g E n)) : PE X e (rdSrc g E (.o n)) := PE.imp h fun s H Q k => by
  obtain ⟨r, st, F, mu, re, k⟩ := k
  refine ⟨r, st, F, mu, re, OutQ.bind k fun x st1 v H1 F1 mu1 _ e1 re1 rx k1 => ?_⟩
  obtain ⟨p, rfl, q1, q2, q3, q4⟩ := rx
  by_cases hI : x.noIns = true
  · rw [if_pos hI] at k1
    exact k1 _ H1 F1 mu1 e1 re1 ⟨p, rfl, q1, q2, q3, q4, hI⟩
  · rw [if_neg hI] at k1
    exact k1.elim
theorem SrcAt.ext {H0 H F H' F' : Hp} {mu mu' : List Addr} {v : V} (e : Ext H F mu H' F' mu') : ∀ {x : Slot}, SrcAt g H0 H F mu x v → SrcAt g H0 H' F' mu' x v
  | .no, h => h
  | .val d, h => RepV.mono e.mo _ _ h
  | .own c, ⟨a, h1, h2, h3, h4, h5, h9⟩ => by
    obtain ⟨_, h6, h7, h8⟩ := RepX.ext (o := .bor c) e ⟨a, h1, h2, h3, h5⟩
    subst h1
    cases h6
    exact ⟨a, rfl, h7, h8.1, h4, h8.2, h9⟩
theorem SrcAt.put {s : L2.St} {H F : Hp} {mu : List Addr} {r : Env} {st : Mir.St} {x : Slot} {v : V} {i : Nat} (rb : RB g B s H F mu r st) (hi : i < r.length) (h0 : SrcAt g B.H H F mu x v)
    (hne : ∀ p, v = .ref p → (∃ c, x = .own c) → ∀ (j : Nat) (c' : Cell) (b : Addr), j ≠ i → r[j]? = some (.own c') → s[j]? = some (some (.ref b)) → b ≠ p) : RB g B (s.set i (some v)) H F mu (r.set i x) st := by
  cases x with
  | no => exact h0.elim
  | val d => exact rb.setV h0 hi
  | own c =>
    obtain ⟨p, rfl, q1, q2, q3, q4, q5⟩ := h0
    exact rb.setO q1 q2 q4 hi q3 q5 (hne p rfl ⟨c, rfl⟩)
/-- a, b = x, y (two different names) -/
theorem qPar {i j : Nat} {x y : Src} (hij : i ≠ j) (h : PS X sa (tPar i j (tCons (rdSrc g E x) (tCons (rdSrc g E y) tNil)))) : PS X sa (rdS g E B (sPar i j x y)) := PS.imp h fun D s H h => by
  obtain ⟨r, st, F, mu, rb, h⟩ := h
  refine ⟨r, st, F, mu, rb.re, sbind rb h fun u st1 v H1 F1 mu1 _ e1 rb1 rx h1 => ?_⟩
  refine ⟨r, st1, F1, mu1, rb1.re, sbind rb1 h1 fun w st2 v2 H2 F2 mu2 _ e2 rb2 ry h2 => ?_⟩
  refine ⟨v, v2, rfl, ?_⟩
  by_cases hc : i < r.length ∧ j < r.length ∧ i ≠ j
  · rw [if_pos hc] at h2
    have rx2 : SrcAt g H H2 F2 mu2 u v := rx.ext e2
    have old : ∀ (l : Nat) (c' : Cell) (b : Addr), r[l]? = some (.own c') → s[l]? = some (some (.ref b)) → ¬ Nw H b := fun l c' b q1 q2 n => by
      obtain ⟨_, _, z⟩ := rb.re.ownAt q1 q2
      obtain ⟨_, z1, z2, _⟩ := z.there
      exact n.no z1 z2
    have toB : ∀ {z : Slot} {t : V}, SrcAt g H H2 F2 mu2 z t → SrcAt g B.H H2 F2 mu2 z t := fun {z t} q => by
      cases z with
      | no => exact q
      | val d => exact q
      | own c =>
        obtain ⟨p, p1, p2, p3, p4, p5⟩ := q
        exact ⟨p, p1, p2, p3, rb.ext.dom _ p4, p5⟩
    have ry2 : SrcAt g H H2 F2 mu2 w v2 := by
      cases w with
      | no => exact ry
      | val d => exact ry
      | own c =>
        obtain ⟨p, p1, p2, p3, p4, p5⟩ := ry
        exact ⟨p, p1, p2, p3, e1.dom _ p4, p5⟩
    have rb3 : RB g B (s.set i (some v)) H2 F2 mu2 (r.set i u) st2 := by
      refine SrcAt.put rb2 hc.1 (toB rx2) fun p hp ⟨c, hu⟩ l c' b hl q1 q2 z => ?_
      subst hu
      obtain ⟨p', p1, _, _, p4, _⟩ := rx2
      rw [hp] at p1
      cases p1
      exact old l c' b q1 q2 (z ▸ p4)
    refine h2 _ H2 F2 mu2 (SrcAt.put rb3 (by rw [List.length_set]; exact hc.2.1) (toB ry2) fun p hp ⟨c, hu⟩ l c' b hl q1 q2 z => ?_) (.refl _ _)
    subst hu
    obtain ⟨p', p1, _, _, p4, _⟩ := ry2
    rw [hp] at p1
    cases p1
    rw [get_set hc.1] at q1
    rw [get_set (by rw [rb2.re.len]; exact hc.1)] at q2
    by_cases hil : i = l
    · rw [if_pos hil] at q1 q2
      cases q1
      cases q2
      obtain ⟨_, p5, _, _, _, p6, _⟩ := rx
      cases p5
      obtain ⟨_, p7, p11, _⟩ := p6.there
      obtain ⟨p8, p9, _, _, p10, _⟩ := ry
      rw [hp] at p9
      cases p9
      rw [← z] at p10
      exact p10.no p7 p11
    · rw [if_neg hil] at q1 q2
      exact old l c' b q1 q2 (z ▸ p4)
  · rw [if_neg hc] at h2
    exact h2.elim

/-! ### name op= e -/
def IpS (g : G) (ti : TIp) (f : Op2) : Prop := OpS g ti f
theorem qAug {i : Nat} {x : Str} {op : Operator} {ti : TIp} {f : Op2} {p2 : Pos} (hs : OpS g ti f) (h : PS X sa (tAug i (rdE g E ma) ti)) : PS X sa (rdS g E B (sAug i f ma)) := PS.imp h fun D s H h => by
  obtain ⟨r, st, F, mu, rb, h⟩ := h
  unfold sAug at h
  cases hr : r[i]? with
  | none => rw [hr] at h; exact h.elim
  | some y =>
    rw [hr] at h
    cases y with
    | no => exact h.elim
    | own c => exact h.elim
    | val d =>
      obtain ⟨w, h1, v, rfl, h2⟩ := rb.re.slot i _ hr
      have hil : i < r.length := (List.getElem?_eq_some_iff.mp hr).1
      refine ⟨v, h1, r, st, F, mu, rb.re, sbind rb h fun u st1 vu H1 F1 mu1 _ e1 rb1 rx h3 => ?_⟩
      cases hf : f st1 (.val d) u with
      | none => rw [hf] at h3; exact h3.elim
      | some d' =>
        rw [hf] at h3
        exact hs H1 F1 mu1 st1 (.val d) u v vu d' _ rb1.re.h (RepV.mono e1.mo _ _ h2) rx hf fun v' H' F' rh' e' rv => h3 _ H' F' mu1 ((rb1.step e' (rb1.re.step e' rh')).setV rv hil) e'.mo

/-! ### append -/
theorem RB.putOwn {s : L2.St} {H F : Hp} {mu : List Addr} {r : Env} {st : Mir.St} {i : Nat} {c c' : Cell} {p : Addr} {u : HO} (rb : RB g B s H F mu r st) (hr : r[i]? = some (.own c)) (hs : s[i]? = some (some (.ref p))) (hc : CellAt g F mu (upd H p u) p c') (hI : ∀ ci fs, c' = .ins ci fs → ∀ a, s[i]? = some (some (.ref a)) → B.self = some a) :
    RB g B s (upd H p u) F mu (r.set i (.own c')) st := by
  obtain ⟨q1, q2, q3⟩ := rb.re.ownAt hr hs
  obtain ⟨w, w1, w2, w3⟩ := q3.there
  have rh := rb.re.h.putOwn (o := u) q1 q2 w1 w2 w3
  have hil : i < r.length := (List.getElem?_eq_some_iff.mp hr).1
  have b0 := rb.own i c p hr hs
  have ex : Ext B.H B.F B.mu (upd H p u) F mu := ⟨rb.ext.mo, fun a o h1 h2 h3 => by rw [upd_ne (fun (z : a = p) => b0.no (z ▸ h1) h3)]; exact rb.ext.keep a o h1 h2 h3, fun a h => (by
    by_cases z : a = p
    · exact z ▸ b0
    · exact rb.ext.dom a fun u e => h u (by rw [upd_ne z]; exact e)), rb.ext.frF, rb.ext.frM⟩
  refine ⟨⟨rh, by simp [rb.re.len], fun j y hy => ?_, fun j k c1 c2 a1 b1 h1 h2 h3 h4 ne => ?_⟩, ex, fun j d a h1 h2 => ?_, fun j ci fs a h1 h2 => ?_⟩
  · rw [get_set hil] at hy
    by_cases e : i = j
    · subst e
      rw [if_pos rfl] at hy
      cases hy
      exact ⟨_, hs, p, rfl, q1, q2, hc⟩
    · rw [if_neg e] at hy
      obtain ⟨o', h1, h2⟩ := rb.re.slot j y hy
      refine ⟨o', h1, ?_⟩
      cases y with
      | no => trivial
      | val d => exact h2
      | own d =>
        obtain ⟨a, rfl, a1, a2, a3⟩ := h2
        exact ⟨a, rfl, a1, a2, CellAt.at (upd_ne (rb.re.own j i d c a p hy hr h1 hs (Ne.symm e))) a3⟩
  · rw [get_set hil] at h1 h2
    by_cases e : i = j
    · by_cases e' : i = k
      · exact absurd (e.symm.trans e') ne
      · rw [if_neg e'] at h2
        subst e
        rw [hs] at h3
        cases h3
        exact rb.re.own i k c c2 p b1 hr h2 hs h4 ne
    · rw [if_neg e] at h1
      by_cases e' : i = k
      · subst e'
        rw [hs] at h4
        cases h4
        exact rb.re.own j i c1 c a1 p h1 hr h3 hs ne
      · rw [if_neg e'] at h2
        exact rb.re.own j k c1 c2 a1 b1 h1 h2 h3 h4 ne
  · rw [get_set hil] at h1
    by_cases e : i = j
    · subst e
      rw [hs] at h2
      cases h2
      exact b0
    · rw [if_neg e] at h1
      exact rb.own j d a h1 h2
  · rw [get_set hil] at h1
    by_cases e : i = j
    · subst e
      rw [if_pos rfl] at h1
      cases h1
      exact hI ci fs rfl a h2
    · rw [if_neg e] at h1
      exact rb.slf j ci fs a h1 h2
theorem aLast : ∀ s H (Q : List V → Hp → Prop), rdE g E ma s H (fun v H1 => Q [v] H1) → rdA g E (aCons ma aNil) s H Q → tCons (rdE g E ma) tNil s H Q := fun s H Q h _ => h
/-- x.append(e), x a list of one's own -/
theorem qAppV {i : Nat} {he : PA X [e] (tCons (rdE g E ma) tNil)} (h : PS X sa (tDrop (tBM X.K "list" rAppend (tVar i) (tCons (rdE g E ma) tNil)))) : PS X sa (rdS g E B (sAppV i ma)) := PS.imp h fun D s H h => by
  obtain ⟨r, st, F, mu, rb, h⟩ := h
  unfold sAppV at h
  split at h
  · rename_i xs0 hr
    obtain ⟨p, h1, h2, h3, vs0, h4, h5⟩ := rb.re.ownGet hr
    refine ⟨.ref p, h1, .inl ⟨rfl, _, SqL.of h4⟩, r, st, F, mu, rb.re, sbind rb h fun y st1 v H1 F1 mu1 _ e1 rb1 rx k => ?_⟩
    rw [hr] at k
    cases y with
    | bor c => exact k.elim
    | val d =>
      dsimp only at k
      obtain ⟨p1, p2, vs, p3, p4⟩ := rb1.re.ownAt hr h1
      by_cases hl : xs0.length < lim
      · rw [if_pos hl] at k
        refine ⟨p, vs, v, rfl, rfl, p3, ?_, ?_⟩
        · rw [← p4.length]; exact Nat.lt_of_lt_of_le hl lim_line
        · exact k _ _ F1 mu1 (rb1.putOwn hr h1 ⟨_, upd_same, p4.append (.one rx)⟩ fun _ _ z => by cases z) (.refl _ _)
      · rw [if_neg hl] at k
        exact k.elim
  · exact h.elim
/-- o.append(e), o a cell's list -/
theorem qAppC (h : PS X sa (tDrop (tBM X.K "list" rAppend (rdE g E mb) (tCons (rdE g E ma) tNil)))) : PS X sa (rdS g E B (sAppC mb ma)) := PS.imp h fun D s H h => by
  obtain ⟨r, st, F, mu, rb, h⟩ := h
  refine ⟨r, st, F, mu, rb.re, sbind rb h fun x st1 vx H1 F1 mu1 _ e1 rb1 rx k => ?_⟩
  cases x with
  | bor c => exact k.elim
  | val d0 =>
    cases d0 with
    | ref n =>
      dsimp only at k
      simp only [RepX, RepV] at rx
      obtain ⟨p, hp, rfl⟩ := rx
      cases hn : st1[n]? with
      | none => rw [hn] at k; exact k.elim
      | some c0 =>
        rw [hn] at k
        cases c0 with
        | lst xs0 =>
          obtain ⟨p', q1, _, vs0, q3, q4⟩ := rb1.re.h.cel n _ hn
          rw [hp] at q1
          cases q1
          refine ⟨.inl ⟨rfl, _, SqL.of q3⟩, r, st1, F1, mu1, rb1.re, sbind rb1 k fun y st2 v H2 F2 mu2 _ e2 rb2 ry k2 => ?_⟩
          cases y with
          | bor c => exact k2.elim
          | val d =>
            cases hn2 : st2[n]? with
            | none => rw [hn2] at k2; exact k2.elim
            | some c2 =>
              rw [hn2] at k2
              cases c2 with
              | lst xs =>
                dsimp only at k2
                have hp2 := e2.mo.mu _ _ hp
                obtain ⟨p', w1, w2, vs, w3, w4⟩ := rb2.re.h.cel n _ hn2
                rw [hp2] at w1
                cases w1
                by_cases hl : xs.length < lim
                · rw [if_pos hl] at k2
                  refine ⟨p, vs, v, rfl, rfl, w3, ?_, ?_⟩
                  · rw [← w4.length]; exact Nat.lt_of_lt_of_le hl lim_line
                  · have ex := Ext.put (H := H2) (F := F2) (o := .lst (vs ++ [v])) hp2
                    exact k2 s _ F2 mu2 (rb2.step ex (rb2.re.step ex (rb2.re.h.put hn2 hp2 ⟨_, upd_same, w4.append (.one ry)⟩))) (.refl _ _)
                · rw [if_neg hl] at k2
                  exact k2.elim
              | _ => exact k2.elim
        | _ => exact k.elim
    | _ => exact k.elim

/-! ### attributes set -/
theorem putF_zip {f : Str} {v : V} : ∀ {ns : List Str} {vs : List V} {j : Nat}, ns.Nodup → ns[j]? = some f → j < vs.length → putF f v (ns.zip vs) = ns.zip (vs.set j v)
  | [], _, j, _, h, _ => by simp at h
  | n :: ns, [], j, _, _, h => by simp at h
  | n :: ns, w :: vs, 0, nd, h, _ => by
    simp at h
    subst h
    simp [putF]
  | n :: ns, w :: vs, j + 1, nd, h, hl => by
    simp at h hl
    have hne : ¬ n = f := fun z => (List.nodup_cons.mp nd).1 (z ▸ List.mem_of_getElem? h)
    simp only [List.zip_cons_cons, putF, if_neg hne, List.set_cons_succ]
    rw [putF_zip (List.nodup_cons.mp nd).2 h hl]
theorem putF_new {f : Str} {v : V} : ∀ {ns : List Str} {vs : List V}, ns.Nodup → ns[vs.length]? = some f → putF f v (ns.zip vs) = ns.zip (vs ++ [v])
  | [], vs, _, h => by simp at h
  | n :: ns, [], nd, h => by
    simp at h
    subst h
    simp [putF]
  | n :: ns, w :: vs, nd, h => by
    simp at h
    have hne : ¬ n = f := fun z => (List.nodup_cons.mp nd).1 (z ▸ List.mem_of_getElem? h)
    simp only [List.zip_cons_cons, putF, if_neg hne, List.cons_append]
    rw [putF_new (List.nodup_cons.mp nd).2 h]
theorem putAt_rep {F : Hp} {mu : List Addr} {ns : List Str} {f : Str} {vs : List V} {v : V} {fs fs' : List D} {d : D} {j : Nat} (nd : ns.Nodup) (hj : ns[j]? = some f) (rl : RepL g F mu fs vs) (rv : RepV g F mu d v) (hl : fs.length ≤ ns.length) (h : putAt fs j d = some fs') :
    ∃ vs', putF f v (ns.zip vs) = ns.zip vs' ∧ RepL g F mu fs' vs' ∧ fs'.length ≤ ns.length := by
  have hjl : j < ns.length := (List.getElem?_eq_some_iff.mp hj).1
  unfold putAt at h
  split at h
  · rename_i hlt
    cases h
    exact ⟨_, putF_zip nd hj (by rw [← rl.length]; exact hlt), rl.set j rv, by simpa using hl⟩
  · split at h
    · rename_i heq
      cases h
      refine ⟨_, putF_new nd (by rw [← rl.length, ← heq]; exact hj), rl.append (.one rv), ?_⟩
      simp
      omega
    · cases h
theorem zip_len_lt {ns : List Str} {vs : List V} (h : ns.length < 1000) : (ns.zip vs).length < 1000 := by
  rw [List.length_zip]
  omega
/-- self.f = e in an __init__ -/
theorem qFldV {C : Addr} {ns : List Str} {f : Str} {ci i j : Nat} (hK : X.K = g.K) (hc : g.ci ci = some (C, ns)) (nd : ns.Nodup) (hj : ns[j]? = some f) (hsm : ns.length < 1000) (cl : Cls g.K C) (na : NoAttr g.K C f) (h : PS X sa (sFld X.K (tVar i) (rdE g E ma) f)) :
    PS X sa (rdS g E B (sFldV ci i j ma)) := PS.imp h fun D s H h => by
  obtain ⟨r, st, F, mu, rb, h⟩ := h
  refine ⟨r, st, F, mu, rb.re, sbind rb h fun y st1 v H1 F1 mu1 _ e1 rb1 rx k => ?_⟩
  cases y with
  | bor c => exact k.elim
  | val d =>
    cases hr : r[i]? with
    | none => rw [hr] at k; exact k.elim
    | some z =>
      rw [hr] at k
      cases z with
      | own c0 =>
        cases c0 with
        | ins c' fs =>
          dsimp only at k
          obtain ⟨p, p0, p1, p2, C', ns', dx, vs, p3, p4, p5, p6⟩ := rb1.re.ownGet hr
          cases hpa : putAt fs j d with
          | none => rw [hpa] at k; exact k.elim
          | some fs' =>
            rw [hpa] at k
            dsimp only at k
            by_cases hcc : c' = ci
            · rw [if_pos hcc] at k
              subst hcc
              rw [hc] at p3
              cases p3
              obtain ⟨vs', g1, g2, g3⟩ := putAt_rep nd hj p6 rx p4 hpa
              refine ⟨.ref p, p0, p, C, dx, _, rfl, p5, by rw [hK]; exact cl, by rw [hK]; exact na, zip_len_lt hsm, ?_⟩
              exact k s _ F1 mu1 (rb1.putOwn hr p0 ⟨C, ns, dx, vs', hc, g3, by rw [upd_same, g1], g2⟩ fun _ _ _ a z => rb1.slf i _ _ a hr z) (.refl _ _)
            · rw [if_neg hcc] at k
              exact k.elim
        | _ => exact k.elim
      | _ => exact k.elim
/-- o.f = e of a cell -/
theorem qFldC {C : Addr} {ns : List Str} {f : Str} {ci j : Nat} (hK : X.K = g.K) (hc : g.ci ci = some (C, ns)) (nd : ns.Nodup) (hj : ns[j]? = some f) (hsm : ns.length < 1000) (cl : Cls g.K C) (na : NoAttr g.K C f) (h : PS X sa (sFld X.K (rdE g E mb) (rdE g E ma) f)) :
    PS X sa (rdS g E B (sFldC ci j mb ma)) := PS.imp h fun D s H h => by
  obtain ⟨r, st, F, mu, rb, h⟩ := h
  refine ⟨r, st, F, mu, rb.re, sbind rb h fun y st1 v H1 F1 mu1 _ e1 rb1 rx k => ?_⟩
  refine ⟨r, st1, F1, mu1, rb1.re, sbind rb1 k fun z st2 w H2 F2 mu2 _ e2 rb2 rz k2 => ?_⟩
  cases y with
  | bor c => exact k2.elim
  | val d =>
    cases z with
    | bor c => exact k2.elim
    | val d2 =>
      cases d2 with
      | ref n =>
        dsimp only at k2
        simp only [RepX, RepV] at rz
        obtain ⟨p, hp, rfl⟩ := rz
        cases hn : st2[n]? with
        | none => rw [hn] at k2; exact k2.elim
        | some c0 =>
          rw [hn] at k2
          cases c0 with
          | ins c' fs =>
            dsimp only at k2
            obtain ⟨p', q1, q2, C', ns', dx, vs, p3, p4, p5, p6⟩ := rb2.re.h.cel n _ hn
            rw [hp] at q1
            cases q1
            cases hpa : putAt fs j d with
            | none => rw [hpa] at k2; exact k2.elim
            | some fs' =>
              rw [hpa] at k2
              dsimp only at k2
              by_cases hcc : c' = ci
              · rw [if_pos hcc] at k2
                subst hcc
                rw [hc] at p3
                cases p3
                obtain ⟨vs', g1, g2, g3⟩ := putAt_rep nd hj p6 (RepV.mono e2.mo _ _ rx) p4 hpa
                refine ⟨p, C, dx, _, rfl, p5, by rw [hK]; exact cl, by rw [hK]; exact na, zip_len_lt hsm, ?_⟩
                have ex := Ext.put (H := H2) (F := F2) (o := .ins C dx (putF f v (ns.zip vs))) hp
                exact k2 s _ F2 mu2 (rb2.step ex (rb2.re.step ex (rb2.re.h.put hn hp ⟨C, ns, dx, vs', hc, g3, by rw [upd_same, g1], g2⟩))) (.refl _ _)
              · rw [if_neg hcc] at k2
                exact k2.elim
          | _ => exact k2.elim
      | _ => exact k2.elim
theorem ixN_eq (n : Nat) (i : Int) : L2.ixN n i = ixD n i := by
  unfold L2.ixN ixD
  split
  · rfl
  · by_cases hq : 0 ≤ (n : Int) + i
    · rw [if_pos hq, if_pos (by omega), Int.add_comm]
    · rw [if_neg hq, if_neg (by omega)]
/-- o[i] = e of a cell's list -/
theorem qPutL (h : PS X sa (tAsg (rdE g E ma) (gSub (rdE g E mb) (rdE g E mc) rSetL))) : PS X sa (rdS g E B (sPutL mb mc ma)) := PS.imp h fun D s H h => by
  obtain ⟨r, st, F, mu, rb, h⟩ := h
  refine ⟨r, st, F, mu, rb.re, sbind rb h fun y st1 v H1 F1 mu1 _ e1 rb1 rx k => ?_⟩
  refine ⟨r, st1, F1, mu1, rb1.re, sbind rb1 k fun z st2 w H2 F2 mu2 _ e2 rb2 rz k2 => ?_⟩
  refine ⟨r, st2, F2, mu2, rb2.re, sbind rb2 k2 fun t st3 w3 H3 F3 mu3 _ e3 rb3 rt k3 => ?_⟩
  cases y with
  | bor c => exact k3.elim
  | val d =>
    cases z with
    | bor c => exact k3.elim
    | val d2 =>
      cases t with
      | bor c => cases d2 <;> exact k3.elim
      | val d3 =>
        cases d2 with
        | ref n =>
          cases d3 with
          | int q =>
            dsimp only at k3
            simp only [RepX, RepV] at rz rt
            obtain ⟨p, hp, rfl⟩ := rz
            subst rt
            have hp3 := e3.mo.mu _ _ hp
            cases hn : st3[n]? with
            | none => rw [hn] at k3; exact k3.elim
            | some c0 =>
              rw [hn] at k3
              cases c0 with
              | lst xs =>
                dsimp only at k3
                obtain ⟨p', q1, q2, vs, q3, q4⟩ := rb3.re.h.cel n _ hn
                rw [hp3] at q1
                cases q1
                cases hix : ixD xs.length q with
                | none => rw [hix] at k3; exact k3.elim
                | some jj =>
                  rw [hix] at k3
                  refine ⟨p, vs, q, jj, rfl, rfl, q3, by rw [ixN_eq, ← q4.length, hix], ?_⟩
                  have ex := Ext.put (H := H3) (F := F3) (o := .lst (vs.set jj v)) hp3
                  exact k3 s _ F3 mu3 (rb3.step ex (rb3.re.step ex (rb3.re.h.put hn hp3 ⟨_, upd_same, q4.set jj (RepV.mono (e2.mo.trans e3.mo) _ _ rx)⟩))) (.refl _ _)
              | _ => exact k3.elim
          | _ => exact k3.elim
        | _ => cases d3 <;> exact k3.elim
end

/-! ### defs -/
section
variable {P : Program} {w : World} {K : PySem.W.Frag} {mg : Str → Option Value} {base : Heap} {g : G}
theorem start_rep {N : List Str} {vs : List V} {ds : List D} {F : Hp} {mu : List Addr} {H : Hp} {st : Mir.St} (rh : RH g H F mu st) (rl : RepL g F mu ds vs) (hl : vs.length ≤ N.length) :
    RE g (L2.start N vs) H F mu (ds.map Slot.val ++ List.replicate (N.length - ds.length) Slot.no) st := by
  refine ⟨rh, by simp [L2.start, rl.length], fun i x hx => ?_, fun i j c c' a b h1 _ _ _ _ => ?_⟩
  · by_cases hi : i < ds.length
    · rw [List.getElem?_append_left (by simpa using hi), List.getElem?_map] at hx
      rw [List.getElem?_eq_getElem hi] at hx
      cases hx
      obtain ⟨v, h1, h2⟩ := rl.get (List.getElem?_eq_getElem hi)
      refine ⟨some v, ?_, v, rfl, h2⟩
      unfold L2.start
      rw [List.getElem?_append_left (by rw [List.length_map, ← rl.length]; exact hi), List.getElem?_map, h1]
      rfl
    · have hlen : i < (ds.map Slot.val ++ List.replicate (N.length - ds.length) Slot.no).length := (List.getElem?_eq_some_iff.mp hx).1
      rw [List.getElem?_append_right (by simpa using hi)] at hx
      have : x = .no := by
        rw [List.getElem?_replicate] at hx
        split at hx
        · cases hx; rfl
        · cases hx
      subst this
      have h2 : i < (L2.start N vs).length := by
        simp only [List.length_append, List.length_map, List.length_replicate] at hlen
        simp only [L2.start, List.length_append, List.length_map, List.length_replicate, ← rl.length]
        exact hlen
      exact ⟨(L2.start N vs)[i], List.getElem?_eq_getElem h2, trivial⟩
  · exfalso
    by_cases hi : i < ds.length
    · rw [List.getElem?_append_left (by simpa using hi), List.getElem?_map, List.getElem?_eq_getElem hi] at h1
      cases h1
    · rw [List.getElem?_append_right (by simpa using hi), List.getElem?_replicate] at h1
      split at h1
      · cases h1
      · cases h1
/-- THE RULE for a def -/
theorem dFn {x qual : Str} {prm : Arguments} {bdy : List Stmt} {scp : Scope} {dvs : List V} {kws : List (Str × V)} {f : Addr} {fd : FuncData} {N ps : List Str} {k : Nat} {m : SM} (F0 : FunD K x qual prm bdy scp dvs kws f fd) (S : FnScope N ps scp) (hps : ps.length ≤ N.length)
    (hbody : ∀ (cdv : Value) (A : Around) (outer : List PySem.Env) (s : Shared) (H : Hp) (E : XK) (B : Bs), fd.code = cdv → Room k (A.deeper (envOfC qual scp s.heap.objs.size f cdv)) → PSs (cxOf (L2.CX P w) P w K mg base N qual scp f cdv A outer s H E) bdy (rdS g E B m)) :
    FnOk P w K mg base (L2.CX P w) (k + 1) f fd ps (spOf g ps.length (fn N.length ps.length m)) := by
  obtain ⟨oc, od, dV, kV, doc, pm, an, cdv, ct, osl, rfl, lk, hcd, _, _⟩ := F0.ex
  refine fn_of lk hcd S (fun vs H Q E h => h.1) fun A outer s H vs Q E hr h => ?_
  obtain ⟨hl, ds, st, F, mu, rh, rl, h⟩ := h
  refine ⟨_, hbody cdv A outer s H E ⟨H, F, mu, none⟩ rfl hr, ?_⟩
  have hdl : ds.length = ps.length := by rw [rl.length, hl]
  have noOwn : ∀ (j : Nat) (c : Cell), (ds.map Slot.val ++ List.replicate (N.length - ds.length) Slot.no)[j]? ≠ some (.own c) := fun j c h1 => by
    by_cases hi : j < ds.length
    · rw [List.getElem?_append_left (by simpa using hi), List.getElem?_map, List.getElem?_eq_getElem hi] at h1
      cases h1
    · rw [List.getElem?_append_right (by simpa using hi), List.getElem?_replicate] at h1
      split at h1
      · cases h1
      · cases h1
  refine ⟨_, st, F, mu, ⟨start_rep rh rl (by omega), .refl _ _ _, fun i c a h1 _ => absurd h1 (noOwn i c), fun i ci fs a h1 _ => absurd h1 (noOwn i _)⟩, ?_⟩
  · unfold fn at h
    rw [if_pos hdl] at h
    rw [← hdl] at h
    cases hm : m (ds.map Slot.val ++ List.replicate (N.length - ds.length) Slot.no) st with
    | nx r1 st1 => rw [hm] at h; exact fun s' H' F' mu' rb _ => h _ H' F' mu' rb.ext rb.re.h (by simp only [RepV])
    | rt d st1 => rw [hm] at h; exact fun v H' F' mu' rh' ex rv => h v H' F' mu' ex rh' rv
    | bk r1 st1 => rw [hm] at h; exact h.elim
    | ct r1 st1 => rw [hm] at h; exact h.elim
    | exc e r1 st1 => rw [hm] at h; exact fun H' F' mu' rh' ex => h H' F' mu' ex rh'
    | bad => rw [hm] at h; exact h.elim
/-- .. for an __init__ -/
theorem dInit {x qual : Str} {prm : Arguments} {bdy : List Stmt} {scp : Scope} {dvs : List V} {kws : List (Str × V)} {f C : Addr} {fd : FuncData} {N ps ns : List Str} {k ci : Nat} {m : SM} (hci : g.ci ci = some (C, ns)) (F0 : FunD K x qual prm bdy scp dvs kws f fd) (S : FnScope N ps scp) (hps : ps.length ≤ N.length) (hp0 : 0 < ps.length)
    (hbody : ∀ (cdv : Value) (A : Around) (outer : List PySem.Env) (s : Shared) (H : Hp) (E : XK) (B : Bs), Room k (A.deeper (envOfC qual scp s.heap.objs.size f cdv)) → PSs (cxOf (L2.CX P w) P w K mg base N qual scp f cdv A outer s H E) bdy (rdS g E B m)) :
    FnOk P w K mg base (L2.CX P w) (k + 1) f fd ps (spInit g ci ps.length (fnInit ci N.length ps.length m)) := by
  refine F0.ok S (fun vs H Q E h => h.1) fun cdv A outer s H vs Q E hr h => ?_
  obtain ⟨hl, a, dx, C', ns', us, ds, st, F, mu, H0, rfl, hc', rfl, ha, hdx, hne, rh, rl, h⟩ := h
  rw [hci] at hc'
  cases hc'
  have hd0 : upd H0 dx (.own a) a = none := by rw [upd_ne (Ne.symm hne)]; exact ha
  have rh1 : RH g (upd H0 dx (.own a)) F mu st := rh.newOwn hdx
  have rh2 : RH g (upd (upd H0 dx (.own a)) a (.ins C dx [])) F mu st := rh1.newOwn hd0
  have ex1 : Ext H0 F mu (upd H0 dx (.own a)) F mu := Ext.newOwn hdx
  have ex2 : Ext H0 F mu (upd (upd H0 dx (.own a)) a (.ins C dx [])) F mu := ex1.trans (Ext.newOwn hd0)
  have hFa : F a = none := F_new rh ha
  have hma : a ∉ mu := fun z => mem_mu rh z ha
  refine ⟨_, hbody cdv A outer s _ E ⟨H0, F, mu, some a⟩ hr, ?_⟩
  have hdl : ds.length + 1 = ps.length := by rw [rl.length, ← hl]; simp
  have hcell : CellAt g F mu (upd (upd H0 dx (.own a)) a (.ins C dx [])) a (.ins ci []) := ⟨C, ns, dx, [], hci, Nat.zero_le _, by rw [upd_same]; simp, .nil⟩
  have eN : (L2.start N (.ref a :: us)) = some (.ref a) :: (us.map some ++ List.replicate (N.length - (us.length + 1)) none) := by simp [L2.start]
  have hus : us.length = ds.length := rl.length.symm
  have noOwn : ∀ (j : Nat) (c : Cell), (ds.map Slot.val ++ List.replicate (N.length - ps.length) Slot.no)[j]? ≠ some (.own c) := fun j c h1 => by
    by_cases hi : j < ds.length
    · rw [List.getElem?_append_left (by simpa using hi), List.getElem?_map, List.getElem?_eq_getElem hi] at h1
      cases h1
    · rw [List.getElem?_append_right (by simpa using hi), List.getElem?_replicate] at h1
      split at h1
      · cases h1
      · cases h1
  have re : RE g (L2.start N (.ref a :: us)) (upd (upd H0 dx (.own a)) a (.ins C dx [])) F mu (Slot.own (.ins ci []) :: (ds.map Slot.val ++ List.replicate (N.length - ps.length) Slot.no)) st := by
    rw [eN]
    have base : RE g (us.map some ++ List.replicate (N.length - (us.length + 1)) none) (upd (upd H0 dx (.own a)) a (.ins C dx [])) F mu (ds.map Slot.val ++ List.replicate (N.length - ps.length) Slot.no) st := by
      refine ⟨rh2, by simp [hus]; omega, fun i x hx => ?_, fun i j c c' a b h1 _ _ _ _ => ?_⟩
      · by_cases hi : i < ds.length
        · rw [List.getElem?_append_left (by simpa using hi), List.getElem?_map, List.getElem?_eq_getElem hi] at hx
          cases hx
          obtain ⟨v, h1, h2⟩ := rl.get (List.getElem?_eq_getElem hi)
          refine ⟨some v, ?_, v, rfl, h2⟩
          rw [List.getElem?_append_left (by rw [List.length_map, hus]; exact hi), List.getElem?_map, h1]
          rfl
        · have hlen : i < (ds.map Slot.val ++ List.replicate (N.length - ps.length) Slot.no).length := (List.getElem?_eq_some_iff.mp hx).1
          rw [List.getElem?_append_right (by simpa using hi), List.getElem?_replicate] at hx
          split at hx
          · cases hx
            have h2 : i < (us.map some ++ List.replicate (N.length - (us.length + 1)) (none : Option V)).length := by
              simp only [List.length_append, List.length_map, List.length_replicate] at hlen ⊢
              omega
            exact ⟨_, List.getElem?_eq_getElem h2, trivial⟩
          · cases hx
      · exfalso
        by_cases hi : i < ds.length
        · rw [List.getElem?_append_left (by simpa using hi), List.getElem?_map, List.getElem?_eq_getElem hi] at h1
          cases h1
        · rw [List.getElem?_append_right (by simpa using hi), List.getElem?_replicate] at h1
          split at h1
          · cases h1
          · cases h1
    refine ⟨rh2, by simp [base.len], fun i x hx => ?_, fun i j c c' a' b' h1 h2 h3 h4 ne => ?_⟩
    · cases i with
      | zero =>
        simp at hx
        subst hx
        exact ⟨_, rfl, a, rfl, hFa, hma, hcell⟩
      | succ i =>
        simp only [List.getElem?_cons_succ] at hx ⊢
        exact base.slot i x hx
    · cases i with
      | zero =>
        cases j with
        | zero => exact absurd rfl ne
        | succ j => exact absurd (by simpa using h2) (noOwn j c')
      | succ i => exact absurd (by simpa using h1) (noOwn i c)
  have pinA : ∀ (i : Nat) (c : Cell) (b : Addr), (Slot.own (.ins ci []) :: (ds.map Slot.val ++ List.replicate (N.length - ps.length) Slot.no))[i]? = some (.own c) → (L2.start N (.ref a :: us))[i]? = some (some (.ref b)) → b = a := fun i c b h1 h2 => by
    cases i with
    | zero =>
      rw [eN] at h2
      simp at h2
      exact h2.symm
    | succ i => exact absurd (by simpa using h1) (noOwn i c)
  refine ⟨_, st, F, mu, ⟨re, ex2, fun i c b h1 h2 => by rw [pinA i c b h1 h2]; exact Nw.of ha, fun i ci' fs b h1 h2 => by rw [pinA i _ b h1 h2]⟩, ?_⟩
  · unfold fnInit at h
    rw [if_pos hdl] at h
    cases hm : m (Slot.own (.ins ci []) :: (ds.map Slot.val ++ List.replicate (N.length - ps.length) Slot.no)) st with
    | nx r1 st1 =>
      rw [hm] at h
      dsimp only at h
      cases hh : List.head? r1 with
      | none => rw [hh] at h; exact h.elim
      | some z =>
        rw [hh] at h
        cases z with
        | own c0 =>
          cases c0 with
          | ins c' fs =>
            dsimp only at h
            intro s' H' F' mu' rb mo
            have hr0 : r1[0]? = some (.own (.ins c' fs)) := by
              rw [List.head?_eq_getElem?] at hh
              exact hh
            obtain ⟨b, b1, b2, b3, b4⟩ := rb.re.ownGet hr0
            have eb : b = a := (Option.some.inj (rb.slf 0 _ _ b hr0 b1)).symm
            subst eb
            by_cases hcc : c' = ci
            · rw [if_pos hcc] at h
              rw [hcc] at b4
              exact h H' F' mu' rb.ext rb.re.h b2 b3 b4
            · rw [if_neg hcc] at h
              exact h.elim
          | _ => exact h.elim
        | _ => exact h.elim
    | rt d st1 => rw [hm] at h; exact h.elim
    | bk r1 st1 => rw [hm] at h; exact h.elim
    | ct r1 st1 => rw [hm] at h; exact h.elim
    | exc e r1 st1 => rw [hm] at h; exact fun H' F' mu' rh' ex => h H' F' mu' ex rh'
    | bad => rw [hm] at h; exact h.elim
end
end Mir
/-! E8: what is walked; slices; lists made of lists. -/
namespace Mir
open PySem PySem.Spec PyProof.Rows L2
section
variable {X : Cx} {g : G} {E : XK} {B : Bs} {pos : Pos} {a b c e o tg : Expr} {ma mb mc : EM} {es : List Expr} {mas : AM}
/-- a list, a tuple, a text -/
def iAny (K : PySem.W.Frag) (tl : TE) : TI := fun σ H R => tl σ H fun x H1 =>
  (∃ a, x = .ref a ∧ (∃ xs, SqL K H1 a xs) ∧ R (Itl K a) H1) ∨ (∃ a, x = .ref a ∧ (∃ xs, SqT K H1 a xs) ∧ R (Itt K a) H1) ∨ ∃ z, x = .str z ∧ R (Its z) H1
theorem piAny {tl : TE} (hl : PE X e tl) : PI X tg e (iAny X.K tl) := by
  refine ⟨fun pins s σ H R I h => thn (hl.run pins s σ H _ I h) fun v s1 q => ?_⟩
  obtain ⟨x, H1, I1, r1, q⟩ := q
  have fr : ∀ b, b ∈ [s1.heap.objs.size] → FpOk X pins H1 b := fun b hb => by
    have eb : b = s1.heap.objs.size := by simpa using hb
    rw [eb]
    exact I1.fpOk (Nat.le_refl _) (I1.hok.fresh (Nat.le_refl _))
  rcases q with ⟨a, rfl, ⟨xs, hq⟩, q⟩ | ⟨a, rfl, ⟨xs, hq⟩, q⟩ | ⟨z, rfl, q⟩
  · cases r1
    obtain ⟨its, rv, p, hz⟩ := I1.list hq
    exact wpAny_pyIter_list p.isList ⟨_, [s1.heap.objs.size], _, _, H1, rfl, I1.kept (t' := s1.toks) (fun b o k => Heap.get?_push_of_some _ k), turn_list a _, ⟨_, Heap.get?_push_size _ rfl, rfl, rfl⟩, fr, q⟩
  · cases r1
    obtain ⟨its, rv, p, hz⟩ := I1.tuple hq
    exact wpAny_pyIter_tuple (show s1.heap.IsTuple a its.toArray from p) ⟨_, [s1.heap.objs.size], _, _, H1, rfl, I1.kept (t' := s1.toks) (fun b o k => Heap.get?_push_of_some _ k), turn_tuple a _, ⟨_, Heap.get?_push_size _ rfl, rfl, rfl⟩, fr, q⟩
  · obtain ⟨t, rfl⟩ := r1
    cases ha : z.cps.all (· < 128)
    · exact wpAny_pyIter_wide ha (pi_one (tk := s1.toks) I1 _ (turn_str _ z t _ (Or.inr rfl)) ⟨_, Heap.get?_push_size _ rfl, rfl, rfl⟩ q)
    · exact wpAny_pyIter_ascii ha (pi_one (tk := s1.toks) I1 _ (turn_str _ z t _ (Or.inl rfl)) ⟨_, Heap.get?_push_size _ rfl, rfl, rfl⟩ q)
theorem iter_list {ds : List D} {w : Watch} {F0 : Hp} {mu0 : List Addr} {K : PySem.W.Frag} {p : Addr} (h : ∀ (H F : Hp) (mu : List Addr) (st : Mir.St), Mono F0 mu0 F mu → RH g H F mu st → w.ok st = true → ∃ vs, SqL K H p vs ∧ RepL g F mu ds vs) : Iter g (Itl K p) ds w F0 mu0 := by
  intro H F mu st mo rh hw i
  obtain ⟨vs, h1, h3⟩ := h H F mu st mo rh hw
  refine ⟨fun hi => ⟨vs, h1, by rw [← h3.length, hi]; exact Nat.le_refl _⟩, fun d hd => ?_⟩
  obtain ⟨v, v1, v2⟩ := h3.get hd
  refine ⟨⟨vs, v, h1, v1⟩, fun x H' hy => ?_⟩
  obtain ⟨rfl, hy⟩ := hy
  have := hy vs h1
  rw [v1] at this
  cases this
  exact ⟨F, rh, .refl _ _ _, v2⟩
theorem iter_tup {ds : List D} {w : Watch} {F0 : Hp} {mu0 : List Addr} {K : PySem.W.Frag} {p : Addr} (h : ∀ (H F : Hp) (mu : List Addr) (st : Mir.St), Mono F0 mu0 F mu → RH g H F mu st → ∃ vs, SqT K H p vs ∧ RepL g F mu ds vs) : Iter g (Itt K p) ds w F0 mu0 := by
  intro H F mu st mo rh hw i
  obtain ⟨vs, h1, h3⟩ := h H F mu st mo rh
  refine ⟨fun hi => ⟨vs, h1, by rw [← h3.length, hi]; exact Nat.le_refl _⟩, fun d hd => ?_⟩
  obtain ⟨v, v1, v2⟩ := h3.get hd
  refine ⟨⟨vs, v, h1, v1⟩, fun x H' hy => ?_⟩
  obtain ⟨rfl, hy⟩ := hy
  have := hy vs h1
  rw [v1] at this
  cases this
  exact ⟨F, rh, .refl _ _ _, v2⟩
theorem piE (hK : X.K = g.K) (ha : PE X e (rdE g E ma)) : PI X tg e (rdI g E (iE ma)) := PI.imp (piAny ha) fun s H R h => by
  obtain ⟨r, st, F, mu, re, h⟩ := h
  refine ⟨r, st, F, mu, re, OutQ.bind h fun x st1 v H1 F1 mu1 _ e1 re1 rx k => ?_⟩
  rw [hK]
  cases hi : itemsOf st1 x with
  | none => rw [hi] at k; exact k.elim
  | some p =>
    rw [hi] at k
    unfold itemsOf at hi
    split at hi
    · rename_i xs
      cases hi
      simp only [RepX, RepV] at rx
      obtain ⟨p, vs, rfl, h1, h2⟩ := rx
      refine .inl ⟨p, rfl, ⟨vs, SqL.of (re1.h.lst h1)⟩, k _ H1 F1 mu1 e1 re1 (iter_list fun H F mu st mo rh _ => ?_)⟩
      exact ⟨vs, SqL.of (rh.lst (mo.fro _ _ h1)), RepL.mono mo _ _ h2⟩
    · rename_i xs
      cases hi
      simp only [RepX, RepV] at rx
      obtain ⟨p, vs, rfl, h1, h2⟩ := rx
      exact .inr (.inl ⟨p, rfl, ⟨vs, re1.h.seqT h1⟩, k _ H1 F1 mu1 e1 re1 (iter_tup fun H F mu st mo rh => ⟨vs, rh.seqT (mo.fro _ _ h1), RepL.mono mo _ _ h2⟩)⟩)
    · rename_i xs
      cases hi
      simp only [RepX, RepV] at rx
      obtain ⟨p, vs, rfl, h1, h2⟩ := rx
      exact .inr (.inl ⟨p, rfl, ⟨vs, h1.seq⟩, k _ H1 F1 mu1 e1 re1 (iter_tup fun H F mu st mo rh => ⟨vs, h1.seq, RepL.mono mo _ _ h2⟩)⟩)
    · rename_i z _
      cases hi
      simp only [RepX, RepV] at rx
      subst rx
      refine .inr (.inr ⟨toS z, rfl, k _ H1 F1 mu1 e1 re1 fun H F mu st mo rh _ i => ⟨fun hi => ?_, fun d hd => ?_⟩⟩)
      · show (toS z).cps.size ≤ i
        rw [hi]
        simp [toS]
      · rw [List.getElem?_map] at hd
        cases hc : z[i]? with
        | none => rw [hc] at hd; cases hd
        | some cc =>
          rw [hc] at hd
          cases hd
          have hl := (List.getElem?_eq_some_iff.mp hc).1
          refine ⟨by show i < (toS z).cps.size; simpa [toS] using hl, fun x H' hy => ?_⟩
          obtain ⟨rfl, c', h1, rfl⟩ := hy
          have : (toS z).cps[i]? = some cc := by simpa [toS] using hc
          rw [this] at h1
          cases h1
          exact ⟨F, rh, .refl _ _ _, by simp only [RepV]; rfl⟩
    · rename_i n _
      split at hi
      · rename_i xs hn
        cases hi
        simp only [RepX, RepV] at rx
        obtain ⟨p, hp, rfl⟩ := rx
        obtain ⟨p', q1, _, vs, q3, q4⟩ := re1.h.cel n _ hn
        rw [hp] at q1
        cases q1
        refine .inl ⟨p, rfl, ⟨vs, SqL.of q3⟩, k _ H1 F1 mu1 e1 re1 (iter_list fun H F mu st mo rh hw => ?_)⟩
        have hn2 : st[n]? = some (.lst xs) := of_decide_eq_true hw
        obtain ⟨p', q1, _, us, q5, q6⟩ := rh.cel n _ hn2
        rw [mo.mu _ _ hp] at q1
        cases q1
        exact ⟨us, SqL.of q5, q6⟩
      · cases hi
    · cases hi
/-! ### range -/
theorem rangeD_get {lo hi : Int} {i : Nat} {d : D} (h : (rangeD lo hi)[i]? = some d) : d = .int (lo + i) ∧ i < (hi - lo).toNat := by
  unfold rangeD at h
  rw [List.getElem?_map] at h
  cases hr : (List.range (hi - lo).toNat)[i]? with
  | none => rw [hr] at h; cases h
  | some k =>
    rw [hr] at h
    have hl := (List.getElem?_eq_some_iff.mp hr).1
    rw [List.length_range] at hl
    rw [List.getElem?_range hl] at hr
    cases hr
    cases h
    exact ⟨rfl, hl⟩
theorem iter_rng {lo hi : Int} {w : Watch} {F0 : Hp} {mu0 : List Addr} : Iter g (Itr lo (hi - lo).toNat) (rangeD lo hi) w F0 mu0 := by
  intro H F mu st mo rh hw i
  refine ⟨fun h => ?_, fun d hd => ?_⟩
  · show (hi - lo).toNat ≤ i
    rw [h]
    simp [rangeD]
  · obtain ⟨rfl, hl⟩ := rangeD_get hd
    refine ⟨hl, fun x H' hy => ?_⟩
    obtain ⟨rfl, rfl⟩ := hy
    exact ⟨F, rh, .refl _ _ _, by simp only [RepV]⟩
theorem piR1 (h : PI X tg e (L2.iRng1 (tCons (rdE g E ma) tNil))) : PI X tg e (rdI g E (Mir.iRng1 ma)) := PI.imp h fun s H R h => by
  obtain ⟨r, st, F, mu, re, h⟩ := h
  refine ⟨r, st, F, mu, re, OutQ.bind h fun x st1 v H1 F1 mu1 _ e1 re1 rx k => ?_⟩
  cases x with
  | bor c => exact k.elim
  | val d =>
    cases d with
    | int j =>
      dsimp only at k
      simp only [RepX, RepV] at rx
      subst rx
      by_cases hj : -(2 ^ 62) ≤ j ∧ j < 2 ^ 62
      · rw [if_pos hj] at k
        refine ⟨j, rfl, hj.1, hj.2, ?_⟩
        have := k (Itr 0 (j - 0).toNat) H1 F1 mu1 e1 re1 iter_rng
        simpa using this
      · rw [if_neg hj] at k
        exact k.elim
    | _ => exact k.elim
theorem piR2 (h : PI X tg e (L2.iRng2 (tCons (rdE g E ma) (tCons (rdE g E mb) tNil)))) : PI X tg e (rdI g E (Mir.iRng2 ma mb)) := PI.imp h fun s H R h => by
  obtain ⟨r, st, F, mu, re, h⟩ := h
  refine ⟨r, st, F, mu, re, OutQ.bind h fun x st1 v H1 F1 mu1 _ e1 re1 rx k => ?_⟩
  refine ⟨r, st1, F1, mu1, re1, OutQ.bind (k.ext e1) fun y st2 v2 H2 F2 mu2 _ e2 re2 ry k2 => ?_⟩
  cases x with
  | bor c => exact k2.elim
  | val d =>
    cases y with
    | bor c => cases d <;> exact k2.elim
    | val d2 =>
      cases d with
      | int i =>
        cases d2 with
        | int j =>
          dsimp only at k2
          simp only [RepX, RepV] at rx ry
          subst rx ry
          by_cases hj : -(2 ^ 62) ≤ i ∧ i < 2 ^ 62 ∧ -(2 ^ 62) ≤ j ∧ j < 2 ^ 62
          · rw [if_pos hj] at k2
            exact ⟨i, j, rfl, hj, k2 (Itr i (j - i).toNat) H2 F2 mu2 e2 re2 iter_rng⟩
          · rw [if_neg hj] at k2
            exact k2.elim
        | _ => exact k2.elim
      | _ => cases d2 <;> exact k2.elim

/-! ### enumerate, zip -/
/-- enumerate of a tuple: made -/
theorem meets_enumT (l : Addr) (its : Array Value) (n : Nat) (dd : Option Addr) (sl : Array (Option Value)) :
    Meets (Builtin.«enumerate.__new__» ⟨[.type "enumerate", .ref l], []⟩) (fun _ R s => s.heap.get? l = some { cls := .type "tuple", dict := dd, data := .seq its n, slots := sl } ∧
      R (.ok (.ret (.ref (s.heap.push { cls := .type "tuple_iterator", data := .fields #[.ref l, .int 0 0] }).objs.size)))
        { s with heap := (s.heap.push { cls := .type "tuple_iterator", data := .fields #[.ref l, .int 0 0] }).push { cls := .type "enumerate", data := .fields #[.none, .bool false, .ref s.heap.objs.size, rawInt 0, .none, .none] } }) := .of_wp fun prog w A R s h => by
  obtain ⟨hp, gg, d, tk, os⟩ := s
  obtain ⟨hl, h⟩ := h
  have hsub := sub_enumerate
  have hT : Heap.IsTuple (Shared.heap ⟨hp, gg, d, tk, os⟩) l its := ⟨_, hl, rfl, n, rfl⟩
  wp_walk using AutoSeq1.wpAny_loadPart' hl
  refine wpAny_stack_any fun _ => wpAny_pure ?_
  split
  · rename_i c _ _ _ _ _
    cases (c == Value.type "enumerate") <;> (wp_walk using AutoSeq1.wpAny_loadPart' hl, wpAny_pyIter_tuple hT; exact ⟨_, rfl, h⟩)
  · wp_walk using AutoSeq1.wpAny_loadPart' hl, wpAny_pyIter_tuple hT
    exact ⟨_, rfl, h⟩
end
section
variable {prog : Program} {w : World} {A : Around} {E : Value → Shared → Prop} {s : Shared}
theorem call_enumT {l : Addr} {its : Array Value} {Q : Value → Shared → Prop} (hL : s.heap.IsTuple l its)
    (h : ∀ h', IsEnum h' (s.heap.objs.size + 1) s.heap.objs.size 0 .none → h'.IsTupleIter s.heap.objs.size l 0 → (∀ b o, s.heap.get? b = some o → h'.get? b = some o) → Q (.ref (s.heap.objs.size + 1)) { s with heap := h' }) :
    wpAny (model prog w) A (call (.type "enumerate") [.ref l]) Q E s := by
  obtain ⟨⟨c, dd, dt, sl⟩, hl, hc, n, hd⟩ := hL
  have hc : c = .type "tuple" := hc
  have hd : dt = .seq its n := hd
  subst hc hd
  refine callType_new F.called_enumerate (by decide) (F.typeCall_enumerate_1 _) (F.newCall_enumerate_1 _) (fun obj => F.args_object_init_2 obj _)
    F.entry_enumerate_new (meets_enumT l its n dd sl) ⟨hl, ?_⟩
  have hz : (s.heap.push { cls := .type "tuple_iterator", data := .fields #[.ref l, .int 0 0] }).objs.size = s.heap.objs.size + 1 := Heap.size_push ..
  show _ ∧ _
  rw [hz]
  have he : IsEnum ((s.heap.push { cls := .type "tuple_iterator", data := .fields #[.ref l, .int 0 0] }).push { cls := .type "enumerate", data := .fields #[.none, .bool false, .ref s.heap.objs.size, rawInt 0, .none, .none] }) (s.heap.objs.size + 1) s.heap.objs.size 0 .none := by
    have q := Heap.get?_push_size (s.heap.push { cls := .type "tuple_iterator", data := .fields #[.ref l, .int 0 0] }) (o := { cls := .type "enumerate", data := .fields #[.none, .bool false, .ref s.heap.objs.size, rawInt 0, .none, .none] }) rfl
    rw [hz] at q
    exact q
  exact ⟨⟨_, he, rfl⟩, h _ he ⟨_, Heap.get?_push_of_some _ (Heap.get?_push_size _ rfl), rfl, rfl⟩ fun b o k => Heap.get?_push_of_some _ (Heap.get?_push_of_some _ k)⟩
end
/-- its turns -/
def IteT (K : PySem.W.Frag) (a : Addr) : It :=
  ⟨fun i H => ∃ (xs : List V) (x : V), SqT K H a xs ∧ xs[i]? = some x, fun i H v H' => ∃ T x, v = .ref T ∧ H T = none ∧ H' = upd H T (.tup [.int (i : Nat), x]) ∧ ∀ xs, SqT K H a xs → xs[i]? = some x,
   fun i H => ∃ xs : List V, SqT K H a xs ∧ xs.length = i⟩
theorem turn_enumT {P : Program} {w : World} {K : PySem.W.Frag} {elts : List Expr} {kk : Nat} {tpos : Pos} (a e it : Addr) (hae : a ≠ e) (hai : a ≠ it) :
    Turn P w K (.Tuple elts kk tpos) (IteT K a) [e, it] e (fun i h => (∃ old, IsEnum h e it ((i : Nat) : Int) old) ∧ h.IsTupleIter it a i ∧ e ≠ it) where
  mem := by simp
  obj := fun i h st b hb => by
    obtain ⟨⟨old, he⟩, ⟨o, ho, hc, hd⟩, _⟩ := st
    rcases (show b = e ∨ b = it by simpa using hb) with z | z
    · rw [z]
      exact ⟨_, he, fun v q => nomatch q⟩
    · rw [z]
      exact ⟨o, ho, fun v q => by rw [hd] at q; cases q⟩
  keep := fun i h h' st k => let ⟨⟨old, he⟩, ⟨o, ho, r⟩, hne⟩ := st; ⟨⟨old, k e (by simp) _ he⟩, ⟨o, k it (by simp) o ho, r⟩, hne⟩
  item := by
    intro X hP hw hK hc i pins s σ H E I hf st hg
    subst hP hw hK
    obtain ⟨⟨old, he⟩, hit, hne⟩ := st
    obtain ⟨xs, x, hq, hx⟩ := hg
    obtain ⟨its, rv, p, hz⟩ := I.tuple hq
    obtain ⟨u, hu, ru⟩ := rv.get hx
    have hel : e < s.heap.objs.size := Heap.lt_size he
    have hil : it < s.heap.objs.size := let ⟨_, q, _⟩ := hit; Heap.lt_size q
    have hal : a < s.heap.objs.size := p.lt
    have hi : i < its.toArray.size := by
      have := (List.getElem?_eq_some_iff.mp hu).1
      simpa using this
    refine wpAny_pyNext_enum_itemD (Draws.tuple (A := X.A.in1) (I.ok.hd hc) it a hai its.toArray) he ⟨hit, show s.heap.IsTuple a its.toArray from p⟩ hi hne (by simp [hne, Ne.symm hae]) fun y h' tk hy ho hst' hT hsz hk => ?_
    have hyu : y = u := by
      have : its.toArray[i]? = some u := by simpa using hu
      rw [this] at hy
      exact (Option.some.inj hy).symm
    subst hyu
    refine ⟨_, rfl, wpAny_letOwnedTupleGo_enum (s := { s with heap := h', toks := tk + 1 }) ho fun h'' he' sb => ?_⟩
    have hT2 : h''.get? s.heap.objs.size = some { cls := .type "tuple", data := .seq #[.int i tk, y] } := (sb.2 _ (Nat.ne_of_gt hel)).trans hT
    have new : ObjOk X.prog X.w (upd H s.heap.objs.size (.tup [.int (i : Nat), x])) h'' s.heap.objs.size (.tup [.int (i : Nat), x]) :=
      ⟨by show 2 ≤ sizeLine; decide, [.int i tk, y], .cons ⟨_, rfl⟩ (.cons ru .nil), ⟨_, hT2, rfl, _, rfl⟩⟩
    have I1 : Inv X pins σ (upd H s.heap.objs.size (.tup [.int (i : Nat), x])) { s with heap := h'', toks := tk + 1 } :=
      I.turnedNew (ch := [e, it]) (fun b ob hb q => (sb.2 b (fun z => hb (by simp [z]))).trans (hk b ob (fun z => hb (by simp [z])) (fun z => hb (by simp [z])) q)) hf (Nat.le_refl _) new
    refine ⟨.ref s.heap.objs.size, _, I1, rfl, ⟨_, x, rfl, I.hok.fresh (Nat.le_refl _), rfl, fun ys hy => by rw [I.tuple_inj hy hq]; exact hx⟩, ⟨⟨y, by rw [show ((i + 1 : Nat) : Int) = (i : Int) + 1 by omega]; exact he'⟩, ?_, hne⟩, fun b hb => ?_⟩
    · obtain ⟨o, q1, q2⟩ := hst'.1
      exact ⟨o, (sb.2 it (Ne.symm hne)).trans q1, q2⟩
    · have hb' : b < s.heap.objs.size := by
        rcases (show b = e ∨ b = it by simpa using hb) with z | z
        · rw [z]; exact hel
        · rw [z]; exact hil
      rw [upd_ne (Nat.ne_of_lt hb')]
      exact (hf b hb).1
  done := by
    intro X hP hw hK hc i pins s σ H E I hf st hg
    subst hP hw hK
    obtain ⟨⟨old, he⟩, hit, hne⟩ := st
    obtain ⟨xs, hq, hx⟩ := hg
    obtain ⟨its, rv, p, hz⟩ := I.tuple hq
    obtain ⟨f0, f1, f2, f3, f4, f5⟩ := hf it (by simp)
    have hl : its.toArray.size = i := by
      have := rv.length
      simp
      omega
    subst hl
    exact wpAny_pyNext_enum_endD (Draws.tuple (A := X.A.in1) (I.ok.hd hc) it a hai its.toArray) he ⟨hit, show s.heap.IsTuple a its.toArray from p⟩ fun h' eb => ⟨rfl, I.turned (t' := s.toks) (fun b o hb q => eb b o hb q) f0 f1 f3 f4 f5⟩
  self := fun A i s Q E st h => let ⟨⟨_, he⟩, _⟩ := st; wpAny_pyIter_enum he h
section
variable {X : Cx} {g : G} {E : XK} {pos p tpos : Pos} {e a b tg : Expr} {ma mb : EM} {elts : List Expr} {kk : Nat}
def iEnumA (K : PySem.W.Frag) (ta : TA) : TI := fun σ H R => ta σ H fun vs H1 => ∃ a xs, vs = [.ref a] ∧ ((SqL K H1 a xs ∧ R (Ite K a) H1) ∨ (SqT K H1 a xs ∧ R (IteT K a) H1))
theorem piEnumA {ta : TA} (hg : Gl X "enumerate") (hm : X.mg "enumerate" = none) (ha : PA X [e] ta) (hs : starEach [e] X.env = [(false, eval e X.env)] := by rfl) :
    PI X (.Tuple elts kk tpos) (.Call (.Name "enumerate" p) [e] [] pos) (iEnumA X.K ta) := by
  refine ⟨fun pins s σ H R I h => Call_ (ld_blt I hg hm boot_enumerate (PyProof.Rows.callWith_type1 (thn (ha.run pos pins s σ H _ I h) fun us s1 q1 => ?_) hs rfl))⟩
  obtain ⟨vs, H1, I1, r1, a, xs, ex, q⟩ := q1
  subst ex
  cases r1 with
  | cons r rr =>
    cases rr
    cases r
    have fr : ∀ b, b ∈ [s1.heap.objs.size + 1, s1.heap.objs.size] → FpOk X pins H1 b := fun b hb => by
      have hle : s1.heap.objs.size ≤ b := by
        rcases (show b = s1.heap.objs.size + 1 ∨ b = s1.heap.objs.size by simpa using hb) with z | z
        · rw [z]; exact Nat.le_add_right _ _
        · rw [z]; exact Nat.le_refl _
      exact I1.fpOk hle (I1.hok.fresh hle)
    rcases q with ⟨hq, q⟩ | ⟨hq, q⟩
    · obtain ⟨its, rv, p', hz⟩ := I1.list hq
      exact call_enumerate_list p'.isList fun h' he hit hsz hk => wpAny_pyIter_enum he ⟨_, _, _, _, H1, rfl, I1.kept (t' := s1.toks) hk, turn_enum a _ _, ⟨⟨.none, he⟩, hit, Nat.succ_ne_self _⟩, fr, q⟩
    · obtain ⟨its, rv, p', hz⟩ := I1.tuple hq
      have hl := p'.lt
      exact call_enumT (show s1.heap.IsTuple a its.toArray from p') fun h' he hit hk => wpAny_pyIter_enum he ⟨_, _, _, _, H1, rfl, I1.kept (t' := s1.toks) hk, turn_enumT a _ _ (Nat.ne_of_lt (Nat.lt_succ_of_lt hl)) (Nat.ne_of_lt hl), ⟨⟨.none, he⟩, hit, Nat.succ_ne_self _⟩, fr, q⟩
theorem enumD_get : ∀ {xs : List D} {k i : Nat} {d : D}, (enumD k xs)[i]? = some d → ∃ x, xs[i]? = some x ∧ d = .tup [.int ((k + i : Nat) : Int), x]
  | [], k, i, d, h => by simp [enumD] at h
  | x :: xs, k, 0, d, h => by
    simp [enumD] at h
    exact ⟨x, rfl, h.symm⟩
  | x :: xs, k, i + 1, d, h => by
    simp only [enumD, List.getElem?_cons_succ] at h
    obtain ⟨y, h1, h2⟩ := enumD_get h
    exact ⟨y, by simpa using h1, by rw [h2, show k + 1 + i = k + (i + 1) by omega]⟩
theorem enumD_len : ∀ {xs : List D} {k : Nat}, (enumD k xs).length = xs.length
  | [], _ => rfl
  | x :: xs, k => by simp [enumD, enumD_len]
theorem tup2_new {H F : Hp} {mu : List Addr} {st : Mir.St} {T : Addr} {x y : V} {dx dy : D} (rh : RH g H F mu st) (hT : H T = none) (rx : RepV g F mu dx x) (ry : RepV g F mu dy y) :
    ∃ F', RH g (upd H T (.tup [x, y])) F' mu st ∧ Ext H F mu (upd H T (.tup [x, y])) F' mu ∧ RepV g F' mu (.tup [dx, dy]) (.ref T) := by
  refine ⟨upd F T (.tup [x, y]), rh.new hT, Ext.new rh hT, ?_⟩
  simp only [RepV]
  exact ⟨T, [x, y], rfl, upd_same, .cons (RepV.mono (Mono.new rh hT) _ _ rx) (.one (RepV.mono (Mono.new rh hT) _ _ ry))⟩
theorem iter_enum {ds : List D} {w : Watch} {F0 : Hp} {mu0 : List Addr} {K : PySem.W.Frag} {p : Addr} (h : ∀ (H F : Hp) (mu : List Addr) (st : Mir.St), Mono F0 mu0 F mu → RH g H F mu st → w.ok st = true → ∃ vs, SqL K H p vs ∧ RepL g F mu ds vs) : Iter g (Ite K p) (enumD 0 ds) w F0 mu0 := by
  intro H F mu st mo rh hw i
  obtain ⟨vs, h1, h3⟩ := h H F mu st mo rh hw
  refine ⟨fun hi => ⟨vs, h1, by rw [← h3.length, hi, enumD_len]; exact Nat.le_refl _⟩, fun d hd => ?_⟩
  obtain ⟨d', hd', rfl⟩ := enumD_get hd
  obtain ⟨v, v1, v2⟩ := h3.get hd'
  refine ⟨⟨vs, v, h1, v1⟩, fun x H' hy => ?_⟩
  obtain ⟨T, y, rfl, hT, rfl, hy⟩ := hy
  have := hy vs h1
  rw [v1] at this
  cases this
  exact tup2_new rh hT (by simp only [RepV]; rw [Nat.zero_add]) v2
theorem iter_enumT {ds : List D} {w : Watch} {F0 : Hp} {mu0 : List Addr} {K : PySem.W.Frag} {p : Addr} (h : ∀ (H F : Hp) (mu : List Addr) (st : Mir.St), Mono F0 mu0 F mu → RH g H F mu st → ∃ vs, SqT K H p vs ∧ RepL g F mu ds vs) : Iter g (IteT K p) (enumD 0 ds) w F0 mu0 := by
  intro H F mu st mo rh hw i
  obtain ⟨vs, h1, h3⟩ := h H F mu st mo rh
  refine ⟨fun hi => ⟨vs, h1, by rw [← h3.length, hi, enumD_len]⟩, fun d hd => ?_⟩
  obtain ⟨d', hd', rfl⟩ := enumD_get hd
  obtain ⟨v, v1, v2⟩ := h3.get hd'
  refine ⟨⟨vs, v, h1, v1⟩, fun x H' hy => ?_⟩
  obtain ⟨T, y, rfl, hT, rfl, hy⟩ := hy
  have := hy vs h1
  rw [v1] at this
  cases this
  exact tup2_new rh hT (by simp only [RepV]; rw [Nat.zero_add]) v2
/-- what is walked of a list or a tuple, whatever the walk makes of it -/
theorem items_rep {H F : Hp} {mu : List Addr} {st : Mir.St} {x : Opd} {v : V} {xs : List D} {w : Watch} (rh : RH g H F mu st) (rx : RepX g H F mu x v) (hi : itemsOf st x = some (xs, w)) (hs : ∀ z, x ≠ .val (.str z)) :
    (∃ p, v = .ref p ∧ (∃ vs, SqL g.K H p vs) ∧ ∀ (H' F' : Hp) (mu' : List Addr) (st' : Mir.St), Mono F mu F' mu' → RH g H' F' mu' st' → w.ok st' = true → ∃ vs, SqL g.K H' p vs ∧ RepL g F' mu' xs vs) ∨
    (∃ p, v = .ref p ∧ (∃ vs, SqT g.K H p vs) ∧ ∀ (H' F' : Hp) (mu' : List Addr) (st' : Mir.St), Mono F mu F' mu' → RH g H' F' mu' st' → ∃ vs, SqT g.K H' p vs ∧ RepL g F' mu' xs vs) := by
  unfold itemsOf at hi
  split at hi
  · cases hi
    simp only [RepX, RepV] at rx
    obtain ⟨p, vs, rfl, h1, h2⟩ := rx
    exact .inl ⟨p, rfl, ⟨vs, SqL.of (rh.lst h1)⟩, fun H' F' mu' st' mo rh' _ => ⟨vs, SqL.of (rh'.lst (mo.fro _ _ h1)), RepL.mono mo _ _ h2⟩⟩
  · cases hi
    simp only [RepX, RepV] at rx
    obtain ⟨p, vs, rfl, h1, h2⟩ := rx
    exact .inr ⟨p, rfl, ⟨vs, rh.seqT h1⟩, fun H' F' mu' st' mo rh' => ⟨vs, rh'.seqT (mo.fro _ _ h1), RepL.mono mo _ _ h2⟩⟩
  · cases hi
    simp only [RepX, RepV] at rx
    obtain ⟨p, vs, rfl, h1, h2⟩ := rx
    exact .inr ⟨p, rfl, ⟨vs, h1.seq⟩, fun H' F' mu' st' mo rh' => ⟨vs, h1.seq, RepL.mono mo _ _ h2⟩⟩
  · exact absurd rfl (hs _)
  · rename_i n
    split at hi
    · rename_i ys hn
      cases hi
      simp only [RepX, RepV] at rx
      obtain ⟨p, hp, rfl⟩ := rx
      obtain ⟨p', q1, _, vs, q3, q4⟩ := rh.cel n _ hn
      rw [hp] at q1
      cases q1
      refine .inl ⟨p, rfl, ⟨vs, SqL.of q3⟩, fun H' F' mu' st' mo rh' hw => ?_⟩
      have hn2 : st'[n]? = some (.lst xs) := of_decide_eq_true hw
      obtain ⟨p', q1, _, us, q5, q6⟩ := rh'.cel n _ hn2
      rw [mo.mu _ _ hp] at q1
      cases q1
      exact ⟨us, SqL.of q5, q6⟩
    · cases hi
  · cases hi
theorem piEn (hK : X.K = g.K) (h : PI X tg e (iEnumA X.K (tCons (rdE g E ma) tNil))) : PI X tg e (rdI g E (iEnum ma)) := PI.imp h fun s H R h => by
  obtain ⟨r, st, F, mu, re, h⟩ := h
  refine ⟨r, st, F, mu, re, OutQ.bind h fun x st1 v H1 F1 mu1 _ e1 re1 rx k => ?_⟩
  rw [hK]
  have key : ∀ q, enumOf st1 x = some q → ∃ xs w, itemsOf st1 x = some (xs, w) ∧ q = (enumD 0 xs, w) ∧ ∀ z, x ≠ .val (.str z) := by
    intro q hq
    unfold enumOf at hq
    split at hq
    · cases hq
    · rename_i hx
      simp only [Option.map_eq_some_iff] at hq
      obtain ⟨⟨xs, w⟩, h1, h2⟩ := hq
      exact ⟨xs, w, h1, h2.symm, fun z hz => hx z hz⟩
  cases hi : enumOf st1 x with
  | none => rw [hi] at k; exact k.elim
  | some q =>
    obtain ⟨xs, w, hi', rfl, hs⟩ := key q hi
    rw [hi] at k
    rcases items_rep re1.h rx hi' hs with ⟨p, rfl, ⟨vs, h1⟩, h2⟩ | ⟨p, rfl, ⟨vs, h1⟩, h2⟩
    · exact ⟨p, vs, rfl, .inl ⟨h1, k _ H1 F1 mu1 e1 re1 (iter_enum h2)⟩⟩
    · exact ⟨p, vs, rfl, .inr ⟨h1, k _ H1 F1 mu1 e1 re1 (iter_enumT h2)⟩⟩
theorem zipD_get : ∀ {xs ys : List D} {i : Nat} {d : D}, (zipD xs ys)[i]? = some d → ∃ x y, xs[i]? = some x ∧ ys[i]? = some y ∧ d = .tup [x, y]
  | [], ys, i, d, h => by simp [zipD] at h
  | x :: xs, [], i, d, h => by simp [zipD] at h
  | x :: xs, y :: ys, 0, d, h => by
    simp [zipD] at h
    exact ⟨x, y, rfl, rfl, h.symm⟩
  | x :: xs, y :: ys, i + 1, d, h => by
    simp only [zipD, List.getElem?_cons_succ] at h ⊢
    exact zipD_get h
theorem zipD_len : ∀ {xs ys : List D}, (zipD xs ys).length = xs.length ∨ (zipD xs ys).length = ys.length
  | [], _ => .inl rfl
  | x :: xs, [] => .inr rfl
  | x :: xs, y :: ys => by
    simp only [zipD, List.length_cons]
    rcases zipD_len (xs := xs) (ys := ys) with h | h
    · exact .inl (by rw [h])
    · exact .inr (by rw [h])
theorem piZip (hK : X.K = g.K) (h : PI X tg e (RZ.iZipA X.K (tCons (rdE g E ma) (tCons (rdE g E mb) tNil)))) : PI X tg e (rdI g E (Mir.iZip ma mb)) := PI.imp h fun s H R h => by
  obtain ⟨r, st, F, mu, re, h⟩ := h
  refine ⟨r, st, F, mu, re, OutQ.bind h fun x st1 v H1 F1 mu1 _ e1 re1 rx k => ?_⟩
  refine ⟨r, st1, F1, mu1, re1, OutQ.bind (k.ext e1) fun y st2 v2 H2 F2 mu2 _ e2 re2 ry k2 => ?_⟩
  rw [hK]
  cases x with
  | bor c => exact k2.elim
  | val d =>
    cases y with
    | bor c => cases d <;> exact k2.elim
    | val d2 =>
      cases d with
      | tup xs =>
        cases d2 with
        | tup ys =>
          have rx' := rx.ext e2
          simp only [RepX, RepV] at rx' ry
          obtain ⟨p, vs, rfl, h1, h2⟩ := rx'
          obtain ⟨q, us, rfl, h3, h4⟩ := ry
          refine ⟨p, q, vs, us, rfl, .inr ⟨re2.h.seqT h1, re2.h.seqT h3, k2 _ H2 F2 mu2 e2 re2 fun H F mu st mo rh _ i => ⟨fun hi => ?_, fun d hd => ?_⟩⟩⟩
          · refine ⟨vs, us, rh.seqT (mo.fro _ _ h1), rh.seqT (mo.fro _ _ h3), ?_⟩
            rw [← h2.length, ← h4.length]
            rcases zipD_len (xs := xs) (ys := ys) with hz | hz
            · exact .inl (by rw [hi, hz]; exact Nat.le_refl _)
            · exact .inr (by rw [hi, hz]; exact Nat.le_refl _)
          · obtain ⟨a, b, ha, hb, rfl⟩ := zipD_get hd
            obtain ⟨va, a1, a2⟩ := h2.get ha
            obtain ⟨vb, b1, b2⟩ := h4.get hb
            refine ⟨⟨vs, us, va, vb, rh.seqT (mo.fro _ _ h1), rh.seqT (mo.fro _ _ h3), a1, b1⟩, fun z H' hy => ?_⟩
            obtain ⟨T, y1, y2, rfl, hT, rfl, c1, c2⟩ := hy
            have c1 := c1 vs (rh.seqT (mo.fro _ _ h1))
            have c2 := c2 us (rh.seqT (mo.fro _ _ h3))
            rw [a1] at c1
            rw [b1] at c2
            cases c1
            cases c2
            exact tup2_new rh hT (RepV.mono mo _ _ a2) (RepV.mono mo _ _ b2)
        | _ => exact k2.elim
      | lst xs =>
        cases d2 with
        | lst ys =>
          have rx' := rx.ext e2
          simp only [RepX, RepV] at rx' ry
          obtain ⟨p, vs, rfl, h1, h2⟩ := rx'
          obtain ⟨q, us, rfl, h3, h4⟩ := ry
          refine ⟨p, q, vs, us, rfl, .inl ⟨SqL.of (re2.h.lst h1), SqL.of (re2.h.lst h3), k2 _ H2 F2 mu2 e2 re2 fun H F mu st mo rh _ i => ⟨fun hi => ?_, fun d hd => ?_⟩⟩⟩
          · refine ⟨vs, us, SqL.of (rh.lst (mo.fro _ _ h1)), SqL.of (rh.lst (mo.fro _ _ h3)), ?_⟩
            rw [← h2.length, ← h4.length]
            rcases zipD_len (xs := xs) (ys := ys) with hz | hz
            · exact .inl (by rw [hi, hz]; exact Nat.le_refl _)
            · exact .inr (by rw [hi, hz]; exact Nat.le_refl _)
          · obtain ⟨a, b, ha, hb, rfl⟩ := zipD_get hd
            obtain ⟨va, a1, a2⟩ := h2.get ha
            obtain ⟨vb, b1, b2⟩ := h4.get hb
            refine ⟨⟨vs, us, va, vb, SqL.of (rh.lst (mo.fro _ _ h1)), SqL.of (rh.lst (mo.fro _ _ h3)), a1, b1⟩, fun z H' hy => ?_⟩
            obtain ⟨T, y1, y2, rfl, hT, rfl, c1, c2⟩ := hy
            have c1 := c1 vs (SqL.of (rh.lst (mo.fro _ _ h1)))
            have c2 := c2 us (SqL.of (rh.lst (mo.fro _ _ h3)))
            rw [a1] at c1
            rw [b1] at c2
            cases c1
            cases c2
            exact tup2_new rh hT (RepV.mono mo _ _ a2) (RepV.mono mo _ _ b2)
        | _ => exact k2.elim
      | _ => cases d2 <;> exact k2.elim
end
end Mir
/-! E9: dicts; in; slices; lists made of lists; sorted: why the rules' wants follow. -/
namespace Mir
open PySem PySem.Spec PyProof.Rows L2
section
variable {g : G} {F : Hp} {mu : List Addr}
theorem repK_fun : ∀ {d : D} {k k' : Key}, RepK d k → RepK d k' → k = k'
  | .int _, _, _, h, h' => by simp only [RepK] at h h'; rw [h, h']
  | .str _, _, _, h, h' => by simp only [RepK] at h h'; rw [h, h']
  | .non, _, _, h, _ => h.elim
  | .bl _, _, _, h, _ => h.elim
  | .ref _, _, _, h, _ => h.elim
  | .tup _, _, _, h, _ => h.elim
  | .lst _, _, _, h, _ => h.elim
  | .dct _ _, _, _, h, _ => h.elim
  | .obj _ _, _, _, h, _ => h.elim
  | .lam _, _, _, h, _ => h.elim
  | .scr _, _, _, h, _ => h.elim
  | .ktp _, _, _, h, _ => h.elim
theorem repK_inj : ∀ {d d' : D} {k : Key}, RepK d k → RepK d' k → d = d' := by
  intro d d' k h h'
  cases d <;> simp only [RepK] at h <;> cases d' <;> simp only [RepK] at h' <;> subst h
  · cases h'; rfl
  · cases h'
  · cases h'
  · rw [toS_inj (Sum.inr.inj h')]
theorem repKs_fun : ∀ {ds : List D} {ks ks' : List Key}, RepKs ds ks → RepKs ds ks' → ks = ks'
  | [], _, _, h, h' => by simp only [RepKs] at h h'; rw [h, h']
  | d :: ds, _, _, h, h' => by
    simp only [RepKs] at h h'
    obtain ⟨k, r, rfl, h1, h2⟩ := h
    obtain ⟨k', r', rfl, h3, h4⟩ := h'
    rw [repK_fun h1 h3, repKs_fun h2 h4]
theorem repKs_inj : ∀ {ds ds' : List D} {ks : List Key}, RepKs ds ks → RepKs ds' ks → ds = ds'
  | [], [], _, _, _ => rfl
  | [], d :: ds, _, h, h' => by
    simp only [RepKs] at h h'
    subst h
    obtain ⟨k, r, h1, _⟩ := h'
    cases h1
  | d :: ds, [], _, h, h' => by
    simp only [RepKs] at h h'
    subst h'
    obtain ⟨k, r, h1, _⟩ := h
    cases h1
  | d :: ds, d' :: ds', _, h, h' => by
    simp only [RepKs] at h h'
    obtain ⟨k, r, rfl, h1, h2⟩ := h
    obtain ⟨k', r', h0, h3, h4⟩ := h'
    cases h0
    rw [repK_inj h1 h3, repKs_inj h2 h4]
theorem flat_key {d : D} {v : V} (h : flatK d = true) (r : RepV g F mu d v) : ∃ k, v = kV k ∧ RepK d k := by
  cases d <;> simp only [flatK] at h <;> (try cases h)
  · simp only [RepV] at r
    exact ⟨.inl _, r, rfl⟩
  · simp only [RepV] at r
    exact ⟨.inr _, r, rfl⟩
theorem flat_keys : ∀ {ds : List D} {vs : List V}, ds.all flatK = true → RepL g F mu ds vs → ∃ ks : List Key, vs = ks.map kV ∧ RepKs ds ks
  | [], vs, _, r => by
    simp only [RepL] at r
    exact ⟨[], r, by simp only [RepKs]⟩
  | d :: ds, vs, h, r => by
    simp only [List.all_cons, Bool.and_eq_true] at h
    simp only [RepL] at r
    obtain ⟨v, rest, rfl, r1, r2⟩ := r
    obtain ⟨k, rfl, k1⟩ := flat_key h.1 r1
    obtain ⟨ks, rfl, k2⟩ := flat_keys h.2 r2
    exact ⟨k :: ks, rfl, by simp only [RepKs]; exact ⟨k, ks, rfl, k1, k2⟩⟩

/-! ### look, put, drop -/
def OptRep (g : G) (F : Hp) (mu : List Addr) : Option D → Option V → Prop
  | none, o => o = none
  | some d, o => ∃ v, o = some v ∧ RepV g F mu d v
theorem lookP : ∀ {ps : List (D × D)} {kvs : List (Key × V)} {k : D} {k' : Key}, RepP g F mu ps kvs → RepK k k' → OptRep g F mu (lookD ps k) (valV kvs k')
  | [], kvs, k, k', h, hk => by
    simp only [RepP] at h
    subst h
    exact rfl
  | (a, d) :: ps, kvs, k, k', h, hk => by
    simp only [RepP] at h
    obtain ⟨a', v, r, rfl, h1, h2, h3⟩ := h
    by_cases e : a = k
    · subst e
      have e' := repK_fun h1 hk
      subst e'
      rw [valV_pos rfl]
      simp only [lookD, List.find?_cons, decide_true, Option.map_some]
      exact ⟨v, rfl, h2⟩
    · have e' : ¬ a' = k' := fun z => e (repK_inj h1 (z ▸ hk))
      rw [valV_neg e']
      have := lookP h3 hk
      simp only [lookD, List.find?_cons, decide_eq_false e] at this ⊢
      exact this
theorem lookT : ∀ {ps : List (D × D)} {kvs : List (List Key × V)} {k : List D} {k' : List Key}, RepT g F mu ps kvs → RepKs k k' → OptRep g F mu (lookD ps (.tup k)) (valV kvs k')
  | [], kvs, k, k', h, hk => by
    simp only [RepT] at h
    subst h
    exact rfl
  | (a, d) :: ps, kvs, k, k', h, hk => by
    cases a with
    | tup a =>
      simp only [RepT] at h
      obtain ⟨a', v, r, rfl, h1, h2, h3⟩ := h
      by_cases e : a = k
      · subst e
        have e' := repKs_fun h1 hk
        subst e'
        rw [valV_pos rfl]
        simp only [lookD, List.find?_cons, decide_true, Option.map_some]
        exact ⟨v, rfl, h2⟩
      · have e' : ¬ a' = k' := fun z => e (repKs_inj h1 (z ▸ hk))
        have e2 : ¬ D.tup a = D.tup k := fun z => e (D.tup.inj z)
        rw [valV_neg e']
        have := lookT h3 hk
        simp only [lookD, List.find?_cons, decide_eq_false e2] at this ⊢
        exact this
    | _ => simp only [RepT] at h
theorem hasP {ps : List (D × D)} {kvs : List (Key × V)} {k : D} {k' : Key} (h : RepP g F mu ps kvs) (hk : RepK k k') : hasD ps k = (kvs.any fun kv => decide (kv.1 = k')) := by
  induction ps generalizing kvs with
  | nil =>
    simp only [RepP] at h
    subst h
    rfl
  | cons p ps ih =>
    obtain ⟨a, d⟩ := p
    simp only [RepP] at h
    obtain ⟨a', v, r, rfl, h1, h2, h3⟩ := h
    have := ih h3
    simp only [hasD, List.any_cons] at this ⊢
    rw [this]
    congr 1
    by_cases e : a = k
    · subst e
      rw [repK_fun h1 hk]
      simp
    · rw [decide_eq_false e, decide_eq_false fun (z : a' = k') => e (repK_inj h1 (z ▸ hk))]
theorem hasT {ps : List (D × D)} {kvs : List (List Key × V)} {k : List D} {k' : List Key} (h : RepT g F mu ps kvs) (hk : RepKs k k') : hasD ps (.tup k) = (kvs.any fun kv => decide (kv.1 = k')) := by
  induction ps generalizing kvs with
  | nil =>
    simp only [RepT] at h
    subst h
    rfl
  | cons p ps ih =>
    obtain ⟨a, d⟩ := p
    cases a with
    | tup a =>
      simp only [RepT] at h
      obtain ⟨a', v, r, rfl, h1, h2, h3⟩ := h
      have := ih h3
      simp only [hasD, List.any_cons] at this ⊢
      rw [this]
      congr 1
      by_cases e : a = k
      · subst e
        rw [repKs_fun h1 hk]
        simp
      · rw [decide_eq_false fun (z : D.tup a = D.tup k) => e (D.tup.inj z), decide_eq_false fun (z : a' = k') => e (repKs_inj h1 (z ▸ hk))]
    | _ => simp only [RepT] at h
theorem RepP.append : ∀ {ps qs : List (D × D)} {kvs ls : List (Key × V)}, RepP g F mu ps kvs → RepP g F mu qs ls → RepP g F mu (ps ++ qs) (kvs ++ ls)
  | [], _, _, _, h, k => by simp only [RepP] at h; subst h; exact k
  | (a, d) :: ps, _, _, _, h, k => by
    simp only [RepP] at h
    obtain ⟨a', v, r, rfl, h1, h2, h3⟩ := h
    simp only [List.cons_append, RepP]
    exact ⟨a', v, _, rfl, h1, h2, RepP.append h3 k⟩
theorem RepT.append : ∀ {ps qs : List (D × D)} {kvs ls : List (List Key × V)}, RepT g F mu ps kvs → RepT g F mu qs ls → RepT g F mu (ps ++ qs) (kvs ++ ls)
  | [], _, _, _, h, k => by simp only [RepT] at h; subst h; exact k
  | (a, d) :: ps, _, _, _, h, k => by
    cases a with
    | tup a =>
      simp only [RepT] at h
      obtain ⟨a', v, r, rfl, h1, h2, h3⟩ := h
      simp only [List.cons_append, RepT]
      exact ⟨a', v, _, rfl, h1, h2, RepT.append h3 k⟩
    | _ => simp only [RepT] at h
theorem mapP {k d : D} {k' : Key} {v : V} (hk : RepK k k') (hv : RepV g F mu d v) : ∀ {ps : List (D × D)} {kvs : List (Key × V)}, RepP g F mu ps kvs → RepP g F mu (ps.map fun p => if p.1 = k then (p.1, d) else p) (kvs.map fun kv => if kv.1 = k' then (kv.1, v) else kv)
  | [], _, h => by
    simp only [RepP] at h
    subst h
    simp only [List.map_nil, RepP]
  | (b, f) :: ps, _, h => by
    simp only [RepP] at h
    obtain ⟨b', u, r', rfl, g1, g2, g3⟩ := h
    have ih := mapP hk hv g3
    simp only [List.map_cons]
    by_cases z : b = k
    · subst z
      have z' := repK_fun g1 hk
      subst z'
      simp only [if_true, RepP]
      exact ⟨b', v, _, rfl, g1, hv, ih⟩
    · have z' : ¬ b' = k' := fun q => z (repK_inj g1 (q ▸ hk))
      simp only [if_neg z, if_neg z', RepP]
      exact ⟨b', u, _, rfl, g1, g2, ih⟩
theorem mapT {k : List D} {d : D} {k' : List Key} {v : V} (hk : RepKs k k') (hv : RepV g F mu d v) : ∀ {ps : List (D × D)} {kvs : List (List Key × V)}, RepT g F mu ps kvs → RepT g F mu (ps.map fun p => if p.1 = D.tup k then (p.1, d) else p) (kvs.map fun kv => if kv.1 = k' then (kv.1, v) else kv)
  | [], _, h => by
    simp only [RepT] at h
    subst h
    simp only [List.map_nil, RepT]
  | (b, f) :: ps, _, h => by
    cases b with
    | tup b =>
      simp only [RepT] at h
      obtain ⟨b', u, r', rfl, g1, g2, g3⟩ := h
      have ih := mapT hk hv g3
      simp only [List.map_cons]
      by_cases z : b = k
      · subst z
        have z' := repKs_fun g1 hk
        subst z'
        simp only [if_true, RepT]
        exact ⟨b', v, _, rfl, g1, hv, ih⟩
      · have z' : ¬ b' = k' := fun q => z (repKs_inj g1 (q ▸ hk))
        have z2 : ¬ D.tup b = D.tup k := fun q => z (D.tup.inj q)
        simp only [if_neg z2, if_neg z', RepT]
        exact ⟨b', u, _, rfl, g1, g2, ih⟩
    | _ => simp only [RepT] at h
theorem putP {ps : List (D × D)} {kvs : List (Key × V)} {k d : D} {k' : Key} {v : V} (h : RepP g F mu ps kvs) (hk : RepK k k') (hv : RepV g F mu d v) : RepP g F mu (putD ps k d) (putK kvs k' v) := by
  unfold putD putK
  rw [hasP h hk]
  split
  · exact mapP hk hv h
  · exact h.append (by simp only [RepP]; exact ⟨k', v, [], rfl, hk, hv, rfl⟩)
theorem putT {ps : List (D × D)} {kvs : List (List Key × V)} {k : List D} {d : D} {k' : List Key} {v : V} (h : RepT g F mu ps kvs) (hk : RepKs k k') (hv : RepV g F mu d v) : RepT g F mu (putD ps (.tup k) d) (putK kvs k' v) := by
  unfold putD putK
  rw [hasT h hk]
  split
  · exact mapT hk hv h
  · exact h.append (by simp only [RepT]; exact ⟨k', v, [], rfl, hk, hv, rfl⟩)
theorem dropP {k : D} {k' : Key} (hk : RepK k k') : ∀ {ps : List (D × D)} {kvs : List (Key × V)}, RepP g F mu ps kvs → RepP g F mu (dropD ps k) (dropK kvs k')
  | [], _, h => by
    simp only [RepP] at h
    subst h
    simp [dropD, dropK, RepP]
  | (b, f) :: ps, _, h => by
    simp only [RepP] at h
    obtain ⟨b', u, r', rfl, g1, g2, g3⟩ := h
    have ih := dropP hk g3
    unfold dropD dropK at ih ⊢
    by_cases z : b = k
    · subst z
      have z' := repK_fun g1 hk
      subst z'
      simpa [List.filter_cons] using ih
    · have z' : ¬ b' = k' := fun q => z (repK_inj g1 (q ▸ hk))
      simp only [List.filter_cons, ne_eq, z, z', not_false_eq_true, decide_true, if_true, RepP]
      exact ⟨b', u, _, rfl, g1, g2, ih⟩
theorem RepP.len : ∀ {ps : List (D × D)} {kvs : List (Key × V)}, RepP g F mu ps kvs → ps.length = kvs.length
  | [], _, h => by simp only [RepP] at h; subst h; rfl
  | (b, f) :: ps, _, h => by
    simp only [RepP] at h
    obtain ⟨b', u, r', rfl, g1, g2, g3⟩ := h
    simp [RepP.len g3]
theorem RepT.len : ∀ {ps : List (D × D)} {kvs : List (List Key × V)}, RepT g F mu ps kvs → ps.length = kvs.length
  | [], _, h => by simp only [RepT] at h; subst h; rfl
  | (b, f) :: ps, _, h => by
    cases b with
    | tup b =>
      simp only [RepT] at h
      obtain ⟨b', u, r', rfl, g1, g2, g3⟩ := h
      simp [RepT.len g3]
    | _ => simp only [RepT] at h

/-! ### what a dict holds -/
theorem dct_rep {H : Hp} {st : Mir.St} {o : Opd} {v : V} {t : Nat} {ps : List (D × D)} (rh : RH g H F mu st) (r : RepX g H F mu o v) (h : dctOf st o = some (t, ps)) :
    ∃ p, v = .ref p ∧ ((t = 0 ∧ ∃ kvs, Rd H p (.dK kvs) ∧ RepP g F mu ps kvs) ∨ (t = 1 ∧ ∃ kvs, Rd H p (.dT kvs) ∧ RepT g F mu ps kvs)) := by
  unfold dctOf at h
  split at h
  · cases h
    simp only [RepX, RepV] at r
    obtain ⟨p, rfl, h1⟩ := r
    exact ⟨p, rfl, h1.imp (fun ⟨e, kvs, a, b⟩ => ⟨e, kvs, rh.dK a, b⟩) fun ⟨e, kvs, a, b⟩ => ⟨e, kvs, rh.dT a, b⟩⟩
  · rename_i n
    simp only [RepX, RepV] at r
    obtain ⟨p, hp, rfl⟩ := r
    split at h
    · rename_i hn
      cases h
      obtain ⟨p', q1, _, q2⟩ := rh.cel n _ hn
      rw [hp] at q1
      cases q1
      exact ⟨p, rfl, Or.imp (fun ⟨e, kvs, a, b⟩ => ⟨e, kvs, .inl a, b⟩) (fun ⟨e, kvs, a, b⟩ => ⟨e, kvs, .inl a, b⟩) q2⟩
    · rename_i hn
      cases h
      obtain ⟨p', q1, _, od, q2⟩ := rh.cel n _ hn
      rw [hp] at q1
      cases q1
      exact ⟨p, rfl, Or.imp (fun ⟨e, kvs, a, b⟩ => ⟨e, kvs, .inr ⟨od, a⟩, b⟩) (fun ⟨e, kvs, a, b⟩ => ⟨e, kvs, .inr ⟨od, a⟩, b⟩) q2⟩
    · cases h
  · cases h
    obtain ⟨p, rfl, _, _, q2⟩ := r
    exact ⟨p, rfl, Or.imp (fun ⟨e, kvs, a, b⟩ => ⟨e, kvs, .inl a, b⟩) (fun ⟨e, kvs, a, b⟩ => ⟨e, kvs, .inl a, b⟩) q2⟩
  · cases h
/-- a key's value -/
theorem tupKey {H : Hp} {st : Mir.St} {k : D} {vk : V} (rh : RH g H F mu st) (hk : isTupK k = true) (ry : RepV g F mu k vk) : ∃ (ks : List D) (b : Addr) (ks' : List Key), k = .tup ks ∧ vk = .ref b ∧ H b = some (.tup (ks'.map kV)) ∧ RepKs ks ks' := by
  cases k with
  | tup ks =>
    simp only [isTupK] at hk
    simp only [RepV] at ry
    obtain ⟨b, vs, rfl, h1, h2⟩ := ry
    obtain ⟨ks', rfl, h3⟩ := flat_keys hk h2
    exact ⟨ks, b, ks', rfl, rfl, rh.tup h1, h3⟩
  | _ => simp [isTupK] at hk
theorem dget_rep {H : Hp} {st : Mir.St} {o : Opd} {v vk : V} {t : Nat} {ps : List (D × D)} {k : D} (rh : RH g H F mu st) (r : RepX g H F mu o v) (h : dctOf st o = some (t, ps)) (hk : kOk t k = true) (ry : RepV g F mu k vk) :
    ∃ p u, v = .ref p ∧ DGet H p vk u ∧ OptRep g F mu (lookD ps k) u := by
  obtain ⟨p, rfl, ⟨rfl, kvs, h1, h2⟩ | ⟨rfl, kvs, h1, h2⟩⟩ := dct_rep rh r h
  · obtain ⟨k', rfl, h3⟩ := flat_key hk ry
    exact ⟨p, _, rfl, .inl ⟨kvs, k', h1, rfl, rfl⟩, lookP h2 h3⟩
  · obtain ⟨ks, b, ks', rfl, rfl, h4, h5⟩ := tupKey rh hk ry
    exact ⟨p, _, rfl, .inr ⟨kvs, ks', b, h1, rfl, h4, rfl⟩, lookT h2 h5⟩
theorem lookHas : ∀ (ps : List (D × D)) (k : D), (lookD ps k).isSome = hasD ps k
  | [], _ => rfl
  | (a, d) :: ps, k => by
    have := lookHas ps k
    simp only [lookD, hasD, List.find?_cons, List.any_cons] at this ⊢
    by_cases e : a = k
    · simp [e]
    · simp only [decide_eq_false e, Bool.false_or]
      exact this
theorem OptRep.isSome {a : Option D} {b : Option V} (h : OptRep g F mu a b) : b.isSome = a.isSome := by
  cases a with
  | none => rw [show b = none from h]; rfl
  | some d => obtain ⟨v, rfl, _⟩ := h; rfl
theorem OptRep.getD {a : Option D} {b : Option V} {d : D} {v : V} (h : OptRep g F mu a b) (hv : RepV g F mu d v) : RepV g F mu (a.getD d) (b.getD v) := by
  cases a with
  | none => rw [show b = none from h]; exact hv
  | some d => obtain ⟨v, rfl, h⟩ := h; exact h
theorem dput_cell {H : Hp} {p : Addr} {t : Nat} {ps : List (D × D)} {k d : D} {vk v : V} {st : Mir.St} (rh : RH g H F mu st) (hc : CellAt g F mu H p (.dct t ps)) (hk : kOk t k = true) (hl : ps.length < lim) (ry : RepV g F mu k vk) (rv : RepV g F mu d v) :
    ∃ o, DPut H p vk v (upd H p o) ∧ CellAt g F mu (upd H p o) p (.dct t (putD ps k d)) := by
  have hll := lim_line
  rcases hc with ⟨rfl, kvs, h1, h2⟩ | ⟨rfl, kvs, h1, h2⟩
  · obtain ⟨k', rfl, h3⟩ := flat_key hk ry
    exact ⟨_, DPut.k h1 (by rw [← h2.len]; omega), .inl ⟨rfl, _, upd_same, putP h2 h3 rv⟩⟩
  · obtain ⟨ks, b, ks', rfl, rfl, h4, h5⟩ := tupKey rh hk ry
    exact ⟨_, DPut.t h1 h4 (by rw [← h2.len]; omega), .inr ⟨rfl, _, upd_same, putT h2 h5 rv⟩⟩
end

section
variable {X : Cx} {g : G} {E : XK} {B : Bs} {pos : Pos} {a b c e f o : Expr} {ma mb mc : EM} {es : List Expr} {mas : AM} {sa : Stmt}
/-! ### x[k], in -/
def rDIx : R2 := fun x y H Q => ∃ a v, x = .ref a ∧ DGet H a y (some v) ∧ Q v H
theorem ix_dict (hu : X.A.units + 1 < cLine) : IxR X rDIx := by
  intro value slice pins s σ H x y v u Q I rx ry h hs
  obtain ⟨a, w, rfl, hg, q⟩ := h
  cases rx
  exact tail_any (dict_typeIs I hg) PySem.F.slot_dict_getitem.lookup (d_getItem hu I hg ry fun w' s' I' rw' => ⟨w, H, I', rw', q⟩) hs
theorem ix_all (hu : X.A.units + 1 < cLine) : IxR X (fun x y H Q => rDIx x y H Q ∨ rIx X.K x y H Q) := (ix_dict hu).or ix_seq
theorem sGet : OpS g (fun x y H Q => rDIx x y H Q ∨ rIx g.K x y H Q) oGet := by
  intro H F mu st x y vx vy d Q rh rx ry e q
  unfold oGet at e
  split at e
  · rename_i t ps hd
    split at e
    · rename_i k
      split at e
      · rename_i hk
        obtain ⟨p, u, rfl, h1, h2⟩ := dget_rep rh rx hd hk ry
        rw [e] at h2
        obtain ⟨w, rfl, h3⟩ := h2
        exact .inl ⟨p, w, rfl, h1, q w H F rh (.refl _ _ _) h3⟩
      · cases e
    · cases e
  · exact .inr (sIx H F mu st x y vx vy d Q rh rx ry e q)
theorem xSub (hu : X.A.units + 1 < cLine) (hK : X.K = g.K) (ha : PE X a (rdE g E ma)) (hb : PE X b (rdE g E mb)) (hs : PlainIx b) : PE X (.Subscript a b pos) (rdE g E (eOp2 oGet ma mb)) :=
  xOp2 sGet (by rw [← hK]; exact pe_ix (ix_all hu) ha hb hs)


end
end Mir
/-! E10: in; d.get; stores to dicts; slices; new lists; sorted. -/
namespace Mir
open PySem PySem.Spec PyProof.Rows L2
section
variable {X : Cx} {g : G} {E : XK} {B : Bs} {pos : Pos} {a b c e f o : Expr} {ma mb mc : EM} {es : List Expr} {mas : AM} {sa : Stmt}
def rDIn (neg : Bool) : R2 := fun x y H Q => ∃ a o, y = .ref a ∧ DGet H a x o ∧ Q (.bl (if neg then !o.isSome else o.isSome)) H
theorem op_inDct (hu : X.A.units + 1 < cLine) : OpR X (compareOp .In) (rDIn false) := by
  intro pins s σ H x y v u Q I rx ry h
  obtain ⟨a, o, rfl, hg, q⟩ := h
  cases ry
  exact d_in hu I hg rx fun s' I' => ⟨.bl o.isSome, H, I', rfl, q⟩
theorem op_notInDct (hu : X.A.units + 1 < cLine) : OpR X (compareOp .NotIn) (rDIn true) := by
  intro pins s σ H x y v u Q I rx ry h
  obtain ⟨a, o, rfl, hg, q⟩ := h
  cases ry
  exact d_notIn hu I hg rx fun s' I' => ⟨.bl (!o.isSome), H, I', rfl, q⟩
def rSg (neg : Bool) : R2 := fun x y H Q => ∃ (c : Nat) (z : Str), x = .str ⟨#[c]⟩ ∧ y = .str z ∧ Q (.bl (if neg then !decide (c ∈ z.cps.toList) else decide (c ∈ z.cps.toList))) H
def rInAll (K : PySem.W.Frag) (neg : Bool) : R2 := fun x y H Q => rDIn neg x y H Q ∨ rSg neg x y H Q ∨ rIn K neg x y H Q ∨ (if neg then rNotInD K x y H Q else rInD K x y H Q)
theorem op_inAll (hu : X.A.units + 65 < cLine) : OpR X (compareOp .In) (rInAll X.K false) := OpR.or (op_inDct (by omega)) (OpR.or op_in_sign (OpR.or op_in_seq (op_inD hu)))
theorem op_notInAll (hu : X.A.units + 65 < cLine) : OpR X (compareOp .NotIn) (rInAll X.K true) := OpR.or (op_notInDct (by omega)) (OpR.or op_notIn_sign (OpR.or op_notIn_seq (op_notInD hu)))
theorem flat_rep {F : Hp} {mu : List Addr} {d : D} {v : V} (h : scalD d d = true) (r : RepV g F mu d v) : flatV v = true := by
  cases d <;> simp only [scalD] at h <;> (try (exact absurd h (by decide))) <;> simp only [RepV] at r <;> subst r <;> rfl
theorem eqV_rep {F : Hp} {mu : List Addr} {d d' : D} {v v' : V} (h : scalD d d = true) (h' : scalD d' d' = true) (r : RepV g F mu d v) (r' : RepV g F mu d' v') : eqV v v' = eqv d d' := by
  cases d <;> simp only [scalD] at h <;> (try (exact absurd h (by decide))) <;> cases d' <;> simp only [scalD] at h' <;> (try (exact absurd h' (by decide))) <;> simp only [RepV] at r r' <;> subst r r' <;> simp [eqV, eqv, toS_beq]
theorem any_rep {F : Hp} {mu : List Addr} {d : D} {v : V} (h : scalD d d = true) (r : RepV g F mu d v) : ∀ {xs : List D} {vs : List V}, (xs.all fun z => scalD z z) = true → RepL g F mu xs vs → vs.all flatV = true ∧ inV v vs = xs.any fun z => eqv z d
  | [], vs, _, rl => by simp only [RepL] at rl; subst rl; exact ⟨rfl, rfl⟩
  | x :: xs, vs, hx, rl => by
    simp only [List.all_cons, Bool.and_eq_true] at hx
    simp only [RepL] at rl
    obtain ⟨w, rest, rfl, r1, r2⟩ := rl
    obtain ⟨i1, i2⟩ := any_rep h r hx.2 r2
    refine ⟨by simp [flat_rep hx.1 r1, i1], ?_⟩
    simp only [inV, List.any_cons] at i2 ⊢
    rw [i2, eqV_rep hx.1 h r1 r]
theorem toPs_any (k : Nat) (d : D) (hd : shap 20 d = true) : ∀ xs : List D, shapL k xs = true → ((toPs xs).any fun z => PyData.eqv z (toP d)) = xs.any fun z => eqv z d
  | [], _ => rfl
  | x :: xs, h => by
    simp only [shapL, Bool.and_eq_true] at h
    simp only [toPs, List.any_cons]
    rw [toPs_any k d hd xs h.2, eqv_toP k 20 x d h.1 hd]
theorem inCore {neg : Bool} {H F : Hp} {mu : List Addr} {st : Mir.St} {x y : Opd} {vx vy : V} {k : Bool} {Q : VK} (rh : RH g H F mu st) (rx : RepX g H F mu x vx) (ry : RepX g H F mu y vy) (h : inD st x y = some k) (q : Q (.bl (if neg then !k else k)) H) : rInAll g.K neg vx vy H Q := by
  cases x with
  | bor c => simp [inD] at h
  | val d =>
    simp only [RepX] at rx
    unfold inD at h
    dsimp only at h
    split at h
    · rename_i t ps hd
      split at h
      · rename_i hk
        cases h
        obtain ⟨p, u, rfl, h1, h2⟩ := dget_rep rh ry hd hk rx
        refine .inl ⟨p, u, rfl, h1, ?_⟩
        rw [h2.isSome, lookHas]
        exact q
      · cases h
    · have flat : ∀ (xs vs : _) (p : Addr), inFlat d xs = some k → vy = .ref p → (SqL g.K H p vs ∨ SqT g.K H p vs) → RepL g F mu xs vs → rInAll g.K neg vx vy H Q := by
        intro xs vs p hf hv h1 h2
        unfold inFlat at hf
        split at hf
        · rename_i hc
          cases hf
          obtain ⟨i1, i2⟩ := any_rep hc.1 rx hc.2 h2
          exact .inr (.inr (.inl ⟨p, vs, hv, h1, flat_rep hc.1 rx, i1, by rw [i2]; exact q⟩))
        · cases hf
      have lst : inLst st d y = some k → rInAll g.K neg vx vy H Q := by
        intro hf
        unfold inLst at hf
        split at hf
        · rename_i xs hl
          split at hf
          · rename_i hc
            cases hf
            obtain ⟨p, vs, rfl, h1, h2⟩ := listOf_rep rh ry hl
            have hs := hc.2
            have hs2 : shapL 19 xs = true := by
              simp only [shap, Bool.and_eq_true] at hs
              exact hs.2
            have hdl : Dp g.K H (V.ref p) (.list (toPs xs)) := .lst (SqL.of h1) (dps_of rh 19 xs vs hs2 h2)
            have hsl : SeqAt.shaped (.list (toPs xs)) = true := shap_shaped (d := .lst xs) hs
            have e := toPs_any 19 d hc.1 xs hs2
            refine .inr (.inr (.inr ?_))
            cases neg with
            | true => exact ⟨_, _, dp_of rh _ _ _ hc.1 rx, hdl, shap_shaped hc.1, hsl, by rw [e]; exact q⟩
            | false => exact ⟨_, _, dp_of rh _ _ _ hc.1 rx, hdl, shap_shaped hc.1, hsl, by rw [e]; exact q⟩
          · cases hf
        · cases hf
      cases y with
      | bor c => exact lst h
      | val dy =>
        cases dy with
        | str z =>
          simp only [inSeq] at h
          cases d with
          | str aa =>
            dsimp only at h
            unfold inTx at h
            split at h
            · rename_i cc
              cases h
              simp only [RepX, RepV] at rx ry
              subst rx ry
              refine .inr (.inl ⟨cc, toS z, rfl, rfl, ?_⟩)
              have e : z.contains cc = decide (cc ∈ (toS z).cps.toList) := by
                rw [toS_list]
                simp
              rw [← e]
              exact q
            · cases h
          | _ => cases h
        | tup xs =>
          simp only [RepX, RepV] at ry
          obtain ⟨p, vs, rfl, h1, h2⟩ := ry
          exact flat xs vs p h rfl (.inr (rh.seqT h1)) h2
        | ktp xs =>
          simp only [RepX, RepV] at ry
          obtain ⟨p, vs, rfl, h1, h2⟩ := ry
          exact flat xs vs p h rfl (.inr h1.seq) h2
        | _ => exact lst h
theorem sIn : OpS g (rInAll g.K false) oIn := .flat fun H F mu st x y vx vy d Q rh rx ry e q => by
  simp only [oIn, Option.map_eq_some_iff] at e
  obtain ⟨k, e, rfl⟩ := e
  exact inCore rh rx ry e (q _ (by simp only [RepV]; rfl))
theorem sNotIn : OpS g (rInAll g.K true) oNotIn := .flat fun H F mu st x y vx vy d Q rh rx ry e q => by
  simp only [oNotIn, Option.map_eq_some_iff] at e
  obtain ⟨k, e, rfl⟩ := e
  exact inCore rh rx ry e (q _ (by simp only [RepV]; rfl))

/-! ### d.get -/
theorem isD_rep {H F : Hp} {mu : List Addr} {st : Mir.St} {o : Opd} {v : V} {q : Nat × List (D × D)} (rh : RH g H F mu st) (r : RepX g H F mu o v) (h : dctOf st o = some q) : ∃ p, v = .ref p ∧ IsD H p := by
  obtain ⟨p, rfl, ⟨_, kvs, h1, _⟩ | ⟨_, kvs, h1, _⟩⟩ := dct_rep (t := q.1) (ps := q.2) rh r h
  · exact ⟨p, rfl, .inl ⟨kvs, h1⟩⟩
  · exact ⟨p, rfl, .inr ⟨kvs, h1⟩⟩
theorem getK_rep {H F : Hp} {mu : List Addr} {st : Mir.St} {x y : Opd} {vx vy vw : V} {w d : D} (rh : RH g H F mu st) (rx : RepX g H F mu x vx) (ry : RepX g H F mu y vy) (rw' : RepV g F mu w vw) (h : getK st x y w = some d) : ∃ p o, vx = .ref p ∧ DGet H p vy o ∧ RepV g F mu d (o.getD vw) := by
  unfold getK at h
  split at h
  · rename_i t ps kk hd
    split at h
    · rename_i hk
      cases h
      obtain ⟨p, u, rfl, h1, h2⟩ := dget_rep rh rx hd hk ry
      exact ⟨p, u, rfl, h1, h2.getD rw'⟩
    · cases h
  · cases h
theorem isSome_ex {α : Type} {o : Option α} (h : o.isSome = true) : ∃ q, o = some q := by
  cases o with
  | none => cases h
  | some q => exact ⟨q, rfl⟩
theorem xGet1 (h : PE X e (tDGet1 (rdE g E ma) (rdE g E mb))) : PE X e (rdE g E (eGet1 ma mb)) := PE.imp h fun s H Q k => by
  obtain ⟨r, st, F, mu, re, k⟩ := k
  refine ⟨r, st, F, mu, re, OutQ.bind k fun x st1 vx H1 F1 mu1 _ e1 re1 rx k1 => ?_⟩
  by_cases hd : (dctOf st1 x).isSome = true
  · rw [if_pos hd] at k1
    obtain ⟨q1, hd1⟩ := isSome_ex hd
    obtain ⟨p, rfl, hD⟩ := isD_rep re1.h rx hd1
    refine ⟨p, rfl, hD, r, st1, F1, mu1, re1, OutQ.bind (k1.ext e1) fun y st2 vy H2 F2 mu2 _ e2 re2 ry k2 => ?_⟩
    cases hg : getK st2 x y .non with
    | none => rw [hg] at k2; exact k2.elim
    | some d =>
      rw [hg] at k2
      obtain ⟨p', o, h1, h2, h3⟩ := getK_rep re2.h (rx.ext e2) ry (vw := .non) (by simp only [RepV]) hg
      cases h1
      exact ⟨o, h2, k2 _ H2 F2 mu2 e2 re2 h3⟩
  · rw [if_neg hd] at k1
    exact k1.elim
theorem xGet2 (h : PE X e (tDGet2 (rdE g E ma) (rdE g E mb) (rdE g E mc))) : PE X e (rdE g E (eGet2 ma mb mc)) := PE.imp h fun s H Q k => by
  obtain ⟨r, st, F, mu, re, k⟩ := k
  refine ⟨r, st, F, mu, re, OutQ.bind k fun x st1 vx H1 F1 mu1 _ e1 re1 rx k1 => ?_⟩
  by_cases hd : (dctOf st1 x).isSome = true
  · rw [if_pos hd] at k1
    obtain ⟨q1, hd1⟩ := isSome_ex hd
    obtain ⟨p, rfl, hD⟩ := isD_rep re1.h rx hd1
    refine ⟨p, rfl, hD, r, st1, F1, mu1, re1, OutQ.bind (k1.ext e1) fun y st2 vy H2 F2 mu2 _ e2 re2 ry k2 => ?_⟩
    refine ⟨r, st2, F2, mu2, re2, OutQ.bind (k2.ext e2) fun z st3 vz H3 F3 mu3 _ e3 re3 rz k3 => ?_⟩
    cases z with
    | bor c => exact k3.elim
    | val w =>
      dsimp only at k3
      cases hg : getK st3 x y w with
      | none => rw [hg] at k3; exact k3.elim
      | some d =>
        rw [hg] at k3
        obtain ⟨p', o, h1, h2, h3⟩ := getK_rep re3.h ((rx.ext e2).ext e3) (ry.ext e3) rz hg
        cases h1
        exact ⟨o, h2, k3 _ H3 F3 mu3 e3 re3 h3⟩
  · rw [if_neg hd] at k1
    exact k1.elim

/-! ### d[k] = e -/
theorem qPutDC (h : PS X sa (sDPut (rdE g E mb) (rdE g E mc) (rdE g E ma))) : PS X sa (rdS g E B (sPutDC mb mc ma)) := PS.imp h fun D s H h => by
  obtain ⟨r, st, F, mu, rb, h⟩ := h
  refine ⟨r, st, F, mu, rb.re, sbind rb h fun y st1 v H1 F1 mu1 _ e1 rb1 rx k => ?_⟩
  refine ⟨r, st1, F1, mu1, rb1.re, sbind rb1 k fun z st2 w H2 F2 mu2 _ e2 rb2 rz k2 => ?_⟩
  refine ⟨r, st2, F2, mu2, rb2.re, sbind rb2 k2 fun t st3 w3 H3 F3 mu3 _ e3 rb3 rt k3 => ?_⟩
  cases y with
  | bor c => exact k3.elim
  | val d =>
    cases z with
    | bor c => exact k3.elim
    | val d2 =>
      cases t with
      | bor c => cases d2 <;> exact k3.elim
      | val d3 =>
        cases d2 with
        | ref n =>
          dsimp only at k3
          simp only [RepX, RepV] at rz
          obtain ⟨p, hp, rfl⟩ := rz
          have hp3 := e3.mo.mu _ _ hp
          cases hn : st3[n]? with
          | none => rw [hn] at k3; exact k3.elim
          | some c0 =>
            rw [hn] at k3
            cases c0 with
            | dct tt ps =>
              dsimp only at k3
              by_cases hc : kOk tt d3 = true ∧ ps.length < lim
              · rw [if_pos hc] at k3
                obtain ⟨p', q1, q2, q3⟩ := rb3.re.h.cel n _ hn
                rw [hp3] at q1
                cases q1
                obtain ⟨o, o1, o2⟩ := dput_cell rb3.re.h q3 hc.1 hc.2 rt (RepV.mono (e2.mo.trans e3.mo) _ _ rx)
                have hno : ∀ ps, o ≠ .tbl ps := by
                  obtain ⟨w, w1, w2, _⟩ := CellAt.there o2
                  rw [upd_same] at w1
                  cases w1
                  exact w2
                have ex := Ext.put (H := H3) (F := F3) (o := o) hp3 hno
                exact ⟨p, _, rfl, o1, k3 s _ F3 mu3 (rb3.step ex (rb3.re.step ex (rb3.re.h.put hn hp3 o2))) (.refl _ _)⟩
              · rw [if_neg hc] at k3
                exact k3.elim
            | _ => exact k3.elim
        | _ => exact k3.elim
theorem qPutDV {i : Nat} (h : PS X sa (sDPut (tVar i) (rdE g E mc) (rdE g E ma))) : PS X sa (rdS g E B (sPutDV i mc ma)) := PS.imp h fun D s H h => by
  obtain ⟨r, st, F, mu, rb, h⟩ := h
  unfold sPutDV at h
  split at h
  · rename_i tt ps hr
    obtain ⟨p, p0, _⟩ := rb.re.ownGet hr
    refine ⟨r, st, F, mu, rb.re, sbind rb h fun y st1 v H1 F1 mu1 _ e1 rb1 rx k => ⟨.ref p, p0, ?_⟩⟩
    refine ⟨r, st1, F1, mu1, rb1.re, sbind rb1 k fun t st2 w3 H2 F2 mu2 _ e2 rb2 rt k3 => ?_⟩
    cases y with
    | bor c => exact k3.elim
    | val d =>
      cases t with
      | bor c => exact k3.elim
      | val d3 =>
        dsimp only at k3
        by_cases hc : kOk tt d3 = true ∧ ps.length < lim
        · rw [if_pos hc] at k3
          obtain ⟨_, _, q3⟩ := rb2.re.ownAt hr p0
          obtain ⟨o, o1, o2⟩ := dput_cell rb2.re.h q3 hc.1 hc.2 rt (RepV.mono e2.mo _ _ rx)
          exact ⟨p, _, rfl, o1, k3 s _ F2 mu2 (rb2.putOwn hr p0 o2 fun _ _ z => by cases z) (.refl _ _)⟩
        · rw [if_neg hc] at k3
          exact k3.elim
  · exact h.elim
theorem xSetDN {n : NM} (h : PE X e (tDSetd (rdE g E ma) (rdE g E mb) (rdN g E n))) : PE X e (rdE g E (eSetDN ma mb n)) := PE.imp h fun s H Q k => by
  obtain ⟨r, st, F, mu, re, k⟩ := k
  refine ⟨r, st, F, mu, re, OutQ.bind k fun x st1 vx H1 F1 mu1 _ e1 re1 rx k1 => ?_⟩
  by_cases hd : (dctOf st1 x).isSome = true
  · rw [if_pos hd] at k1
    obtain ⟨q1, hd1⟩ := isSome_ex hd
    obtain ⟨p, rfl, hD⟩ := isD_rep re1.h rx hd1
    refine ⟨p, rfl, hD, r, st1, F1, mu1, re1, OutQ.bind (k1.ext e1) fun y st2 vy H2 F2 mu2 _ e2 re2 ry k2 => ?_⟩
    refine ⟨r, st2, F2, mu2, re2, OutQ.bind (k2.ext e2) fun c st3 vz H3 F3 mu3 _ e3 re3 rz k3 => ?_⟩
    obtain ⟨z, rfl, z1, z2, z3, z4⟩ := rz
    cases x with
    | bor c => cases y <;> exact k3.elim
    | val dx =>
      cases y with
      | bor c => cases dx <;> exact k3.elim
      | val kk =>
        cases dx with
        | ref m =>
          dsimp only at k3
          have rx3 := (rx.ext e2).ext e3
          simp only [RepX, RepV] at rx3
          obtain ⟨p', hp3, hp'⟩ := rx3
          cases hp'
          unfold setDN at k3
          split at k3
          · rename_i ps hn
            by_cases hc : flatK kk = true ∧ ps.length < lim
            · rw [if_pos hc] at k3
              obtain ⟨p'', q1, q2, q3⟩ := re3.h.cel m _ hn
              rw [hp3] at q1
              cases q1
              rcases q3 with ⟨_, kvs, q3, q4⟩ | ⟨q5, _⟩
              · have ry3 : RepV g F3 mu3 kk vy := RepV.mono e3.mo _ _ ry
                obtain ⟨k', rfl, hk'⟩ := flat_key hc.1 ry3
                have hl : kvs.length < sizeLine := by
                  rw [← q4.len]
                  exact Nat.lt_of_lt_of_le hc.2 lim_line
                have hlk := lookP q4 hk'
                refine ⟨kvs, k', q3, rfl, hl, fun v hv => ?_, fun hv => ?_⟩
                · cases hq : lookD ps kk with
                  | none =>
                    rw [hq] at hlk
                    rw [show valV kvs k' = none from hlk] at hv
                    cases hv
                  | some d =>
                    rw [hq] at hlk k3
                    obtain ⟨v', h1, h2⟩ := hlk
                    rw [hv] at h1
                    cases h1
                    exact k3 v H3 F3 mu3 e3 re3 h2
                · cases hq : lookD ps kk with
                  | some d =>
                    rw [hq] at hlk
                    obtain ⟨v', h1, h2⟩ := hlk
                    rw [hv] at h1
                    cases h1
                  | none =>
                    rw [hq] at k3
                    dsimp only at k3
                    have ex1 : Ext H2 F2 mu2 H3 F3 (mu3 ++ [z]) := e3.cell z3
                    have rh1 : RH g H3 F3 (mu3 ++ [z]) (st3 ++ [c]) := re3.h.cell z1 z2 z4
                    have hml : m < st3.length := (List.getElem?_eq_some_iff.mp hn).1
                    have hn1 : (st3 ++ [c])[m]? = some (.dct 0 ps) := by rw [List.getElem?_append_left hml]; exact hn
                    have hp1 : (mu3 ++ [z])[m]? = some p := by
                      rw [List.getElem?_append_left (by rw [re3.h.len]; exact hml)]
                      exact hp3
                    have zr : RepV g F3 (mu3 ++ [z]) (.ref st3.length) (.ref z) := by
                      simp only [RepV]
                      refine ⟨z, ?_, rfl⟩
                      rw [← re3.h.len, List.getElem?_append_right (Nat.le_refl _)]
                      simp
                    have q4' : RepP g F3 (mu3 ++ [z]) ps kvs := RepP.mono Mono.cell _ _ q4
                    have rh2 : RH g (upd H3 p (.dK (putK kvs k' (.ref z)))) F3 (mu3 ++ [z]) ((st3 ++ [c]).set m (.dct 0 (putD ps kk (.ref st3.length)))) :=
                      rh1.put hn1 hp1 (.inl ⟨rfl, _, upd_same, putP q4' hk' zr⟩)
                    have ex2 := ex1.trans (Ext.put (o := .dK (putK kvs k' (.ref z))) hp1)
                    exact k3 _ _ F3 (mu3 ++ [z]) ex2 (re2.step ex2 rh2) zr
              · cases q5
            · rw [if_neg hc] at k3
              exact k3.elim
          · exact k3.elim
        | _ => exact k3.elim
  · rw [if_neg hd] at k1
    exact k1.elim

/-! ### new lists, dicts -/
theorem newCell {H F : Hp} {mu : List Addr} {st : Mir.St} {c : Cell} {o : HO} {Q : VK} (rh : RH g H F mu st) (hc : ∀ p, H p = none → CellAt g F mu (upd H p o) p c)
    (q : ∀ p H', RH g H' F mu st → Ext H F mu H' F mu → H p = none → F p = none → p ∉ mu → CellAt g F mu H' p c → Q (.ref p) H') : ∀ p, H p = none → Q (.ref p) (upd H p o) := fun p hp =>
  q p _ (rh.newOwn hp) (Ext.newOwn hp) hp (F_new rh hp) (fun z => mem_mu rh z hp) (hc p hp)
theorem newLst {H F : Hp} {mu : List Addr} {st : Mir.St} {ds : List D} {vs : List V} {Q : VK} (rh : RH g H F mu st) (rl : RepL g F mu ds vs)
    (q : ∀ p H', RH g H' F mu st → Ext H F mu H' F mu → H p = none → F p = none → p ∉ mu → CellAt g F mu H' p (.lst ds) → Q (.ref p) H') : ∀ p, H p = none → Q (.ref p) (upd H p (.lst vs)) := newCell (c := .lst ds) rh (fun p hp => ⟨_, upd_same, rl⟩) q
theorem sCat : NpS g rCat nCat := fun H F mu st x y vx vy c Q rh rx ry e q => by
  unfold nCat at e
  split at e
  · rename_i xs ys hx hy
    split at e
    · rename_i hl
      cases e
      obtain ⟨p, vs, rfl, h1, h2⟩ := listOf_rep rh rx hx
      obtain ⟨p', us, rfl, h3, h4⟩ := listOf_rep rh ry hy
      have := lim_line
      exact ⟨p, p', vs, us, rfl, rfl, h1, h3, by rw [← h2.length, ← h4.length]; omega, newLst rh (h2.append h4) q⟩
    · cases e
  · cases e
theorem RepL.rep {F : Hp} {mu : List Addr} {ds : List D} {vs : List V} (h : RepL g F mu ds vs) : ∀ k : Nat, RepL g F mu (List.replicate k ds).flatten (List.replicate k vs).flatten
  | 0 => by simp only [List.replicate_zero, List.flatten_nil]; exact .nil
  | k + 1 => by
    simp only [List.replicate_succ, List.flatten_cons]
    exact h.append (RepL.rep h k)
theorem sRep : NpS g rRep nRep := fun H F mu st x y vx vy c Q rh rx ry e q => by
  unfold nRep at e
  split at e
  · rename_i xs k hx
    split at e
    · rename_i hl
      cases e
      obtain ⟨p, vs, rfl, h1, h2⟩ := listOf_rep rh rx hx
      simp only [RepX, RepV] at ry
      have := lim_line
      exact ⟨p, k, vs, rfl, ry, h1, hl.1, hl.2.1, by rw [← h2.length]; omega, newLst rh (RepL.rep h2 k.toNat) q⟩
    · cases e
  · cases e
theorem sList : NpSN g (fun xs H Q => ∃ p ys, xs = [.ref p] ∧ (SqL g.K H p ys ∨ SqT g.K H p ys) ∧ ∀ l, H l = none → Q (.ref l) (upd H l (.lst ys))) nList := fun H F mu st xs vs c Q rh rx e q => by
  unfold nList at e
  split at e
  · simp only [Option.map_eq_some_iff] at e
    obtain ⟨ds, hd, rfl⟩ := e
    obtain ⟨v, rfl, r1⟩ := repxs1 rx
    obtain ⟨p, us, rfl, h1, h2⟩ := seqOf_rep rh r1 hd
    exact ⟨p, us, rfl, h1, newLst rh h2 q⟩
  · cases e
theorem sTuple : OpSN g (fun xs H Q => ∃ p ys, xs = [.ref p] ∧ ((SqL g.K H p ys ∧ ∀ l, H l = none → Q (.ref l) (upd H l (.tup ys))) ∨ (SqT g.K H p ys ∧ Q (.ref p) H))) oTuple := fun H F mu st xs vs d Q rh rx e q => by
  unfold oTuple at e
  split at e
  · rename_i x
    obtain ⟨v, rfl, r1⟩ := repxs1 rx
    unfold tupOf at e
    split at e
    · cases e
      simp only [RepX, RepV] at r1
      obtain ⟨p, us, rfl, h1, h2⟩ := r1
      exact ⟨p, us, rfl, .inr ⟨rh.seqT h1, q _ H F rh (.refl _ _ _) (by simp only [RepV]; exact ⟨p, us, rfl, h1, h2⟩)⟩⟩
    · cases e
      simp only [RepX, RepV] at r1
      obtain ⟨p, us, rfl, h1, h2⟩ := r1
      exact ⟨p, us, rfl, .inr ⟨h1.seq, q _ H F rh (.refl _ _ _) (by simp only [RepV]; exact ⟨p, us, rfl, h1, h2⟩)⟩⟩
    · simp only [Option.map_eq_some_iff] at e
      obtain ⟨ds, hd, rfl⟩ := e
      obtain ⟨p, us, rfl, h1, h2⟩ := listOf_rep rh r1 hd
      exact ⟨p, us, rfl, .inl ⟨SqL.of h1, fun l hl => q _ _ _ (rh.new hl) (Ext.new rh hl) (by simp only [RepV]; exact ⟨l, us, rfl, upd_same, RepL.mono (Mono.new rh hl) _ _ h2⟩)⟩⟩
  · cases e
theorem pairs_rep {H F : Hp} {mu : List Addr} {st : Mir.St} (rh : RH g H F mu st) : ∀ {ds : List D} {vs : List V} {prs : List (D × D)}, RepL g F mu ds vs → pairsOf ds = some prs → ∃ (ps : List Addr) (kvs : List (Key × V)), vs = ps.map V.ref ∧ Paired (fun p kv => SqT g.K H p [kV kv.1, kv.2]) ps kvs ∧ RepP g F mu prs kvs
  | [], vs, prs, r, e => by
    simp only [RepL] at r
    cases e
    exact ⟨[], [], r, .nil, by simp only [RepP]⟩
  | d :: ds, vs, prs, r, e => by
    simp only [RepL] at r
    obtain ⟨v, rest, rfl, r1, r2⟩ := r
    unfold pairsOf at e
    split at e
    · rename_i heq
      cases heq
    · rename_i k x r' heq
      cases heq
      split at e
      · rename_i hk
        simp only [Option.map_eq_some_iff] at e
        obtain ⟨qs, e1, rfl⟩ := e
        obtain ⟨ps, kvs, rfl, h2, h3⟩ := pairs_rep rh r2 e1
        simp only [RepV] at r1
        obtain ⟨p, us, rfl, h4, h5⟩ := r1
        simp only [RepL] at h5
        obtain ⟨vk, r3, rfl, h6, vx, r4, rfl, h7, rfl⟩ := h5
        obtain ⟨k', rfl, hk'⟩ := flat_key hk h6
        exact ⟨p :: ps, (k', vx) :: kvs, rfl, .cons (rh.seqT h4) h2, by simp only [RepP]; exact ⟨k', vx, kvs, rfl, hk', h7, h3⟩⟩
      · cases e
    · cases e
theorem mergeP {F : Hp} {mu : List Addr} : ∀ {qs ps : List (D × D)} {ls kvs : List (Key × V)}, RepP g F mu qs ls → RepP g F mu ps kvs → RepP g F mu (mergeD ps qs) (mergeK kvs ls)
  | [], ps, ls, kvs, h, k => by
    simp only [RepP] at h
    subst h
    exact k
  | (a, d) :: qs, ps, ls, kvs, h, k => by
    simp only [RepP] at h
    obtain ⟨a', v, r, rfl, h1, h2, h3⟩ := h
    have := mergeP (qs := qs) (ls := r) (ps := putD ps a d) (kvs := putK kvs a' v) h3 (putP k h1 h2)
    exact this
theorem sDict : NpSN g (fun xs H Q => ∃ (a : Addr) (ps : List Addr) (kvs : List (Key × V)), xs = [.ref a] ∧ SqL g.K H a (ps.map V.ref) ∧ Paired (fun p kv => SqT g.K H p [kV kv.1, kv.2]) ps kvs ∧ ∀ p, H p = none → Q (.ref p) (upd H p (.dK (mergeK [] kvs)))) nDict := fun H F mu st xs vs c Q rh rx e q => by
  unfold nDict at e
  split at e
  · obtain ⟨v, rfl, r1⟩ := repxs1 rx
    split at e
    · rename_i ds hd
      simp only [Option.map_eq_some_iff] at e
      obtain ⟨prs, hp, rfl⟩ := e
      obtain ⟨p, us, rfl, h1, h2⟩ := listOf_rep rh r1 hd
      obtain ⟨ps, kvs, rfl, h3, h4⟩ := pairs_rep rh h2 hp
      exact ⟨p, ps, kvs, rfl, SqL.of h1, h3, newCell (c := .dct 0 (mergeD [] prs)) rh (fun p hp => .inl ⟨rfl, _, upd_same, mergeP h4 (by simp only [RepP])⟩) q⟩
    · cases e
  · cases e
/-- list(d.items()): new pairs in a new list -/
theorem itemsL_rep {H F : Hp} {mu : List Addr} {st : Mir.St} {x : Opd} {v : V} {ps : List (D × D)} (rh : RH g H F mu st) (r : RepX g H F mu x v) (h : itemsL st x = some ps) : ∃ p kvs, v = .ref p ∧ H p = some (.dK kvs) ∧ RepP g F mu ps kvs := by
  unfold itemsL at h
  split at h
  · cases h
    simp only [RepX, RepV] at r
    obtain ⟨p, rfl, ⟨_, kvs, h1, h2⟩ | ⟨h1, _⟩⟩ := r
    · exact ⟨p, kvs, rfl, (rh.fro _ _ h1).resolve_right (fun z => z.1), h2⟩
    · cases h1
  · simp only [RepX, RepV] at r
    obtain ⟨p, hp, rfl⟩ := r
    split at h
    · rename_i hn
      cases h
      obtain ⟨p', q1, _, ⟨_, kvs, h1, h2⟩ | ⟨h1, _⟩⟩ := rh.cel _ _ hn
      · rw [hp] at q1
        cases q1
        exact ⟨p, kvs, rfl, h1, h2⟩
      · cases h1
    · cases h
  · cases h
theorem RepL.pairs {H' F F' : Hp} {mu : List Addr} (mo : Mono F mu F' mu) : ∀ {ps : List (D × D)} {kvs : List (Key × V)} {ts : List Addr}, RepP g F mu ps kvs → (∀ t ∈ ts, F' t = H' t) → Paired (fun (t : Addr) (q : Key × V) => H' t = some (.tup [kV q.1, q.2])) ts kvs → RepL g F' mu (ps.map fun p => .tup [p.1, p.2]) (ts.map V.ref)
  | [], kvs, ts, h, _, hp => by
    simp only [RepP] at h
    subst h
    cases hp
    exact .nil
  | (a, d) :: ps, kvs, ts, h, ht, hp => by
    simp only [RepP] at h
    obtain ⟨a', v, r, rfl, h1, h2, h3⟩ := h
    cases hp with
    | cons q1 q2 =>
      rename_i t ts'
      simp only [List.map_cons]
      refine .cons ?_ (RepL.pairs mo h3 (fun t h => ht t (List.mem_cons_of_mem _ h)) q2)
      simp only [RepV]
      refine ⟨t, _, rfl, (ht t List.mem_cons_self).trans q1, .cons ?_ (.one (RepV.mono mo _ _ h2))⟩
      cases a <;> simp only [RepK] at h1 <;> subst h1 <;> simp only [RepV, kV]
theorem paired_mem {α β : Type} {R : α → β → Prop} : ∀ {as : List α} {bs : List β}, Paired R as bs → ∀ {a : α}, a ∈ as → ∃ b, R a b
  | _, _, .nil, a, h => by cases h
  | _, _, .cons q1 q2, a, h => by
    rcases List.mem_cons.mp h with rfl | h
    · exact ⟨_, q1⟩
    · exact paired_mem q2 h
theorem yItems (h : PE X e (LiI.tListItems (rdE g E ma))) : PE X e (rdN g E (nItems ma)) := PE.imp h fun s H Q k => by
  obtain ⟨r, st, F, mu, re, k⟩ := k
  refine ⟨r, st, F, mu, re, OutQ.bind k fun x st1 vx H1 F1 mu1 _ e1 re1 rx k1 => ?_⟩
  cases hi : itemsL st1 x with
  | none => rw [hi] at k1; exact k1.elim
  | some ps =>
    rw [hi] at k1
    obtain ⟨p, kvs, rfl, h1, h2⟩ := itemsL_rep re1.h rx hi
    refine ⟨p, kvs, rfl, h1, fun H' l ts hk hl hts hlt hl' hp => ?_⟩
    have fresh : ∀ t, t ∈ ts → F1 t = none ∧ t ∉ mu1 := fun t ht => ⟨F_new re1.h (hts t ht), fun z => mem_mu re1.h z (hts t ht)⟩
    have mo : Mono F1 mu1 (fun b => if b ∈ ts then H' b else F1 b) mu1 := ⟨fun b o hb => by
      have : b ∉ ts := fun z => by rw [(fresh b z).1] at hb; cases hb
      simp only [this, if_false]
      exact hb, fun _ _ h => h⟩
    have rh : RH g H' (fun b => if b ∈ ts then H' b else F1 b) mu1 st1 := by
      refine ⟨fun b o hb => ?_, re1.h.len, re1.h.nd, fun n c hn => ?_, re1.h.tab.ext hk, fun b ps hb => ?_⟩
      · by_cases z : b ∈ ts
        · simp only [z, if_true] at hb
          exact .inl hb
        · simp only [z, if_false] at hb
          rcases re1.h.fro b o hb with q | ⟨q, od, q'⟩
          · exact .inl (hk _ _ q)
          · exact .inr ⟨q, od, hk _ _ q'⟩
      · obtain ⟨b, q1, q2, q3⟩ := re1.h.cel n c hn
        obtain ⟨o, q4, _⟩ := q3.there
        have : b ∉ ts := fun z => by rw [hts b z] at q4; cases q4
        exact ⟨b, q1, by simp only [this, if_false]; exact q2, (CellAt.at (by rw [q4]; exact hk _ _ q4) q3).mono mo⟩
      · by_cases z : b ∈ ts
        · simp only [z, if_true] at hb
          obtain ⟨q, hq⟩ := paired_mem hp z
          rw [hq] at hb
          cases hb
        · simp only [z, if_false] at hb
          exact re1.h.ntb _ _ hb
    have ex : Ext H1 F1 mu1 H' (fun b => if b ∈ ts then H' b else F1 b) mu1 := by
      refine ⟨mo, fun b o hb _ _ => hk _ _ hb, fun b hb => fun o q => hb o (hk _ _ q), fun b o hb => ?_, fun b hb => .inl hb⟩
      · by_cases z : b ∈ ts
        · exact .inr (Nw.of (hts b z))
        · simp only [z, if_false] at hb
          exact .inl hb
    refine k1 _ H' _ mu1 (e1.trans ex) (re1.step ex rh) ⟨l, rfl, ?_, fun z => mem_mu re1.h z hl, dom_none e1 hl, _, hl', RepL.pairs mo h2 (fun t ht => by simp only [ht, if_true]) hp⟩
    simp only [hlt, if_false]
    exact F_new re1.h hl
end
end Mir
/-! E11: slices, empty dicts, sorted. -/
namespace Mir
open PySem PySem.Spec PyProof.Rows L2
section
variable {X : Cx} {g : G} {E : XK} {B : Bs} {pos p2 : Pos} {a b c e f o : Expr} {ma mb mc : EM} {es : List Expr} {mas : AM} {sa : Stmt} {lo hi : Option Expr} {ml mh : OM}
def rdO (g : G) (E : XK) (m : OM) : TO := fun s H Q => ∃ r st F mu, RE g s H F mu r st ∧ OutQ g s H F mu r (fun _ _ _ x v => x = v) E Q (m r st)
theorem PO.imp {t t' : TO} (h : PO X lo t) (k : ∀ s H Q, t' s H Q → t s H Q) : PO X lo t' := ⟨fun pins s σ H Q I q => h.run pins s σ H Q I (k σ H Q q)⟩
theorem oNoP : PO X none (rdO g E oNo) := PO.imp po_none fun s H Q h => by
  obtain ⟨r, st, F, mu, re, h⟩ := h
  exact h none H F mu (.refl _ _ _) re rfl
theorem oSomeP (ha : PE X e (rdE g E ma)) : PO X (some e) (rdO g E (oSome ma)) := PO.imp (po_some ha) fun s H Q h => by
  obtain ⟨r, st, F, mu, re, h⟩ := h
  refine ⟨r, st, F, mu, re, OutQ.bind h fun x st1 v H1 F1 mu1 _ e1 re1 rx k => ?_⟩
  cases x with
  | bor c => exact k.elim
  | val d =>
    cases d with
    | int i =>
      simp only [RepX, RepV] at rx
      exact ⟨i, rx, k (some i) H1 F1 mu1 e1 re1 rfl⟩
    | _ => exact k.elim
theorem sIx_eq (n d : Nat) (o : Option Int) : HT.sIx n d o = sIxD n d o := by cases o <;> rfl
theorem cut_rep {F : Hp} {mu : List Addr} {ds : List D} {vs : List V} (l h : Option Int) (r : RepL g F mu ds vs) : RepL g F mu (cutD ds l h) (cutV vs l h) := by
  unfold cutD cutV
  rw [sIx_eq, sIx_eq, r.length]
  exact RepL.take _ (RepL.drop _ r)
def rSlAll (K : PySem.W.Frag) : V → Option Int → Option Int → Hp → VK → Prop := fun x lo hi H Q => rSlL K x lo hi H Q ∨ rSlA K x lo hi H Q ∨ rSlS x lo hi H Q
theorem sl_all : SlR X (rSlAll X.K) := sl_list.or (sl_tupA.or sl_str)
theorem xSl (hK : X.K = g.K) (ha : PE X e (rdE g E ma)) (hl : PO X lo (rdO g E ml)) (hh : PO X hi (rdO g E mh)) : PE X (.Subscript e (.Slice lo hi none p2) pos) (rdE g E (eSl ma ml mh)) := PE.imp (pe_slice sl_all ha hl hh) fun s H Q h => by
  obtain ⟨r, st, F, mu, re, h⟩ := h
  rw [hK]
  refine ⟨r, st, F, mu, re, OutQ.bind h fun x st1 v H1 F1 mu1 _ e1 re1 rx k => ?_⟩
  refine ⟨r, st1, F1, mu1, re1, OutQ.bind (k.ext e1) fun l st2 v2 H2 F2 mu2 _ e2 re2 rl k2 => ?_⟩
  refine ⟨r, st2, F2, mu2, re2, OutQ.bind (k2.ext e2) fun u st3 v3 H3 F3 mu3 _ e3 re3 ru k3 => ?_⟩
  subst rl ru
  have rx3 := (rx.ext e2).ext e3
  cases x with
  | bor c => exact k3.elim
  | val d =>
    dsimp only at k3
    cases d with
    | str z =>
      simp only [cutE] at k3
      by_cases hz : z.length ≤ lim
      · rw [if_pos hz] at k3
        simp only [RepX, RepV] at rx3
        subst rx3
        refine .inr (.inr ⟨toS z, rfl, by rw [toS_len]; have := lim_line; omega, k3 _ H3 F3 mu3 e3 re3 ?_⟩)
        simp only [RepX, RepV]
        unfold cutS cutD toS
        rw [sIx_eq, sIx_eq]
        simp [Str.length]
      · rw [if_neg hz] at k3
        exact k3.elim
    | tup xs =>
      simp only [cutE] at k3
      simp only [RepX, RepV] at rx3
      obtain ⟨p, vs, rfl, h1, h2⟩ := rx3
      refine .inr (.inl ⟨p, vs, rfl, re3.h.seqT h1, fun hw => k3 _ H3 F3 mu3 e3 re3 ?_, fun _ q hq => k3 _ _ _ mu3 (e3.trans (Ext.new re3.h hq)) (re3.step (Ext.new re3.h hq) (re3.h.new hq)) ?_⟩)
      · simp only [RepX, RepV]
        refine ⟨p, vs, rfl, h1, ?_⟩
        have : cutD xs l u = xs := by
          unfold cutD
          rw [← sIx_eq, ← sIx_eq, h2.length, hw.1, hw.2]
          simp [← h2.length]
        rw [this]
        exact h2
      · simp only [RepX, RepV]
        exact ⟨q, _, rfl, upd_same, RepL.mono (Mono.new re3.h hq) _ _ (cut_rep _ _ h2)⟩
    | _ => exact k3.elim
theorem seqL_rep {H F : Hp} {mu : List Addr} {st : Mir.St} {x : Opd} {v : V} {ds : List D} (rh : RH g H F mu st) (r : RepX g H F mu x v) (h : seqL st x = some ds) : ∃ p vs, v = .ref p ∧ SqL g.K H p vs ∧ RepL g F mu ds vs := by
  unfold seqL at h
  split at h
  · cases h
    simp only [RepX, RepV] at r
    obtain ⟨p, vs, rfl, h1, h2⟩ := r
    refine ⟨p, vs, rfl, ?_, h2⟩
    rcases h1 with ⟨od, h1⟩ | h1 | h1
    · exact .inl (.inr ⟨od, rh.frz h1⟩)
    · exact SqL.of (rh.lst h1)
    · exact h1.seq
  · obtain ⟨p, vs, rfl, h1, h2⟩ := listOf_rep rh r h
    exact ⟨p, vs, rfl, SqL.of h1, h2⟩
theorem ySl (hK : X.K = g.K) (ha : PE X e (rdE g E ma)) (hl : PO X lo (rdO g E ml)) (hh : PO X hi (rdO g E mh)) : PE X (.Subscript e (.Slice lo hi none p2) pos) (rdN g E (nSl ma ml mh)) := PE.imp (pe_slice sl_all ha hl hh) fun s H Q h => by
  obtain ⟨r, st, F, mu, re, h⟩ := h
  rw [hK]
  refine ⟨r, st, F, mu, re, OutQ.bind h fun x st1 v H1 F1 mu1 _ e1 re1 rx k => ?_⟩
  refine ⟨r, st1, F1, mu1, re1, OutQ.bind (k.ext e1) fun l st2 v2 H2 F2 mu2 _ e2 re2 rl k2 => ?_⟩
  refine ⟨r, st2, F2, mu2, re2, OutQ.bind (k2.ext e2) fun u st3 v3 H3 F3 mu3 _ e3 re3 ru k3 => ?_⟩
  subst rl ru
  have rx3 := (rx.ext e2).ext e3
  cases hs : seqL st3 x with
  | none => rw [hs] at k3; exact k3.elim
  | some xs =>
    rw [hs] at k3
    obtain ⟨p, vs, hv, h1, h2⟩ := seqL_rep re3.h rx3 hs
    exact .inl ⟨p, vs, hv, h1, fun q hq => k3 _ _ F3 mu3 (e3.trans (Ext.newOwn hq)) (re3.step (Ext.newOwn hq) (re3.h.newOwn hq)) ⟨q, rfl, F_new re3.h hq, fun z => mem_mu re3.h z hq, e1.dom _ (e2.dom _ (dom_none e3 hq)), _, upd_same, cut_rep _ _ h2⟩⟩
theorem yRev {p1 p3 : Pos} {k : Nat} (hK : X.K = g.K) (ha : PE X e (rdE g E ma)) : PE X (.Subscript e (.Slice none none (some (.UnaryOp .USub (.Constant (.int 1) k p1) p2)) p3) pos) (rdN g E (nRev ma)) := PE.imp (pe_revL ha) fun s H Q h => by
  obtain ⟨r, st, F, mu, re, h⟩ := h
  rw [hK]
  refine ⟨r, st, F, mu, re, OutQ.bind h fun x st1 v H1 F1 mu1 _ e1 re1 rx k => ?_⟩
  cases hs : listOf st1 x with
  | none => rw [hs] at k; exact k.elim
  | some xs =>
    rw [hs] at k
    obtain ⟨p, vs, rfl, h1, h2⟩ := listOf_rep re1.h rx hs
    exact ⟨p, vs, rfl, SqL.of h1, fun q hq => k _ _ F1 mu1 (e1.trans (Ext.newOwn hq)) (re1.step (Ext.newOwn hq) (re1.h.newOwn hq)) ⟨q, rfl, F_new re1.h hq, fun z => mem_mu re1.h z hq, dom_none e1 hq, _, upd_same, h2.reverse⟩⟩
theorem yDct0 : PE X (.Dict [] [] pos) (rdN g E (nDct0 0)) := PE.imp pe_dnewK fun s H Q h => by
  obtain ⟨r, st, F, mu, re, h⟩ := h
  exact fun p hp => h _ _ F mu (Ext.newOwn hp) (re.step (Ext.newOwn hp) (re.h.newOwn hp)) ⟨p, rfl, F_new re.h hp, fun z => mem_mu re.h z hp, Nw.of hp, .inl ⟨rfl, [], upd_same, by simp only [RepP]⟩⟩
theorem yDct1 : PE X (.Dict [] [] pos) (rdN g E (nDct0 1)) := PE.imp pe_dnewT fun s H Q h => by
  obtain ⟨r, st, F, mu, re, h⟩ := h
  exact fun p hp => h _ _ F mu (Ext.newOwn hp) (re.step (Ext.newOwn hp) (re.h.newOwn hp)) ⟨p, rfl, F_new re.h hp, fun z => mem_mu re.h z hp, Nw.of hp, .inr ⟨rfl, [], upd_same, by simp only [RepT]⟩⟩

/-! ### sorted -/
theorem perm_insI (x : Int) : ∀ l : List Int, (insI x l).Perm (x :: l)
  | [] => .refl _
  | y :: r => by
    unfold insI
    split
    · exact ((perm_insI x r).cons y).trans (.swap x y r)
    · exact .refl _
theorem perm_sortI : ∀ l : List Int, (sortI l).Perm l
  | [] => .refl _
  | x :: r => (perm_insI x _).trans ((perm_sortI r).cons x)
theorem pw_insI (x : Int) : ∀ {l : List Int}, l.Pairwise (· ≤ ·) → (insI x l).Pairwise (· ≤ ·)
  | [], _ => by simp [insI]
  | y :: r, h => by
    unfold insI
    obtain ⟨h1, h2⟩ := List.pairwise_cons.mp h
    split
    · rename_i hl
      refine List.pairwise_cons.mpr ⟨fun z hz => ?_, pw_insI x h2⟩
      rcases List.mem_cons.mp ((perm_insI x r).mem_iff.mp hz) with rfl | hz
      · omega
      · exact h1 z hz
    · rename_i hl
      refine List.pairwise_cons.mpr ⟨fun z hz => ?_, h⟩
      rcases List.mem_cons.mp hz with rfl | hz
      · omega
      · have := h1 z hz
        omega
theorem pw_sortI : ∀ l : List Int, (sortI l).Pairwise (· ≤ ·)
  | [] => .nil
  | x :: r => pw_insI x (pw_sortI r)
theorem sortI_uniq {l m : List Int} (h : m.Perm l) (hs : m.Pairwise (· ≤ ·)) : m = sortI l :=
  List.Perm.eq_of_pairwise (fun a b _ _ h1 h2 => Int.le_antisymm h1 h2) hs (pw_sortI l) (h.trans (perm_sortI l).symm)
def leT (a b : Tx) : Prop := ltT b a = false
theorem ltT_irr : ∀ a : Tx, ltT a a = false
  | [] => rfl
  | a :: r => by simp [ltT, ltT_irr r]
theorem ltT_trans : ∀ {a b c : Tx}, ltT a b = true → ltT b c = true → ltT a c = true
  | [], [], _, h, _ => by cases h
  | [], _ :: _, [], _, h => by cases h
  | [], _ :: _, _ :: _, _, _ => rfl
  | _ :: _, [], _, h, _ => by cases h
  | _ :: _, _ :: _, [], _, h => by cases h
  | a :: r, b :: t, c :: u, h, k => by
    simp only [ltT, Bool.or_eq_true, Bool.and_eq_true, decide_eq_true_eq] at h k ⊢
    rcases h with h | ⟨h, h'⟩ <;> rcases k with k | ⟨k, k'⟩
    · exact .inl (by omega)
    · exact .inl (by omega)
    · exact .inl (by omega)
    · exact .inr ⟨by omega, ltT_trans h' k'⟩
theorem ltT_tri : ∀ {a b : Tx}, ltT a b = false → ltT b a = false → a = b
  | [], [], _, _ => rfl
  | [], _ :: _, h, _ => by cases h
  | _ :: _, [], _, h => by cases h
  | a :: r, b :: t, h, k => by
    simp only [ltT, Bool.or_eq_false_iff, Bool.and_eq_false_iff, decide_eq_false_iff_not] at h k
    obtain ⟨h1, h2⟩ := h
    obtain ⟨k1, k2⟩ := k
    have e : a = b := by omega
    subst e
    rcases h2 with h2 | h2
    · exact absurd rfl h2
    · rcases k2 with k2 | k2
      · exact absurd rfl k2
      · rw [ltT_tri h2 k2]
theorem leT_trans {a b c : Tx} (h : leT a b) (k : leT b c) : leT a c := by
  unfold leT at *
  cases e : ltT c a with
  | false => rfl
  | true =>
    cases e2 : ltT a b with
    | true => rw [ltT_trans e e2] at k; cases k
    | false =>
      rw [ltT_tri e2 h] at e
      rw [e] at k
      cases k
theorem perm_insT (x : Tx) : ∀ l : List Tx, (insT x l).Perm (x :: l)
  | [] => .refl _
  | y :: r => by
    unfold insT
    split
    · exact ((perm_insT x r).cons y).trans (.swap x y r)
    · exact .refl _
theorem perm_sortT : ∀ l : List Tx, (sortT l).Perm l
  | [] => .refl _
  | x :: r => (perm_insT x _).trans ((perm_sortT r).cons x)
theorem pw_insT (x : Tx) : ∀ {l : List Tx}, l.Pairwise leT → (insT x l).Pairwise leT
  | [], _ => by simp [insT]
  | y :: r, h => by
    unfold insT
    obtain ⟨h1, h2⟩ := List.pairwise_cons.mp h
    split
    · rename_i hl
      refine List.pairwise_cons.mpr ⟨fun z hz => ?_, pw_insT x h2⟩
      rcases List.mem_cons.mp ((perm_insT x r).mem_iff.mp hz) with rfl | hz
      · unfold leT
        cases e : ltT z y with
        | false => rfl
        | true =>
          have := ltT_trans hl e
          rw [ltT_irr] at this
          cases this
      · exact h1 z hz
    · rename_i hl
      have hxy : leT x y := by
        unfold leT
        exact Bool.not_eq_true _ ▸ hl
      refine List.pairwise_cons.mpr ⟨fun z hz => ?_, h⟩
      rcases List.mem_cons.mp hz with rfl | hz
      · exact hxy
      · exact leT_trans hxy (h1 z hz)
theorem pw_sortT : ∀ l : List Tx, (sortT l).Pairwise leT
  | [] => .nil
  | x :: r => pw_insT x (pw_sortT r)
theorem sortT_uniq {l m : List Tx} (h : m.Perm l) (hs : m.Pairwise leT) : m = sortT l :=
  List.Perm.eq_of_pairwise (fun a b _ _ h1 h2 => ltT_tri h2 h1) hs (pw_sortT l) (h.trans (perm_sortT l).symm)
theorem ltT_cps : ∀ a b : Tx, ltCps a b = ltT a b
  | [], [] => rfl
  | [], _ :: _ => rfl
  | _ :: _, [] => rfl
  | a :: r, b :: t => by
    simp only [ltCps, ltT, ltT_cps r t]
    by_cases h : a = b <;> simp [h]
theorem rising_pw : ∀ {p : Str} {l : List Str}, risingS p l = true → (p :: l).Pairwise (fun a b => leT a.cps.toList b.cps.toList)
  | p, [], _ => by simp
  | p, x :: r, h => by
    simp only [risingS, Bool.and_eq_true, Bool.not_eq_true', ltT_cps] at h
    have ih := rising_pw h.2
    refine List.pairwise_cons.mpr ⟨fun z hz => ?_, ih⟩
    rcases List.mem_cons.mp hz with rfl | hz
    · exact h.1
    · exact leT_trans h.1 ((List.pairwise_cons.mp ih).1 z hz)
theorem sortedS_pw : ∀ {l : List Str}, sortedS l = true → l.Pairwise (fun a b => leT a.cps.toList b.cps.toList)
  | [], _ => .nil
  | x :: r, h => rising_pw h
theorem sortS_uniq {ts : List Tx} {ys : List Str} (h : ys.Perm (ts.map toS)) (hs : sortedS ys = true) : ys = (sortT ts).map toS := by
  have e : ys.map (fun z => z.cps.toList) = sortT ts := by
    refine sortT_uniq ?_ ?_
    · have := h.map (fun z : Str => z.cps.toList)
      rw [List.map_map] at this
      have e2 : ts.map ((fun z : Str => z.cps.toList) ∘ toS) = ts := by
        conv => rhs; rw [← List.map_id ts]
        exact List.map_congr_left fun x _ => toS_list x
      rw [e2] at this
      exact this
    · exact List.pairwise_map.mpr (sortedS_pw hs)
  rw [← e, List.map_map]
  conv => lhs; rw [← List.map_id ys]
  exact List.map_congr_left fun x _ => (toS_of x).symm
theorem txsOf_rep {F : Hp} {mu : List Addr} : ∀ {ds : List D} {vs : List V} {ts : List Tx}, RepL g F mu ds vs → txsOf ds = some ts → vs = (ts.map toS).map V.str
  | [], vs, ts, r, e => by
    simp only [RepL] at r
    cases e
    rw [r]
    rfl
  | .str x :: ds, vs, ts, r, e => by
    simp only [RepL, RepV] at r
    obtain ⟨v, r', rfl, rfl, h3⟩ := r
    simp only [txsOf, Option.map_eq_some_iff] at e
    obtain ⟨t, e1, rfl⟩ := e
    rw [txsOf_rep h3 e1]
    rfl
  | .non :: _, _, _, _, e => by cases e
  | .bl _ :: _, _, _, _, e => by cases e
  | .int _ :: _, _, _, _, e => by cases e
  | .ref _ :: _, _, _, _, e => by cases e
  | .tup _ :: _, _, _, _, e => by cases e
  | .lst _ :: _, _, _, _, e => by cases e
  | .dct _ _ :: _, _, _, _, e => by cases e
  | .obj _ _ :: _, _, _, _, e => by cases e
  | .lam _ :: _, _, _, _, e => by cases e
  | .scr _ :: _, _, _, _, e => by cases e
  | .ktp _ :: _, _, _, _, e => by cases e
theorem txsK_rep {F : Hp} {mu : List Addr} : ∀ {ps : List (D × D)} {kvs : List (Key × V)} {ts : List Tx}, RepP g F mu ps kvs → txsOf (ps.map (·.1)) = some ts → kvs.map (·.1) = (ts.map toS).map Sum.inr
  | [], kvs, ts, r, e => by
    simp only [RepP] at r
    cases e
    rw [r]
    rfl
  | (a, d) :: ps, kvs, ts, r, e => by
    simp only [RepP] at r
    obtain ⟨a', v, r', rfl, h1, h2, h3⟩ := r
    cases a with
    | str x =>
      simp only [List.map_cons, txsOf, Option.map_eq_some_iff] at e
      obtain ⟨t, e1, rfl⟩ := e
      simp only [RepK] at h1
      subst h1
      simp only [List.map_cons]
      rw [txsK_rep h3 e1]
    | _ => cases e
theorem strL {F : Hp} {mu : List Addr} : ∀ ts : List Tx, RepL g F mu (ts.map D.str) ((ts.map toS).map V.str)
  | [] => .nil
  | t :: ts => .cons (by simp only [RepV]) (strL ts)
theorem intL {F : Hp} {mu : List Addr} : ∀ ts : List Int, RepL g F mu (ts.map D.int) (ts.map V.int)
  | [] => .nil
  | t :: ts => .cons (by simp only [RepV]) (intL ts)
def rSortAll (K : PySem.W.Frag) : List V → Hp → VK → Prop := fun vs H Q => rSorted K vs H Q ∨ rSortedS K vs H Q ∨ (∃ (a : Addr) (kvs : List (Key × V)) (ks : List Str), vs = [.ref a] ∧ Rd H a (.dK kvs) ∧ kvs.map (·.1) = ks.map Sum.inr ∧ ks.length < 64 ∧ ∀ ys p, ys.Perm ks → sortedS ys = true → H p = none → Q (.ref p) (upd H p (.lst (ys.map V.str))))
theorem cr_sortAll (hc : X.calm = true) : CallR X (.builtin "sorted") (rSortAll X.K) := cr_sorted.or (cr_sortedS.or (call_sortedD hc))
theorem sSorted : NpSN g (rSortAll g.K) nSorted := fun H F mu st xs vs c Q rh rx e q => by
  unfold nSorted at e
  split at e
  · rename_i x
    obtain ⟨v, rfl, r1⟩ := repxs1 rx
    split at e
    · rename_i ps hd
      split at e
      · rename_i ts ht
        split at e
        · rename_i h64
          cases e
          obtain ⟨p, rfl, ⟨_, kvs, h1, h2⟩ | ⟨h1, _⟩⟩ := dct_rep rh r1 hd
          · refine .inr (.inr ⟨p, kvs, ts.map toS, rfl, h1, txsK_rep h2 ht, by rw [List.length_map]; exact h64, fun ys l hp hs hl => ?_⟩)
            rw [sortS_uniq hp hs]
            exact newLst rh (strL _) q l hl
          · cases h1
        · cases e
      · cases e
    · cases e
    · split at e
      · rename_i ds hd
        split at e
        · rename_i h64
          obtain ⟨p, us, rfl, h1, h2⟩ := listOf_rep rh r1 hd
          split at e
          · rename_i ns hn
            cases e
            have := intsOf_rep h2 hn
            subst this
            refine .inl ⟨p, ns, rfl, SqL.of h1, by rw [h2.length, List.length_map] at h64; exact h64, fun ys l hp hs hl => ?_⟩
            rw [sortI_uniq hp hs]
            exact newLst rh (intL _) q l hl
          · split at e
            · rename_i ts ht
              cases e
              have := txsOf_rep h2 ht
              subst this
              refine .inr (.inl ⟨p, ts.map toS, rfl, SqL.of h1, by rw [h2.length, List.length_map] at h64; exact h64, fun ys l hp hs hl => ?_⟩)
              rw [sortS_uniq hp hs]
              exact newLst rh (strL _) q l hl
            · cases e
        · cases e
      · cases e
  · cases e
end
end Mir
/-! E12: told(lambda: e), truth, sums. -/
namespace Mir
open PySem PySem.Spec PyProof.Rows L2
section
variable {X : Cx} {g : G} {E : XK} {B : Bs} {pos p2 : Pos} {a b c e f o : Expr} {ma mb mc : EM} {es : List Expr} {mas : AM} {sa : Stmt}
section
variable {H H1 F : Hp} {mu : List Addr} {st : Mir.St} {s : L2.St} {r : Env}
theorem cell_ext {a : Addr} {c : Cell} (eN : LamX.ExtN H H1) (h : CellAt g F mu H a c) : CellAt g F mu H1 a c := by
  obtain ⟨o, h1, h2, _⟩ := h.there
  exact CellAt.at (by rw [h1]; exact eN _ _ h1 h2) h
theorem RH.lam (rh : RH g H F mu st) (eN : LamX.ExtN H H1) (T1 : LamX.Tabs g.tb H1) : RH g H1 F mu st where
  ntb := rh.ntb
  fro := fun a o h => .inl (eN a o ((rh.fro a o h).resolve_right fun z => z.1) fun ps z => rh.ntb a ps (by rw [h, z]))
  len := rh.len
  nd := rh.nd
  cel := fun n c h => by
    obtain ⟨a, h1, h2, h3⟩ := rh.cel n c h
    exact ⟨a, h1, h2, cell_ext eN h3⟩
  tab := T1
theorem Ext.lam (eN : LamX.ExtN H H1) : Ext H F mu H1 F mu where
  mo := .refl _ _
  keep := fun a o h _ n => eN a o h n
  dom := fun a h o q => by
    by_cases z : ∃ ps, o = .tbl ps
    · exact z
    · exact h o (eN a o q fun ps e => z ⟨ps, e⟩)
  frF := fun _ _ h => .inl h
  frM := fun _ h => .inl h
theorem RE.lam (re : RE g s H F mu r st) (eN : LamX.ExtN H H1) (T1 : LamX.Tabs g.tb H1) : RE g s H1 F mu r st := re.step (Ext.lam eN) (re.h.lam eN T1)
end
/-- the errors that told catches -/
def Caught (g : G) (CS : Addr) (es : List Nat) : Prop := ∀ k, es.contains k = true → ∃ C, g.ex k = some C ∧ PySem.W.exmOne g.K (.ref C) (.ref CS) = some true
theorem told_rd {CS : Addr} {ret : Tx} {es : List Nat} (hx : Caught g CS es) {s : L2.St} {H : Hp} {Q : VK} {r : Env} {st : Mir.St} {F : Hp} {mu : List Addr} (re : RE g s H F mu r st)
    (k : OutQ g s H F mu r (fun H' F' mu' x v => RepX g H' F' mu' x v) E Q (eTold es ret ma r st)) :
    LamX.TTold g.K CS (toS ret) (fun E H' Q' => rdE g E ma s H' Q') H Q := by
  refine ⟨r, st, F, mu, re, ?_⟩
  unfold eTold at k
  cases h : ma r st with
  | ok x st1 =>
    rw [h] at k
    cases x with
    | val d => exact k
    | bor c => exact k.elim
  | exc x st1 =>
    rw [h] at k
    dsimp only at k
    by_cases hc : es.contains x = true
    · rw [if_pos hc] at k
      obtain ⟨C, h1, h2⟩ := hx x hc
      exact fun H' F' mu' ex re' => ⟨C, h1, true, h2, fun _ => k (.str (toS ret)) H' F' mu' ex re' (by simp only [RepX, RepV]), fun z => by cases z⟩
    · rw [if_neg hc] at k
      exact k.elim
  | bad => rw [h] at k; exact k.elim
theorem xTold {CS : Addr} {ret : Tx} {es : List Nat} (hx : Caught g CS es) (h : PE X e (LamX.tLam g.tb (LamX.TTold g.K CS (toS ret)) (fun E => rdE g E ma))) : PE X e (rdE g E (eTold es ret ma)) := PE.imp h fun s H Q k => by
  obtain ⟨r, st, F, mu, re, k⟩ := k
  refine ⟨re.h.tab, fun H1 eN T1 => ?_⟩
  exact told_rd hx (re.lam eN T1) (k.ext (Ext.lam eN))
/-! ### truth -/
theorem emp_rep {F : Hp} {mu : List Addr} {ds : List D} {vs : List V} (h : RepL g F mu ds vs) : ds.isEmpty = vs.isEmpty := by
  have := h.length
  cases ds <;> cases vs <;> simp_all
theorem truth_rep {H F : Hp} {mu : List Addr} {st : Mir.St} {x : Opd} {v : V} {t : Bool} (rh : RH g H F mu st) (rx : RepX g H F mu x v) (h : truth st x = some t) : TruV g.K v H t := by
  unfold truth at h
  split at h
  · simp only [RepX, RepV] at rx
    subst rx
    cases h
    rfl
  · simp only [RepX, RepV] at rx
    subst rx
    cases h
    rfl
  · simp only [RepX, RepV] at rx
    subst rx
    cases h
    rfl
  · rename_i y
    simp only [RepX, RepV] at rx
    subst rx
    split at h
    · rename_i hl
      cases h
      refine ⟨by rw [toS_len]; exact Nat.le_trans hl lim_line, ?_⟩
      rw [toS_len]
      cases y with
      | nil => rfl
      | cons c y =>
        have : ((((c :: y).length : Nat) : Int) != 0) = true := by
          simp only [List.length_cons, bne_iff_ne, ne_eq]
          omega
        rw [this]
        rfl
    · cases h
  · simp only [RepX, RepV] at rx
    obtain ⟨p, vs, rfl, h1, h2⟩ := rx
    cases h
    exact .inr (.inl ⟨vs, rh.seqT h1, by rw [emp_rep h2]⟩)
  · simp only [RepX, RepV] at rx
    obtain ⟨p, vs, rfl, h1, h2⟩ := rx
    cases h
    exact .inl ⟨vs, SqL.of (rh.lst h1), by rw [emp_rep h2]⟩
  · obtain ⟨p, rfl, _, _, vs, h1, h2⟩ := rx
    cases h
    exact .inl ⟨vs, SqL.of h1, by rw [emp_rep h2]⟩
  · cases h
theorem dTru (ha : PE X a (rdE g E ma)) (hK : X.K = g.K) (he : ∀ whole, isTrue a X.env whole = (do let v ← whole; standAt a.pos; holding [v] (truthy v)) := by intro _; rfl) : PT X a (rdT g E (tTru ma)) := PT.imp (pt_truth ha he) fun s H Q h => by
  obtain ⟨r, st, F, mu, re, h⟩ := h
  refine ⟨r, st, F, mu, re, OutQ.bind h fun x st1 v H1 F1 mu1 _ e1 re1 rx k => ?_⟩
  cases ht : truth st1 x with
  | none => rw [ht] at k; exact k.elim
  | some t =>
    rw [ht] at k
    refine ⟨t, ?_, k t H1 F1 mu1 e1 re1 rfl⟩
    rw [hK]
    exact truth_rep re1.h rx ht
theorem qDead {t : TS} (h : PS X sa t) : PS X sa (rdS g E B sDead) := PS.imp h fun D s H h => by
  obtain ⟨r, st, F, mu, rb, h⟩ := h
  exact h.elim
theorem qDeads {ss : List Stmt} {t : TS} (h : PSs X ss t) : PSs X ss (rdS g E B sDead) := PSs.imp h fun D s H h => by
  obtain ⟨r, st, F, mu, rb, h⟩ := h
  exact h.elim
end
end Mir
/-! E13: the rules as a printed walk names them. -/
namespace Mir
open PySem PySem.Spec PyProof.Rows L2
section
variable {X : Cx} {g : G} {E : XK} {B : Bs} {pos p2 p3 : Pos} {a b c e f o : Expr} {ma mb mc : EM} {es : List Expr} {mas : AM} {sa : Stmt} {k : Nat}
theorem ru (hr : Room k X.A) : X.A.units + 65 < cLine := by have := hr.un; omega
theorem ru1 (hr : Room k X.A) : X.A.units + 1 < cLine := by have := hr.un; omega
theorem ru4 (hr : Room k X.A) : X.A.units + 64 < cLine := by have := hr.un; omega
/-! what a call may let out -/
theorem pF {P : Program} {w : World} {K : PySem.W.Frag} {mg : Str → Option Value} {base : Heap} {N : List Str} {q : Str} {sc : Scope} {f : Addr} {cdv : Value} {A : Around} {outer : List PySem.Env} {s : Shared} {H : Hp} {E : XK} :
    Passes (L2.CX P w) (cxOf (L2.CX P w) P w K mg base N q sc f cdv A outer s H E) E := passes_call (takes_of rfl rfl rfl rfl) fun _ _ _ _ h => h
theorem pB {P : Program} {w : World} : X.prog = P → X.w = w → Passes (L2.CX P w) X (fun _ _ _ => False) := fun h1 h2 => by
  subst h1 h2
  exact passes_call LamX.takes0 fun _ _ _ _ h => h
theorem pL {E₁ : Value → Shared → Prop} (hx : X.xe = fun e s' => wpAny (model X.prog X.w) X.A (leaving X.env e) (fun _ s'' => L2.CX X.prog X.w X.outer X.H_0 X.s_0 E e s'') E₁ s') (hs : X.stack = X.env :: X.outer) (hf : X.env.frame = some X.env.locals) (hex : X.ex = []) : Passes (L2.CX X.prog X.w) X E := passes_call (takes_of hs hf hex hx) fun _ _ _ _ h => h
/-! operators -/
theorem bAdd (ha : PE X a (rdE g E ma)) (hb : PE X b (rdE g E mb)) : PE X (.BinOp a .Add b pos) (rdE g E (eOp2 oAdd ma mb)) := dOp (op_add.or op_add_str) sAdd ha hb
theorem bSub (ha : PE X a (rdE g E ma)) (hb : PE X b (rdE g E mb)) : PE X (.BinOp a .Sub b pos) (rdE g E (eOp2 oSub ma mb)) := dOp op_sub sSub ha hb
theorem bMul (ha : PE X a (rdE g E ma)) (hb : PE X b (rdE g E mb)) : PE X (.BinOp a .Mult b pos) (rdE g E (eOp2 oMul ma mb)) := dOp op_mul sMul ha hb
theorem bFdiv (ha : PE X a (rdE g E ma)) (hb : PE X b (rdE g E mb)) : PE X (.BinOp a .FloorDiv b pos) (rdE g E (eOp2 oFdiv ma mb)) := dOp op_fdiv sFdiv ha hb
theorem bMod (ha : PE X a (rdE g E ma)) (hb : PE X b (rdE g E mb)) : PE X (.BinOp a .Mod b pos) (rdE g E (eOp2 oMod ma mb)) := dOp op_mod sMod ha hb
theorem bPow (ha : PE X a (rdE g E ma)) (hb : PE X b (rdE g E mb)) : PE X (.BinOp a .Pow b pos) (rdE g E (eOp2 oPow ma mb)) := dOp op_pow sPow ha hb
theorem bShl (ha : PE X a (rdE g E ma)) (hb : PE X b (rdE g E mb)) : PE X (.BinOp a .LShift b pos) (rdE g E (eOp2 oShl ma mb)) := dOp op_shl sShl ha hb
theorem bNeg (ha : PE X a (rdE g E ma)) : PE X (.UnaryOp .USub a pos) (rdE g E (eOp1 oNeg ma)) := dUn un_neg sNeg ha
theorem yCat (ha : PE X a (rdE g E ma)) (hb : PE X b (rdE g E mb)) : PE X (.BinOp a .Add b pos) (rdN g E (nOp2 nCat ma mb)) := yOp2 sCat (pe_op op_cat ha hb)
theorem yRep (ha : PE X a (rdE g E ma)) (hb : PE X b (rdE g E mb)) : PE X (.BinOp a .Mult b pos) (rdN g E (nOp2 nRep ma mb)) := yOp2 sRep (pe_op op_rep ha hb)
theorem cEq (hr : Room k X.A) (hK : X.K = g.K) (ha : PE X a (rdE g E ma)) (hb : PE X b (rdE g E mb)) (hm : behindInMarks .Eq b = false := by first | exact nomark _ | rfl) : PE X (.Compare a [.Eq] [b] pos) (rdE g E (eOp2 oEq ma mb)) := dCmp (hK ▸ (op_eq.or (op_eqD (ru4 hr)))) sEq ha hb hm
theorem tEq (hr : Room k X.A) (hK : X.K = g.K) (ha : PE X a (rdE g E ma)) (hb : PE X b (rdE g E mb)) (hm : behindInMarks .Eq b = false := by first | exact nomark _ | rfl) : PT X (.Compare a [.Eq] [b] pos) (rdT g E (tE (eOp2 oEq ma mb))) := dTc (hK ▸ (op_eq.or (op_eqD (ru4 hr)))) sEq ha hb hm
theorem cNotEq (hr : Room k X.A) (hK : X.K = g.K) (ha : PE X a (rdE g E ma)) (hb : PE X b (rdE g E mb)) (hm : behindInMarks .NotEq b = false := by first | exact nomark _ | rfl) : PE X (.Compare a [.NotEq] [b] pos) (rdE g E (eOp2 oNe ma mb)) := dCmp (hK ▸ (op_ne.or (op_neD (ru4 hr)))) sNe ha hb hm
theorem tNotEq (hr : Room k X.A) (hK : X.K = g.K) (ha : PE X a (rdE g E ma)) (hb : PE X b (rdE g E mb)) (hm : behindInMarks .NotEq b = false := by first | exact nomark _ | rfl) : PT X (.Compare a [.NotEq] [b] pos) (rdT g E (tE (eOp2 oNe ma mb))) := dTc (hK ▸ (op_ne.or (op_neD (ru4 hr)))) sNe ha hb hm
theorem cLt (ha : PE X a (rdE g E ma)) (hb : PE X b (rdE g E mb)) (hm : behindInMarks .Lt b = false := by first | exact nomark _ | rfl) : PE X (.Compare a [.Lt] [b] pos) (rdE g E (eOp2 oLt ma mb)) := dCmp op_lt sLt ha hb hm
theorem tLt (ha : PE X a (rdE g E ma)) (hb : PE X b (rdE g E mb)) (hm : behindInMarks .Lt b = false := by first | exact nomark _ | rfl) : PT X (.Compare a [.Lt] [b] pos) (rdT g E (tE (eOp2 oLt ma mb))) := dTc op_lt sLt ha hb hm
theorem cLtE (ha : PE X a (rdE g E ma)) (hb : PE X b (rdE g E mb)) (hm : behindInMarks .LtE b = false := by first | exact nomark _ | rfl) : PE X (.Compare a [.LtE] [b] pos) (rdE g E (eOp2 oLe ma mb)) := dCmp op_le sLe ha hb hm
theorem tLtE (ha : PE X a (rdE g E ma)) (hb : PE X b (rdE g E mb)) (hm : behindInMarks .LtE b = false := by first | exact nomark _ | rfl) : PT X (.Compare a [.LtE] [b] pos) (rdT g E (tE (eOp2 oLe ma mb))) := dTc op_le sLe ha hb hm
theorem cGt (ha : PE X a (rdE g E ma)) (hb : PE X b (rdE g E mb)) (hm : behindInMarks .Gt b = false := by first | exact nomark _ | rfl) : PE X (.Compare a [.Gt] [b] pos) (rdE g E (eOp2 oGt ma mb)) := dCmp op_gt sGt ha hb hm
theorem tGt (ha : PE X a (rdE g E ma)) (hb : PE X b (rdE g E mb)) (hm : behindInMarks .Gt b = false := by first | exact nomark _ | rfl) : PT X (.Compare a [.Gt] [b] pos) (rdT g E (tE (eOp2 oGt ma mb))) := dTc op_gt sGt ha hb hm
theorem cGtE (ha : PE X a (rdE g E ma)) (hb : PE X b (rdE g E mb)) (hm : behindInMarks .GtE b = false := by first | exact nomark _ | rfl) : PE X (.Compare a [.GtE] [b] pos) (rdE g E (eOp2 oGe ma mb)) := dCmp op_ge sGe ha hb hm
theorem tGtE (ha : PE X a (rdE g E ma)) (hb : PE X b (rdE g E mb)) (hm : behindInMarks .GtE b = false := by first | exact nomark _ | rfl) : PT X (.Compare a [.GtE] [b] pos) (rdT g E (tE (eOp2 oGe ma mb))) := dTc op_ge sGe ha hb hm
theorem cIs (ha : PE X a (rdE g E ma)) (hb : PE X b (rdE g E mb)) (hm : behindInMarks .Is b = false := by first | exact nomark _ | rfl) : PE X (.Compare a [.Is] [b] pos) (rdE g E (eOp2 oIsN ma mb)) := dCmp op_isN sIsN ha hb hm
theorem tIs (ha : PE X a (rdE g E ma)) (hb : PE X b (rdE g E mb)) (hm : behindInMarks .Is b = false := by first | exact nomark _ | rfl) : PT X (.Compare a [.Is] [b] pos) (rdT g E (tE (eOp2 oIsN ma mb))) := dTc op_isN sIsN ha hb hm
theorem cIsNot (ha : PE X a (rdE g E ma)) (hb : PE X b (rdE g E mb)) (hm : behindInMarks .IsNot b = false := by first | exact nomark _ | rfl) : PE X (.Compare a [.IsNot] [b] pos) (rdE g E (eOp2 oNotN ma mb)) := dCmp op_notN sNotN ha hb hm
theorem tIsNot (ha : PE X a (rdE g E ma)) (hb : PE X b (rdE g E mb)) (hm : behindInMarks .IsNot b = false := by first | exact nomark _ | rfl) : PT X (.Compare a [.IsNot] [b] pos) (rdT g E (tE (eOp2 oNotN ma mb))) := dTc op_notN sNotN ha hb hm
theorem cIn (hr : Room k X.A) (hK : X.K = g.K) (ha : PE X a (rdE g E ma)) (hb : PE X b (rdE g E mb)) (hm : behindInMarks .In b = false := by first | exact nomark _ | rfl) : PE X (.Compare a [.In] [b] pos) (rdE g E (eOp2 oIn ma mb)) := dCmp (hK ▸ (op_inAll (ru hr))) sIn ha hb hm
theorem tIn (hr : Room k X.A) (hK : X.K = g.K) (ha : PE X a (rdE g E ma)) (hb : PE X b (rdE g E mb)) (hm : behindInMarks .In b = false := by first | exact nomark _ | rfl) : PT X (.Compare a [.In] [b] pos) (rdT g E (tE (eOp2 oIn ma mb))) := dTc (hK ▸ (op_inAll (ru hr))) sIn ha hb hm
theorem cNotIn (hr : Room k X.A) (hK : X.K = g.K) (ha : PE X a (rdE g E ma)) (hb : PE X b (rdE g E mb)) (hm : behindInMarks .NotIn b = false := by first | exact nomark _ | rfl) : PE X (.Compare a [.NotIn] [b] pos) (rdE g E (eOp2 oNotIn ma mb)) := dCmp (hK ▸ (op_notInAll (ru hr))) sNotIn ha hb hm
theorem tNotIn (hr : Room k X.A) (hK : X.K = g.K) (ha : PE X a (rdE g E ma)) (hb : PE X b (rdE g E mb)) (hm : behindInMarks .NotIn b = false := by first | exact nomark _ | rfl) : PT X (.Compare a [.NotIn] [b] pos) (rdT g E (tE (eOp2 oNotIn ma mb))) := dTc (hK ▸ (op_notInAll (ru hr))) sNotIn ha hb hm
theorem cLeLe (ha : PE X a (rdE g E ma)) (hb : PE X b (rdE g E mb)) (hc : PE X c (rdE g E mc)) (hm : lastMarks [.LtE, .LtE] [b, c] = false := by with_unfolding_all rfl) : PE X (.Compare a [.LtE, .LtE] [b, c] pos) (rdE g E (eChain oLe oLe ma mb mc)) := dChain op_le sLe op_le sLe ha hb hc (pe_chain op_le op_le ha hb hc hm)
theorem tLeLe (ha : PE X a (rdE g E ma)) (hb : PE X b (rdE g E mb)) (hc : PE X c (rdE g E mc)) (hm : lastMarks [.LtE, .LtE] [b, c] = false := by with_unfolding_all rfl) : PT X (.Compare a [.LtE, .LtE] [b, c] pos) (rdT g E (tE (eChain oLe oLe ma mb mc))) := dTchain op_le sLe op_le sLe ha hb hc (pt_chain op_le op_le ha hb hc hm)
theorem cLtLt (ha : PE X a (rdE g E ma)) (hb : PE X b (rdE g E mb)) (hc : PE X c (rdE g E mc)) (hm : lastMarks [.Lt, .Lt] [b, c] = false := by with_unfolding_all rfl) : PE X (.Compare a [.Lt, .Lt] [b, c] pos) (rdE g E (eChain oLt oLt ma mb mc)) := dChain op_lt sLt op_lt sLt ha hb hc (pe_chain op_lt op_lt ha hb hc hm)
theorem tLtLt (ha : PE X a (rdE g E ma)) (hb : PE X b (rdE g E mb)) (hc : PE X c (rdE g E mc)) (hm : lastMarks [.Lt, .Lt] [b, c] = false := by with_unfolding_all rfl) : PT X (.Compare a [.Lt, .Lt] [b, c] pos) (rdT g E (tE (eChain oLt oLt ma mb mc))) := dTchain op_lt sLt op_lt sLt ha hb hc (pt_chain op_lt op_lt ha hb hc hm)
/-! calls of built-ins -/
theorem kLen (hg : Gl X "len") (hm : X.mg "len" = none) (hK : X.K = g.K) (ha : PA X (e :: es) (rdA g E mas)) (he : starEach (e :: es) X.env = (false, eval e X.env) :: starEach es X.env := by rfl) (hpl : (backTo pos (starEach es X.env)).any (·.1) = false := by rfl) :
    PE X (.Call (.Name "len" p2) (e :: es) [] pos) (rdE g E (eOpN oLen mas)) := xCB sLen (by have z := pe_callB (p := p2) call_len hg hm (by decide +kernel) ha (by decide +kernel) (by decide +kernel) he hpl; rw [hK] at z; exact z)
theorem kAbs (hg : Gl X "abs") (hm : X.mg "abs" = none) (ha : PA X (e :: es) (rdA g E mas)) (he : starEach (e :: es) X.env = (false, eval e X.env) :: starEach es X.env := by rfl) (hpl : (backTo pos (starEach es X.env)).any (·.1) = false := by rfl) :
    PE X (.Call (.Name "abs" p2) (e :: es) [] pos) (rdE g E (eOpN oAbs mas)) := xCB sAbs (pe_callB (p := p2) call_abs hg hm (by decide +kernel) ha (by decide +kernel) (by decide +kernel) he hpl)
theorem kMax2 (hg : Gl X "max") (hm : X.mg "max" = none) (hc : X.calm = true) (ha : PA X (e :: es) (rdA g E mas)) (he : starEach (e :: es) X.env = (false, eval e X.env) :: starEach es X.env := by rfl) (hpl : (backTo pos (starEach es X.env)).any (·.1) = false := by rfl) :
    PE X (.Call (.Name "max" p2) (e :: es) [] pos) (rdE g E (eOpN oMax2 mas)) := xCB sMax2 (pe_callB (p := p2) (call_max2 hc) hg hm (by decide +kernel) ha (by decide +kernel) (by decide +kernel) he hpl)
theorem kMin2 (hg : Gl X "min") (hm : X.mg "min" = none) (hc : X.calm = true) (ha : PA X (e :: es) (rdA g E mas)) (he : starEach (e :: es) X.env = (false, eval e X.env) :: starEach es X.env := by rfl) (hpl : (backTo pos (starEach es X.env)).any (·.1) = false := by rfl) :
    PE X (.Call (.Name "min" p2) (e :: es) [] pos) (rdE g E (eOpN oMin2 mas)) := xCB sMin2 (pe_callB (p := p2) (call_min2 hc) hg hm (by decide +kernel) ha (by decide +kernel) (by decide +kernel) he hpl)
theorem kInt (hg : Gl X "int") (hm : X.mg "int" = none) (ha : PA X (e :: es) (rdA g E mas)) (he : starEach (e :: es) X.env = (false, eval e X.env) :: starEach es X.env := by rfl) (hpl : (backTo pos (starEach es X.env)).any (·.1) = false := by rfl) :
    PE X (.Call (.Name "int" p2) (e :: es) [] pos) (rdE g E (eOpN oInt mas)) := xCB sIntB (pe_callTy (p := p2) call_int1 hg hm (by decide +kernel) ha (by decide +kernel) (by decide +kernel) he hpl)
theorem kSum (hg : Gl X "sum") (hm : X.mg "sum" = none) (hc : X.calm = true) (hK : X.K = g.K) (ha : PA X (e :: es) (rdA g E mas)) (he : starEach (e :: es) X.env = (false, eval e X.env) :: starEach es X.env := by rfl) (hpl : (backTo pos (starEach es X.env)).any (·.1) = false := by rfl) :
    PE X (.Call (.Name "sum" p2) (e :: es) [] pos) (rdE g E (eOpN oSum mas)) := xCB sSum (by have z := pe_callB (p := p2) (cr_sum hc) hg hm (by decide +kernel) ha (by decide +kernel) (by decide +kernel) he hpl; rw [hK] at z; exact z)
theorem kMaxL (hg : Gl X "max") (hm : X.mg "max" = none) (hc : X.calm = true) (hK : X.K = g.K) (ha : PA X (e :: es) (rdA g E mas)) (he : starEach (e :: es) X.env = (false, eval e X.env) :: starEach es X.env := by rfl) (hpl : (backTo pos (starEach es X.env)).any (·.1) = false := by rfl) :
    PE X (.Call (.Name "max" p2) (e :: es) [] pos) (rdE g E (eOpN oMaxL mas)) := xCB sMaxL (by have z := pe_callB (p := p2) (cr_max hc) hg hm (by decide +kernel) ha (by decide +kernel) (by decide +kernel) he hpl; rw [hK] at z; exact z)
theorem kMinL (hg : Gl X "min") (hm : X.mg "min" = none) (hc : X.calm = true) (hK : X.K = g.K) (ha : PA X (e :: es) (rdA g E mas)) (he : starEach (e :: es) X.env = (false, eval e X.env) :: starEach es X.env := by rfl) (hpl : (backTo pos (starEach es X.env)).any (·.1) = false := by rfl) :
    PE X (.Call (.Name "min" p2) (e :: es) [] pos) (rdE g E (eOpN oMinL mas)) := xCB sMinL (by have z := pe_callB (p := p2) (cr_min hc) hg hm (by decide +kernel) ha (by decide +kernel) (by decide +kernel) he hpl; rw [hK] at z; exact z)
theorem kList (hg : Gl X "list") (hm : X.mg "list" = none) (hK : X.K = g.K) (ha : PA X (e :: es) (rdA g E mas)) (he : starEach (e :: es) X.env = (false, eval e X.env) :: starEach es X.env := by rfl) (hpl : (backTo pos (starEach es X.env)).any (·.1) = false := by rfl) :
    PE X (.Call (.Name "list" p2) (e :: es) [] pos) (rdN g E (nOpN nList mas)) := yCB sList (by have z := pe_callTy (p := p2) call_list_of hg hm (by decide +kernel) ha (by decide +kernel) (by decide +kernel) he hpl; rw [hK] at z; exact z)
theorem kTuple (hg : Gl X "tuple") (hm : X.mg "tuple" = none) (hK : X.K = g.K) (ha : PA X (e :: es) (rdA g E mas)) (he : starEach (e :: es) X.env = (false, eval e X.env) :: starEach es X.env := by rfl) (hpl : (backTo pos (starEach es X.env)).any (·.1) = false := by rfl) :
    PE X (.Call (.Name "tuple" p2) (e :: es) [] pos) (rdE g E (eOpN oTuple mas)) := xCB sTuple (by have z := pe_callTy (p := p2) call_tuple_of hg hm (by decide +kernel) ha (by decide +kernel) (by decide +kernel) he hpl; rw [hK] at z; exact z)
theorem kDict (hg : Gl X "dict") (hm : X.mg "dict" = none) (hc : X.calm = true) (hK : X.K = g.K) (ha : PA X (e :: es) (rdA g E mas)) (he : starEach (e :: es) X.env = (false, eval e X.env) :: starEach es X.env := by rfl) (hpl : (backTo pos (starEach es X.env)).any (·.1) = false := by rfl) :
    PE X (.Call (.Name "dict" p2) (e :: es) [] pos) (rdN g E (nOpN nDict mas)) := yCB sDict (by have z := pe_callTy (p := p2) (call_dictP hc) hg hm (by decide +kernel) ha (by decide +kernel) (by decide +kernel) he hpl; rw [hK] at z; exact z)
theorem kSorted (hg : Gl X "sorted") (hm : X.mg "sorted" = none) (hc : X.calm = true) (hK : X.K = g.K) (ha : PA X (e :: es) (rdA g E mas)) (he : starEach (e :: es) X.env = (false, eval e X.env) :: starEach es X.env := by rfl) (hpl : (backTo pos (starEach es X.env)).any (·.1) = false := by rfl) :
    PE X (.Call (.Name "sorted" p2) (e :: es) [] pos) (rdN g E (nOpN nSorted mas)) := yCB sSorted (by have z := pe_callB (p := p2) (cr_sortAll hc) hg hm (by decide +kernel) ha (by decide +kernel) (by decide +kernel) he hpl; rw [hK] at z; exact z)
end
end Mir
/-! E14: calls of the program's own, fields, dicts, walks, as a printed walk names them. -/
namespace Mir
open PySem PySem.Spec PyProof.Rows L2
/-- a def with no defaults, ready to be called -/
structure DefOk (P : Program) (w : World) (K : PySem.W.Frag) (mg : Str → Option Value) (base : Heap) (g : G) (k : Nat) (f : Addr) (ps : List Str) (fm : FM) : Prop where
  ex : ∃ fd, FnOk P w K mg base (L2.CX P w) k f fd ps (spOf g ps.length fm) ∧ Binds K fd ps []
  kp : PySem.W.keepIn K (.ref f) = true
structure InitOk (P : Program) (w : World) (K : PySem.W.Frag) (mg : Str → Option Value) (base : Heap) (g : G) (ci k : Nat) (f : Addr) (ps : List Str) (fm : XM) : Prop where
  ex : ∃ fd, FnOk P w K mg base (L2.CX P w) k f fd ps (spInit g ci ps.length fm) ∧ Binds K fd ps []
/-- a class of the program's own -/
structure ClsOk (g : G) (ci : Nat) (C : Addr) (ns : List Str) : Prop where
  cl : Cls g.K C
  hc : g.ci ci = some (C, ns)
  nd : ns.Nodup
  sm : ns.length < 1000
  na : ∀ f ∈ ns, NoAttr g.K C f
/-- an error of the program's own -/
structure ExcOk (g : G) (mg : Str → Option Value) (k : Nat) (x : Str) (C : Addr) : Prop where
  hx : g.ex k = some C
  gC : mg x = some (.ref C)
  q : PySem.W.excIn g.K C He.veBase "ValueError.__new__" = true ∧ PySem.W.keepIn g.K (.ref C) = true ∧ PySem.W.subIn g.K (.ref C) (.type "BaseException") = some true ∧ PySem.W.typeIn g.K (.ref C) = some (.type "type")
section
variable {X : Cx} {g : G} {E : XK} {B : Bs} {pos p2 p3 apos : Pos} {a b c e f o : Expr} {ma mb mc : EM} {es : List Expr} {mas : AM} {sa : Stmt} {k k0 n : Nat} {fa C : Addr} {ps ns : List Str} {fm : FM} {xm : XM} {x m : Str} {ci j : Nat}
theorem gCall (D : DefOk X.prog X.w X.K X.mg X.base g k0 fa ps fm) (hr : Room k X.A) (hk : k0 ≤ k) (hg : Gl X x) (hm : X.mg x = some (.ref fa)) (hx : Passes (L2.CX X.prog X.w) X E) (ha : PA X (e :: es) (rdA g E mas)) (hl : AM.len mas ps.length) (hdb : (x == ("__debug__" : Str)) = false := by decide +kernel)
    (he : starEach (e :: es) X.env = (false, eval e X.env) :: starEach es X.env := by rfl) (hpl : (backTo pos (starEach es X.env)).any (·.1) = false := by rfl) : PE X (.Call (.Name x p2) (e :: es) [] pos) (rdE g E (eCall fm mas)) := by
  obtain ⟨fd, F, hb⟩ := D.ex
  exact xCallN (pe_call (p := p2) F (hr.mono hk) hg hm D.kp hb .nil hx ha hdb he hpl) hl
theorem gCall0 (D : DefOk X.prog X.w X.K X.mg X.base g k0 fa [] fm) (hr : Room k X.A) (hk : k0 ≤ k) (hg : Gl X x) (hm : X.mg x = some (.ref fa)) (hx : Passes (L2.CX X.prog X.w) X E) (hdb : (x == ("__debug__" : Str)) = false := by decide +kernel) :
    PE X (.Call (.Name x p2) [] [] pos) (rdE g E (eCall fm aNil)) := by
  obtain ⟨fd, F, hb⟩ := D.ex
  exact xCallN (tCall_nil (pe_call0 (p := p2) F (hr.mono hk) hg hm D.kp hb .nil hx hdb)) len0
theorem gMeth {pl : Sem Bool} (Q : ClsOk g ci C ns) (hK : X.K = g.K) (hM : Meth g.K C m fa) (D : DefOk X.prog X.w X.K X.mg X.base g k0 fa ps fm) (hn : m ∉ ns) (hr : Room k X.A) (hk : k0 ≤ k) (hx : Passes (L2.CX X.prog X.w) X E) (ho : PE X o (rdE g E ma)) (ha : PA X (e :: es) (rdA g E mas)) (hl : AM.len mas n) (hps : n + 1 = ps.length)
    (hst : starEach (e :: es) X.env = (false, eval e X.env) :: starEach es X.env := by rfl) (hpl : (backTo pos (starEach es X.env)).any (·.1) = false := by rfl)
    (ht : eval (.Call (.Attribute o m apos) (e :: es) [] pos) X.env = (do
      let ov ← eval o X.env; standAt apos.atName; let (f, first) ← holding [ov] (getMethod ov m pl); callWith pos f first (backTo pos (starEach (e :: es) X.env)) (backToKw pos (keywordEach [] X.env))) := by rfl) :
    PE X (.Call (.Attribute o m apos) (e :: es) [] pos) (rdE g E (eMeth ci fm ma mas)) := by
  obtain ⟨fd, F, hb⟩ := D.ex
  exact xMethN Q.hc hn (pe_meth ho (hK ▸ Q.cl) (hK ▸ hM) F (hr.mono hk) hb .nil hx ha hst hpl ht) hl hps
theorem gMeth0 {pl : Sem Bool} (Q : ClsOk g ci C ns) (hK : X.K = g.K) (hM : Meth g.K C m fa) (D : DefOk X.prog X.w X.K X.mg X.base g k0 fa ps fm) (hn : m ∉ ns) (hr : Room k X.A) (hk : k0 ≤ k) (hx : Passes (L2.CX X.prog X.w) X E) (ho : PE X o (rdE g E ma)) (hps : 1 = ps.length)
    (ht : eval (.Call (.Attribute o m apos) [] [] pos) X.env = (do
      let ov ← eval o X.env; standAt apos.atName; let (f, first) ← holding [ov] (getMethod ov m pl); callWith pos f first (backTo pos (starEach [] X.env)) (backToKw pos (keywordEach [] X.env))) := by rfl) :
    PE X (.Call (.Attribute o m apos) [] [] pos) (rdE g E (eMeth ci fm ma aNil)) := by
  obtain ⟨fd, F, hb⟩ := D.ex
  exact xMethN Q.hc hn (tMeth_nil (pe_meth0 ho (hK ▸ Q.cl) (hK ▸ hM) F (hr.mono hk) hb .nil hx ht) rdE_mono) len0 hps
theorem gMake (Q : ClsOk g ci C ns) (hK : X.K = g.K) (hM : Mk g.K C fa) (D : InitOk X.prog X.w X.K X.mg X.base g ci k0 fa ps xm) (hr : Room k X.A) (hk : k0 + 1 ≤ k) (hg : Gl X x) (hm : X.mg x = some (.ref C)) (hx : Passes (L2.CX X.prog X.w) X E) (ha : PA X (e :: es) (rdA g E mas)) (hl : AM.len mas n) (hps : n + 1 = ps.length) (hdb : (x == ("__debug__" : Str)) = false := by decide +kernel)
    (he : starEach (e :: es) X.env = (false, eval e X.env) :: starEach es X.env := by rfl) (hpl : (backTo pos (starEach es X.env)).any (·.1) = false := by rfl) : PE X (.Call (.Name x p2) (e :: es) [] pos) (rdN g E (nMake ci xm mas)) := by
  obtain ⟨fd, F, hb⟩ := D.ex
  exact yMake Q.hc (pe_make (p := p2) (hK ▸ hM) F (hr.mono hk) hg hm hb .nil hx ha hdb he hpl) hl hps
theorem gMake0 (Q : ClsOk g ci C ns) (hK : X.K = g.K) (hM : Mk g.K C fa) (D : InitOk X.prog X.w X.K X.mg X.base g ci k0 fa ps xm) (hr : Room k X.A) (hk : k0 + 1 ≤ k) (hg : Gl X x) (hm : X.mg x = some (.ref C)) (hx : Passes (L2.CX X.prog X.w) X E) (hps : 1 = ps.length) (hdb : (x == ("__debug__" : Str)) = false := by decide +kernel) :
    PE X (.Call (.Name x p2) [] [] pos) (rdN g E (nMake ci xm aNil)) := by
  obtain ⟨fd, F, hb⟩ := D.ex
  exact yMake Q.hc (tMake_nil (pe_make0 (p := p2) (hK ▸ hM) F (hr.mono hk) hg hm hb .nil hx hdb)) len0 hps
theorem gFld (Q : ClsOk g ci C ns) (hK : X.K = g.K) (hj : ns[j]? = some m) (ho : PE X o (rdE g E ma)) (hb : attributeBase o m X.env (eval o X.env) = eval o X.env := by rfl) : PE X (.Attribute o m pos) (rdE g E (eFld ci j ma)) :=
  xFld hK Q.hc Q.nd hj Q.cl (Q.na _ (List.mem_of_getElem? hj)) (pe_fld ho hb)
theorem gSetFldV {i : Nat} (Q : ClsOk g ci C ns) (hK : X.K = g.K) (hj : ns[j]? = some m) (hv : PE X o (tVar i)) (he : PE X e (rdE g E ma)) (hs : swapsWith e (some (.Attribute o m p2)) pos.line X.env = pure false := by rfl) : PS X (.Assign [.Attribute o m p2] e pos) (rdS g E B (sFldV ci i j ma)) :=
  qFldV hK Q.hc Q.nd hj Q.sm Q.cl (Q.na _ (List.mem_of_getElem? hj)) (ps_fld hv he hs)
theorem gSetFldC (Q : ClsOk g ci C ns) (hK : X.K = g.K) (hj : ns[j]? = some m) (ho : PE X o (rdE g E mb)) (he : PE X e (rdE g E ma)) (hs : swapsWith e (some (.Attribute o m p2)) pos.line X.env = pure false := by rfl) : PS X (.Assign [.Attribute o m p2] e pos) (rdS g E B (sFldC ci j mb ma)) :=
  qFldC hK Q.hc Q.nd hj Q.sm Q.cl (Q.na _ (List.mem_of_getElem? hj)) (ps_fld ho he hs)
theorem gRaise {q : Nat} {t : Str} (R : ExcOk g X.mg q x C) (hK : X.K = g.K) (hc : X.calm = true) (tk : Takes X (fun cls d _ H => E cls d H)) (hg : Gl X x) (hdb : (x == ("__debug__" : Str)) = false := by decide +kernel) : PS X (.Raise (some (.Call (.Name x p2) [.Constant (.str t) j p3] [] pos)) none apos) (rdS g E B (sRaise q)) := by
  obtain ⟨q1, q2, q3, q4⟩ := R.q
  rw [← hK] at q1 q2 q3 q4
  exact qRaise R.hx (ps_raise hc tk (pmk_own PySem.F.excBase_ValueError q1 R.gC q2 (raises_own q3 q4) hg hdb))
/-! ### dicts -/
theorem gGet1 (hr : Room k X.A) (ho : PE X o (rdE g E ma)) (he : PE X e (rdE g E mb)) (m : M1 X o "get" apos e pos) : PE X (.Call (.Attribute o "get" apos) [e] [] pos) (rdE g E (eGet1 ma mb)) := xGet1 (pe_dget1 (ru1 hr) ho he m)
theorem gGet2 (hr : Room k X.A) (ho : PE X o (rdE g E ma)) (he : PE X e (rdE g E mb)) (hf : PE X f (rdE g E mc)) (m : M2 X o "get" apos e f pos) : PE X (.Call (.Attribute o "get" apos) [e, f] [] pos) (rdE g E (eGet2 ma mb mc)) := xGet2 (pe_dget2 (ru1 hr) ho he hf m)
theorem gSetd {nm : NM} (ho : PE X o (rdE g E ma)) (he : PE X e (rdE g E mb)) (hf : PE X f (rdN g E nm)) (m : M2 X o "setdefault" apos e f pos) : PE X (.Call (.Attribute o "setdefault" apos) [e, f] [] pos) (rdE g E (eSetDN ma mb nm)) := xSetDN (pe_dsetd ho he hf m)
theorem gSub (hr : Room k X.A) (hK : X.K = g.K) (ha : PE X a (rdE g E ma)) (hb : PE X b (rdE g E mb)) (hs : PlainIx b := by intro _ _; rfl) : PE X (.Subscript a b pos) (rdE g E (eOp2 oGet ma mb)) := xSub (ru1 hr) hK ha hb hs
theorem gPutDC (hr : Room k X.A) (ho : PE X o (rdE g E mb)) (hi : PE X a (rdE g E mc)) (he : PE X e (rdE g E ma)) (hs : swapsWith e (some (.Subscript o a p2)) pos.line X.env = pure false := by rfl) : PS X (.Assign [.Subscript o a p2] e pos) (rdS g E B (sPutDC mb mc ma)) := qPutDC (ps_dput (ru1 hr) ho hi he hs)
theorem gItems (hK : X.K = g.K) (hc : X.calm = true) (he : PE X e (rdE g E ma)) (hg : Gl X "list") (hm : X.mg "list" = none) (hbase : attributeBase e "items" X.env (eval e X.env) = eval e X.env := by rfl) (hline : (apos.endLine == p3.line) = true := by rfl)
    (hs : starEach [.Call (.Attribute e "items" apos) [] [] p3] X.env = (false, eval (.Call (.Attribute e "items" apos) [] [] p3) X.env) :: starEach [] X.env := by rfl) :
    PE X (.Call (.Name "list" p2) [.Call (.Attribute e "items" apos) [] [] p3] [] pos) (rdN g E (nItems ma)) := yItems (LiI.pe_listItems (p := p2) hc he hg hm (by decide +kernel) hbase hline hs)
/-! ### walks -/
variable {tg : Expr} {it : IM} {tgm : Tg} {tr : TG} {mt : TM} {elts : List Expr} {kk : Nat} {tpos : Pos}
theorem wE (hK : X.K = g.K) (ha : PE X e (rdE g E ma)) : PI X tg e (rdI g E (iE ma)) := piE hK ha
theorem aT1 (ha : PE X a (rdE g E ma)) (na : starEach [a] X.env = [(false, eval a X.env)] := by rfl) : PA X [a] (tCons (rdE g E ma) tNil) := pa_cons ha pa_nil na
theorem aT2 (ha : PE X a (rdE g E ma)) (hb : PE X b (rdE g E mb)) (na : starEach [a, b] X.env = (false, eval a X.env) :: starEach [b] X.env := by rfl) (nb : starEach [b] X.env = [(false, eval b X.env)] := by rfl) : PA X [a, b] (tCons (rdE g E ma) (tCons (rdE g E mb) tNil)) := pa_cons ha (pa_cons hb pa_nil nb) na
theorem wR1 (hg : Gl X "range") (hm : X.mg "range" = none) (ha : PE X a (rdE g E ma)) (hs : starEach [a] X.env = [(false, eval a X.env)] := by rfl) : PI X tg (.Call (.Name "range" p2) [a] [] pos) (rdI g E (Mir.iRng1 ma)) := piR1 (pi_range1 hg hm (aT1 ha hs) hs)
theorem wR2 (hg : Gl X "range") (hm : X.mg "range" = none) (ha : PE X a (rdE g E ma)) (hb : PE X b (rdE g E mb)) (hs : starEach [a, b] X.env = [(false, eval a X.env), (false, eval b X.env)] := by rfl) (hs1 : starEach [a, b] X.env = (false, eval a X.env) :: starEach [b] X.env := by rfl) (hs2 : starEach [b] X.env = [(false, eval b X.env)] := by rfl) :
    PI X tg (.Call (.Name "range" p2) [a, b] [] pos) (rdI g E (Mir.iRng2 ma mb)) := piR2 (pi_range2 hg hm (aT2 ha hb hs1 hs2) hs hs2)
theorem wEn (hK : X.K = g.K) (hg : Gl X "enumerate") (hm : X.mg "enumerate" = none) (ha : PE X a (rdE g E ma)) (hs : starEach [a] X.env = [(false, eval a X.env)] := by rfl) : PI X (.Tuple elts kk tpos) (.Call (.Name "enumerate" p2) [a] [] pos) (rdI g E (Mir.iEnum ma)) := piEn hK (piEnumA hg hm (aT1 ha hs) hs)
theorem wZip (hK : X.K = g.K) (hg : Gl X "zip") (hm : X.mg "zip" = none) (ha : PE X a (rdE g E ma)) (hb : PE X b (rdE g E mb)) (hs1 : starEach [a, b] X.env = (false, eval a X.env) :: starEach [b] X.env := by rfl) (hs2 : starEach [b] X.env = [(false, eval b X.env)] := by rfl) (hpl : (backTo pos (starEach [b] X.env)).any (·.1) = false := by rfl) :
    PI X (.Tuple elts kk tpos) (.Call (.Name "zip" p2) [a, b] [] pos) (rdI g E (Mir.iZip ma mb)) := piZip hK (RZ.pi_zipA hg hm (aT2 ha hb hs1 hs2) hs1 hpl)
/-! ### comprehensions -/
variable {E' : XK} {elt iter c0 : Expr} {scope : Scope} {own : List (Str × Nat)}
theorem yLc0 (hc : X.calm = true) (hN : X.N.Nodup) (hi : PI X tg iter (rdI g E it)) (ok : BlkOk X.N X.env.scope scope own) (hv : ∀ i ∈ tgm.slots, i ∈ own.map (·.2)) (hT : TgS g tr tgm)
    (hg : ∀ (s : Shared) (H : Hp) (C : Addr) (cl : List (Str × Addr)) (fp : List Addr), PG (X.blk s H scope (compEnvC scope cl C X.env) fp) tg tr)
    (he : ∀ (s : Shared) (H : Hp) (C : Addr) (cl : List (Str × Addr)) (fp : List Addr), PE (X.blk s H scope (compEnvC scope cl C X.env) fp) elt (rdE g E' ma)) (hs : ∀ x, foldedSetIterable iter X.env x = pure x := by intro _; rfl) :
    PE X (.ListComp elt [⟨tg, iter, [], 0⟩] scope pos) (rdN g E (nLc it tgm Mir.tYes ma (own.map (·.2)))) := yLc (E' := E') (tt := L2.tYes) hv hT (fun s H Q h => by
      obtain ⟨r, st, F, mu, re, h⟩ := h
      exact h true H F mu (.refl _ _ _) re rfl) (pe_lc hc hN hi ok hg (fun _ _ _ _ _ => pts_nil) he hs)
theorem yLc1 (hc : X.calm = true) (hN : X.N.Nodup) (hi : PI X tg iter (rdI g E it)) (ok : BlkOk X.N X.env.scope scope own) (hv : ∀ i ∈ tgm.slots, i ∈ own.map (·.2)) (hT : TgS g tr tgm)
    (hg : ∀ (s : Shared) (H : Hp) (C : Addr) (cl : List (Str × Addr)) (fp : List Addr), PG (X.blk s H scope (compEnvC scope cl C X.env) fp) tg tr)
    (ht : ∀ (s : Shared) (H : Hp) (C : Addr) (cl : List (Str × Addr)) (fp : List Addr), PT (X.blk s H scope (compEnvC scope cl C X.env) fp) c0 (rdT g E' mt))
    (he : ∀ (s : Shared) (H : Hp) (C : Addr) (cl : List (Str × Addr)) (fp : List Addr), PE (X.blk s H scope (compEnvC scope cl C X.env) fp) elt (rdE g E' ma)) (hs : ∀ x, foldedSetIterable iter X.env x = pure x := by intro _; rfl) :
    PE X (.ListComp elt [⟨tg, iter, [c0], 0⟩] scope pos) (rdN g E (nLc it tgm mt ma (own.map (·.2)))) := yLc (E' := E') hv hT (fun s H Q h => h) (pe_lc hc hN hi ok hg (fun s H C cl fp => pts_one (ht s H C cl fp)) he hs)
/-! ### name = [..] on one line -/
theorem qSetG {i : Nat} (h : PS X sa (tAsg (rdE g E ma) (gName i))) : PS X sa (rdS g E B (sSet i ma)) := PS.imp h fun D s H h => by
  obtain ⟨r, st, F, mu, rb, h⟩ := h
  refine ⟨r, st, F, mu, rb.re, sbind rb h fun y st' v H' F' mu' _ e rb' rp h' => ?_⟩
  cases y with
  | bor c => exact h'.elim
  | val d =>
    dsimp only at h'
    by_cases hl : i < r.length
    · rw [if_pos hl] at h'
      exact h' _ H' F' mu' (rb'.setV rp hl) (.refl _ _)
    · rw [if_neg hl] at h'
      exact h'.elim
theorem qSetLc0 {i : Nat} {y : Str} (hc : X.calm = true) (hN : X.N.Nodup) (hy : X.N[i]? = some y) (hyl : X.env.scope.names.lookup y = some .local) (hsw : swapsWith (.ListComp elt [⟨tg, iter, [], 0⟩] scope pos) (some (.Name y p2)) p3.line X.env = pure true)
    (hi : PI X tg iter (rdI g E it)) (ok : BlkOk X.N X.env.scope scope own) (hv : ∀ i ∈ tgm.slots, i ∈ own.map (·.2)) (hT : TgS g tr tgm)
    (hg : ∀ (s : Shared) (H : Hp) (C : Addr) (cl : List (Str × Addr)) (fp : List Addr), PG (X.blk s H scope (compEnvC scope cl C X.env) fp) tg tr)
    (he : ∀ (s : Shared) (H : Hp) (C : Addr) (cl : List (Str × Addr)) (fp : List Addr), PE (X.blk s H scope (compEnvC scope cl C X.env) fp) elt (rdE g E' ma)) (hs : ∀ x, foldedSetIterable iter X.env x = pure x := by intro _; rfl) :
    PS X (.Assign [.Name y p2] (.ListComp elt [⟨tg, iter, [], 0⟩] scope pos) p3) (rdS g E B (sSet i (eFrz (nLc it tgm Mir.tYes ma (own.map (·.2)))))) :=
  qSetG (PS.imp (ps_setLc hc hN hy hyl hsw hi ok hg (fun _ _ _ _ _ => pts_nil) he hs) fun D s H h => yLcT (E' := E') (tt := L2.tYes) hv hT (fun s H Q h => by
      obtain ⟨r, st, F, mu, re, h⟩ := h
      exact h true H F mu (.refl _ _ _) re rfl) _ _ _ (xFrzT _ _ _ h))
end
end Mir
/-! E15: statements as a printed walk names them; told(lambda: e). -/
namespace Mir
open PySem PySem.Spec PyProof.Rows L2
section
variable {X : Cx} {g : G} {E : XK} {B : Bs} {pos p2 p3 apos : Pos} {a b c e f o : Expr} {ma mb mc : EM} {es : List Expr} {mas : AM} {sa : Stmt} {k k0 n i j : Nat} {x y m : Str}
theorem gAppV (hv : PE X o (tVar i)) (ha : PE X a (rdE g E ma)) (hbase : attributeBase o "append" X.env (eval o X.env) = eval o X.env := by rfl)
    (hfew : ((backTo pos (starEach [a] X.env)).all (fun x => !x.1) && (backToKw pos (keywordEach [] X.env)).all (fun x => x.1.isSome) && decide (([a] : List Expr).length + ([] : List Keyword).length + (if ([] : List Keyword).isEmpty then 0 else 1) < 30)) = true := by rfl)
    (hline : (apos.endLine == pos.line) = true := by rfl) (hs : starEach [a] X.env = (false, eval a X.env) :: starEach [] X.env := by rfl) (hplain : (backTo pos (starEach [] X.env)).any (·.1) = false := by rfl) (hw : swapsWith (.Call (.Attribute o "append" apos) [a] [] pos) none p3.line X.env = pure false := by rfl) :
    PS X (.Expr (.Call (.Attribute o "append" apos) [a] [] pos) p3) (rdS g E B (sAppV i ma)) :=
  qAppV (he := pa_cons ha pa_nil hs) (ps_expr (pe_bm PySem.F.plainAttrs_list PySem.F.slot_list_append PySem.F.type_list_append mt_append hv (pa_cons ha pa_nil hs) hbase hfew hline hs hplain) hw)
theorem gAppC (hv : PE X o (rdE g E mb)) (ha : PE X a (rdE g E ma)) (hbase : attributeBase o "append" X.env (eval o X.env) = eval o X.env := by rfl)
    (hfew : ((backTo pos (starEach [a] X.env)).all (fun x => !x.1) && (backToKw pos (keywordEach [] X.env)).all (fun x => x.1.isSome) && decide (([a] : List Expr).length + ([] : List Keyword).length + (if ([] : List Keyword).isEmpty then 0 else 1) < 30)) = true := by rfl)
    (hline : (apos.endLine == pos.line) = true := by rfl) (hs : starEach [a] X.env = (false, eval a X.env) :: starEach [] X.env := by rfl) (hplain : (backTo pos (starEach [] X.env)).any (·.1) = false := by rfl) (hw : swapsWith (.Call (.Attribute o "append" apos) [a] [] pos) none p3.line X.env = pure false := by rfl) :
    PS X (.Expr (.Call (.Attribute o "append" apos) [a] [] pos) p3) (rdS g E B (sAppC mb ma)) :=
  qAppC (ps_expr (pe_bm PySem.F.plainAttrs_list PySem.F.slot_list_append PySem.F.type_list_append mt_append hv (pa_cons ha pa_nil hs) hbase hfew hline hs hplain) hw)
theorem gAug {op : Operator} {ti : TIp} {f : Op2} (ho : PIp X op ti) (hs : OpS g ti f) (hN : X.N.Nodup) (hi : X.N[i]? = some x) (hx : Loc X.env.scope x) (he : PE X e (rdE g E ma)) (hf : X.fn x = true ∨ X.env.scope.names.lookup x = some .local := by first | exact .inl rfl | exact .inr rfl | assumption) :
    PS X (.AugAssign (.Name x p2) op e pos) (rdS g E B (sAug i f ma)) := qAug (x := x) (p2 := p2) (op := op) hs (ps_aug hN hi hx he ho hf)
theorem iAdd : PIp X .Add (fun x y H Q => (∃ i j, x = V.int i ∧ y = V.int j ∧ Q (V.int (i + j)) H) ∨ (∃ i j, x = V.str i ∧ y = V.str j ∧ i.length + j.length ≤ sizeLine ∧ Q (V.str (i ++ j)) H)) := iop_add.or iop_add_str
theorem iMul : PIp X .Mult (rI CMul fun i j => .int (i * j)) := iop_mul
theorem iSub : PIp X .Sub (rI0 fun i j => .int (i - j)) := iop_sub
theorem gPar {px py pt pt2 : Pos} {kt k2 : Nat} {u v : Src} (hc : X.calm = true) (hN : X.N.Nodup) (hi : X.N[i]? = some x) (hj : X.N[j]? = some y) (hij : i ≠ j) (hx : X.env.scope.names.lookup x = some .local) (hy : X.env.scope.names.lookup y = some .local) (ha : PE X a (rdSrc g E u)) (hb : PE X b (rdSrc g E v))
    (na : starEach [a, b] X.env = (false, eval a X.env) :: starEach [b] X.env := by rfl) (nb : starEach [b] X.env = [(false, eval b X.env)] := by rfl) (hw : swappedStores [.Tuple [.Name x px, .Name y py] kt pt] (.Tuple [a, b] k2 pt2) X.env = pure (some [x, y]) := by rfl)
    (hs : swapsWithSole [.Tuple [.Name x px, .Name y py] kt pt] (.Tuple [a, b] k2 pt2) pos.line X.env = pure false := by rfl) :
    PS X (.Assign [.Tuple [.Name x px, .Name y py] kt pt] (.Tuple [a, b] k2 pt2) pos) (rdS g E B (sPar i j u v)) := qPar hij (ps_par hc hN hi hj hij hx hy (pa_cons ha (pa_cons hb pa_nil nb) na) hw hs)
theorem gUnp {tg : Tg} {tr : TG} {tgt : Expr} (he : PE X e (rdE g E ma)) (hg : PG X tgt tr) (hT : TgS g tr tg) (hs : swapsWithSole [tgt] e pos.line X.env = pure false := by rfl) (hw : swappedStores [tgt] e X.env = pure none := by rfl) (h1 : (assignEach [tgt] X.env).map (·.2) = [assign tgt X.env] := by rfl) : PS X (.Assign [tgt] e pos) (rdS g E B (sUnp tg ma)) := qUnp he hg hT (ps_asg he hg (hs := hs) (hw := hw) (h1 := h1))
/-- told(lambda: e) -/
theorem gTold {E : XK} {a e : Str} {gA CS c P : Addr} {fd : FuncData} {pg : Arguments} {sg : Scope} {ret : Tx} {ret' : Str} {er : List Nat} {q1 q2 q3 q4 q5 q6 q7 q8 : Pos} {Ng : List Str} {params : Arguments} {body : Expr} {scope : Scope} {lpos : Pos}
    (F : FunD X.K x x pg [.Try [.Return (some (.Call (.Name a q1) [] [] q2)) q3] [.ExceptHandler (some (.Name e q4)) none [.Return (some (.Constant (.str ret') j q5)) q6] q7] [] [] q8] sg [] [] gA fd) (hret : ret' = toS ret) (hb : Binds X.K fd [a] []) (Sg : FnScope Ng [a] sg) (hNg : Ng[0]? = some a) (hva : Vis sg a)
    (hge : sg.names.lookup e = some .globalImplicit) (hme : X.mg e = some (.ref CS)) (h0 : ∀ f : Addr, (L2.start Ng [V.ref f])[0]? = some (some (V.ref f))) (hK : X.K = g.K) (hx : Caught g CS er)
    (hg : Gl X x) (hm : X.mg x = some (.ref gA)) (TB : LamX.TabB X.base X.mg c P) (hcode : X.env.code = .ref c) (hmT : (P, X.env.qual ++ "<lambda>") ∈ g.tb) (hu : ∀ p ∈ g.tb, p.1 = P → p.2 = X.env.qual ++ "<lambda>") (hr : Room (k + 2) X.A) (L : LamX.LamS X.env.scope scope) (hdef : defaultsOf params X.env = ([], []))
    (hbind : ∀ (q : Str) (cl : List (Str × Addr)) (pm cv ctv : Value), bindArgs (PySem.W.kla_fn "<lambda>" q params body scope cl pm cv ctv) ⟨[], []⟩ = pure [])
    (hbody : ∀ (A : Around) (outer : List PySem.Env) (s : Shared) (H : Hp) (E : XK) (f c' : Addr), Room k (A.deeper (LamX.lamEnv X scope s.heap.objs.size f c')) → PE (LamX.lamCx X A outer s H E scope f c') body (rdE g E ma))
    (hdb : (x == ("__debug__" : Str)) = false := by decide +kernel) (hd : (a == ("__debug__" : Str)) = false := by decide +kernel) (hcd : (a == ("__classdict__" : Str)) = false := by decide +kernel) (hde : (e == ("__debug__" : Str)) = false := by decide +kernel) :
    PE X (.Call (.Name x p2) [.Lambda params body scope lpos] [] pos) (rdE g E (eTold er ret ma)) := by
  obtain ⟨oc, od, dV, kV, doc, pm, an, cdv, ct, osl, rfl, lk, hcg, _, _⟩ := F.ex
  subst hret
  refine xTold hx ?_
  rw [← hK]
  exact LamX.pe_lamcall (p := p2) (T := g.tb) (TT := LamX.TTold X.K CS (toS ret)) (t := fun E => rdE g E ma) hg hm F.kp lk hcg hb Sg hNg hva (LamX.told_gives hge hme hde h0) TB hcode hmT hu hr L hdef hbind hbody hdb hd hcd
theorem aK (ha : PE X a (rdE g E ma)) (hr : PA X es (rdA g E mas)) (na : starEach (a :: es) X.env = (false, eval a X.env) :: starEach es X.env := by rfl) : PA X (a :: es) (rdA g E (aCons ma mas)) := aC ha hr (pa_cons ha hr na)
theorem gInt {z : Int} (h : ∃ t, X.mg x = some (.int z t)) (hg : Gl X x) (hdb : (x == ("__debug__" : Str)) = false := by decide +kernel) : PE X (.Name x pos) (rdE g E (eC (.int z))) := by
  obtain ⟨t, h⟩ := h
  exact dConst (pe_glob (v := .int z) hg h ⟨t, rfl⟩ hdb) fun _ _ => by simp only [RepV]
theorem gPutL (hK : X.K = g.K) (ho : PE X o (rdE g E mb)) (hi : PE X a (rdE g E mc)) (he : PE X e (rdE g E ma)) (hs : swapsWithSole [.Subscript o a p2] e pos.line X.env = pure false := by rfl) (hw : swappedStores [.Subscript o a p2] e X.env = pure none := by rfl) (h1 : (assignEach [.Subscript o a p2] X.env).map (·.2) = [assign (.Subscript o a p2) X.env] := by rfl)
    (hv : ∀ v, assign (.Subscript o a p2) X.env v = (do
      let ov ← holding [v] (eval o X.env); let iv ← holding [v, ov] (eval a X.env); standAt p2; holding [v, ov, iv] (setItem ov iv v); release [v, ov, iv] []) := by intro _; rfl) : PS X (.Assign [.Subscript o a p2] e pos) (rdS g E B (sPutL mb mc ma)) :=
  qPutL (ps_asg he (pg_sub ho hi set_list hv) (hs := hs) (hw := hw) (h1 := h1))
theorem gPutDV (hr : Room k X.A) (hv : PE X o (tVar i)) (hi : PE X a (rdE g E mc)) (he : PE X e (rdE g E ma)) (hs : swapsWith e (some (.Subscript o a p2)) pos.line X.env = pure false := by rfl) : PS X (.Assign [.Subscript o a p2] e pos) (rdS g E B (sPutDV i mc ma)) := qPutDV (ps_dput (ru1 hr) hv hi he hs)
theorem cLeLt (ha : PE X a (rdE g E ma)) (hb : PE X b (rdE g E mb)) (hc : PE X c (rdE g E mc)) (hm : lastMarks [.LtE, .Lt] [b, c] = false := by with_unfolding_all rfl) : PE X (.Compare a [.LtE, .Lt] [b, c] pos) (rdE g E (eChain oLe oLt ma mb mc)) := dChain op_le sLe op_lt sLt ha hb hc (pe_chain op_le op_lt ha hb hc hm)
theorem tLeLt (ha : PE X a (rdE g E ma)) (hb : PE X b (rdE g E mb)) (hc : PE X c (rdE g E mc)) (hm : lastMarks [.LtE, .Lt] [b, c] = false := by with_unfolding_all rfl) : PT X (.Compare a [.LtE, .Lt] [b, c] pos) (rdT g E (tE (eChain oLe oLt ma mb mc))) := dTchain op_le sLe op_lt sLt ha hb hc (pt_chain op_le op_lt ha hb hc hm)
end
end Mir
/-! E16: lambdas kept in a list. -/
namespace Mir
open PySem PySem.Spec PyProof.Rows L2
/-- the one object at f is o -/
def FnO (f : Addr) (o : Obj) : HO := .ext fun h => h.get? f = some o
theorem fnO_ok {P : Program} {w : World} {H : Hp} {h : Heap} {f : Addr} {o : Obj} (e : h.get? f = some o) : ObjOk P w H h f (FnO f o) := ⟨e, ⟨o, e⟩, fun _ _ a k => k o a⟩
abbrev lamO (X : Cx) (params : Arguments) (body : Expr) (scope : Scope) (pm : Value) (c' : Addr) (ctv : Value) : Obj := PySem.W.kla_obj "<lambda>" (X.env.qual ++ "<lambda>") params body scope (cloFrom X.env.cells scope.names []) pm c' ctv
section
variable {X : Cx} {pins : List (Addr × Obj)} {σ : L2.St} {H : Hp} {s : Shared} {T : List (Addr × Str)} {c tp : Addr} {params : Arguments} {body : Expr} {scope : Scope} {pos : Pos}
/-- a lambda is made, its object known from now on -/
theorem lamNew {E Q : Value → Shared → Prop} (I : Inv X pins σ H s) (B0 : LamX.TabB X.base X.mg c tp) (ec : X.env.code = .ref c) (eT : (tp, X.env.qual ++ "<lambda>") ∈ T) (oneT : ∀ p ∈ T, p.1 = tp → p.2 = X.env.qual ++ "<lambda>")
    (tabs : LamX.Tabs T H) (nodef : defaultsOf params X.env = ([], [])) (caps : ∀ y ∈ scope.names, y.2 = .free → ∃ z, X.env.cells.lookup y.1 = some z)
    (goal : ∀ (f c' : Addr) (pm ctv : Value) (H1 : Hp) (s1 : Shared), Inv X pins σ (upd H1 f (FnO f (lamO X params body scope pm c' ctv))) s1 → LamX.ExtN H H1 → LamX.Tabs T H1 → H1 f = none → f ∉ frs X.stack → H1 c' = some (LamX.CodeO c' (X.env.qual ++ "<lambda>")) → Q (.ref f) s1) :
    wpAny (model X.prog X.w) X.A (eval (.Lambda params body scope pos) X.env) Q E s := by
  obtain ⟨tb, at_, tok, among⟩ := tabs _ eT
  have bi := B0.bm.keeps I.bk
  have raw : s.heap.get? tp = some { cls := .none, data := .fields tb } := I.hok tp _ at_
  have nofr : ∀ f, s.heap.objs.size ≤ f → f ∉ frs X.stack := fun f big z => (List.mem_cons.mp (I.stkSub _ z)).elim
    (fun e => Nat.lt_irrefl _ (Nat.lt_of_lt_of_le (e ▸ I.lt) big)) (I.nofs big)
  refine PySem.W.kla_eval nodef ?_
  cases look : codeAmong pos tb.toList with
  | some cv =>
    obtain ⟨c', rfl, isC⟩ := among pos cv look
    refine PySem.W.kla_makeFunctionHit (mg := X.mg) (c := c) (P := tp) (ps := tb) (closure_ok caps) I.ok.glob (I.mod.glob.keeps I.bk) ec (B0.code.keeps I.bk) raw tok look bi fun ctv h' tk old big => ?_
    have J : Inv X pins σ H { s with heap := h' } := I.kept (t' := s.toks) old
    have nf : H h'.objs.size = none := J.hok.fresh (Nat.le_refl _)
    exact goal _ c' _ ctv H _ (J.laid (t' := tk) (h' := h'.push _) (fun _ _ e => Heap.get?_push_of_some _ e) (Nat.le_refl _) (fnO_ok (Heap.get?_push_size _ rfl))) (.refl H) tabs nf (nofr _ big) isC
  | none =>
    refine PySem.W.kla_makeFunction (mg := X.mg) (c := c) (P := tp) (ps := tb) (closure_ok caps) I.ok.glob (I.mod.glob.keeps I.bk) ec (B0.code.keeps I.bk) raw tok look B0.gP bi fun c' ctv h' tk but new small rec wr => ?_
    obtain ⟨c2, oc, vs, t, e0, oc1, oc2, oc3⟩ := rec
    cases e0
    have nC : H c' = none := I.hok.fresh new
    have big : s.heap.objs.size ≤ h'.objs.size := Nat.le_trans new (Nat.le_of_lt small)
    have J := LamX.inv_table (t' := tk) (h' := h') (c := c') (more := #[rawInt pos.line, rawInt pos.col, .ref c']) (q := X.env.qual ++ "<lambda>") I at_ (fun b o n e => but b o n e) wr new ⟨oc, vs, t, oc1, oc2, oc3⟩
    have nf := J.hok.fresh (a := h'.objs.size) (Nat.le_refl _)
    have up : LamX.ExtN H (upd (upd H tp (.tbl (tb ++ #[rawInt pos.line, rawInt pos.col, .ref c']))) c' (LamX.CodeO c' (X.env.qual ++ "<lambda>"))) := fun b o e n => by
      have away : b ≠ tp := fun z => by
        rw [z] at e
        exact n tb (Option.some.inj (e.symm.trans at_))
      exact (upd_ne (ne_of_none e nC)).trans ((upd_ne away).trans e)
    refine goal _ c' _ ctv _ _ (J.laid (t' := tk) (h' := h'.push _) (fun _ _ e => Heap.get?_push_of_some _ e) (Nat.le_refl _) (fnO_ok (Heap.get?_push_size _ rfl))) up (fun p hp => ?_) nf (nofr _ big) upd_same
    by_cases eb : p.1 = tp
    · have eL : (tb ++ #[rawInt pos.line, rawInt pos.col, .ref c']).toList = tb.toList ++ [rawInt pos.line, rawInt pos.col, .ref c'] := by simp
      rw [oneT p hp eb, eb]
      refine ⟨_, (upd_ne (ne_of_none at_ nC)).trans upd_same, eL ▸ PySem.TriplesOk_snoc _ _ _ _ tok, fun p' cv found => ?_⟩
      rw [eL] at found
      rcases LamX.among_app _ tok found with z | z
      · obtain ⟨d, d1, d2⟩ := among p' cv z
        exact ⟨d, d1, up _ _ d2 LamX.codeO_ne⟩
      · exact ⟨c', z, upd_same⟩
    · obtain ⟨t2, u1, u2, u3⟩ := tabs p hp
      refine ⟨t2, (upd_ne (ne_of_none u1 nC)).trans ((upd_ne eb).trans u1), u2, fun p' cv found => ?_⟩
      obtain ⟨d, d1, d2⟩ := u3 p' cv found
      exact ⟨d, d1, up _ _ d2 LamX.codeO_ne⟩
/-! ### known objects out of the abstract heap, held as pins -/
def off (H : Hp) (fs : List (Addr × Obj)) : Hp := fun b => if b ∈ fs.map (·.1) then none else H b
theorem off_in {fs : List (Addr × Obj)} {b : Addr} (h : b ∈ fs.map (·.1)) : off H fs b = none := by unfold off; rw [if_pos h]
theorem off_out {fs : List (Addr × Obj)} {b : Addr} (h : b ∉ fs.map (·.1)) : off H fs b = H b := by unfold off; rw [if_neg h]
def Known (H : Hp) (fs : List (Addr × Obj)) : Prop := ∀ p ∈ fs, H p.1 = some (FnO p.1 p.2) ∧ ∀ v, p.2.data ≠ .cell v
theorem Known.not {fs : List (Addr × Obj)} (k : Known H fs) {b : Addr} {o : HO} (h : H b = some o) (n : ∀ φ, o ≠ .ext φ) : b ∉ fs.map (·.1) := fun z => by
  obtain ⟨p, hp, rfl⟩ := List.mem_map.mp z
  rw [(k p hp).1] at h
  exact n _ (Option.some.inj h).symm
theorem Known.off {fs : List (Addr × Obj)} (k : Known H fs) {b : Addr} {o : HO} (h : H b = some o) (n : ∀ φ, o ≠ .ext φ) : off H fs b = some o := (off_out (k.not h n)).trans h
theorem inv_off {fs : List (Addr × Obj)} (I : Inv X pins σ H s) (k : Known H fs) : Inv (X.tr fs X.xe) pins σ (off H fs) s := by
  have dn : ∀ {b : Addr}, H b = none → off H fs b = none := fun {b} e => by
    unfold off
    split
    · rfl
    · exact e
  have held : ∀ {b : Addr} {o : HO}, off H fs b = some o → H b = some o := fun {b o} e => by
    unfold off at e
    split at e
    · cases e
    · exact e
  refine ⟨I.ok.toTry fs X.xe, I.os, I.bare, ⟨I.base.keep, I.base.slot, fun b o e n hx => dn (I.base.free b o e n hx), I.base.there, fun b xs e => k.off (I.base.tups b xs e) (fun _ z => by cases z), fun b o u e => k.off (I.base.frzs b o u e) (fun _ z => by cases z), fun b ps e => ?_⟩,
    I.loc, I.cell, dn I.free, fun x c e => dn (I.freeC x c e), fun p hp => ?_, fun b o e => ?_, I.len⟩
  · obtain ⟨more, z⟩ := I.base.tbls b ps e
    exact ⟨more, k.off z (fun _ z => by cases z)⟩
  · rcases List.mem_append.mp hp with hp | hp
    · obtain ⟨k1, k2⟩ := k p hp
      obtain ⟨e, _⟩ := I.hok _ _ k1
      refine ⟨e, off_in (List.mem_map.mpr ⟨p, hp, rfl⟩), fun z => ?_, fun z => ?_, k2⟩
      · have z : p.1 = X.env.locals := z
        rw [z, I.free] at k1
        cases k1
      · obtain ⟨_, o, ho, _⟩ := I.ok.funs.mem z
        rw [I.base.free _ o ho (I.ok.frf _ z) fun q => I.ok.exfs _ q z] at k1
        cases k1
    · obtain ⟨e, n, r⟩ := I.pin p (List.mem_append_right _ hp)
      exact ⟨e, dn n, r⟩
  · exact (I.hok b o (held e)).stay (fun _ _ _ e => e) (fun d e => k.off e (fun _ z => by cases z)) fun d xs e => k.off e (fun _ z => by cases z)
end
end Mir
/-! E17: a list comprehension whose test knows the def's own frame. -/
namespace Mir
open PySem PySem.Spec PyProof.Rows L2
section
variable {X : Cx}
/-- from the block's context back to the def's -/
def Back (X Y : Cx) (pins : List (Addr × Obj)) (σ : L2.St) : Prop := ∀ (pn : List (Addr × Obj)) (σ' : L2.St) (H' : Hp) (s' : Shared), Inv Y pn σ' H' s' → Inv X pins σ H' s'
theorem lcKnow {elt tg iter : Expr} {ifs : List Expr} {scope : Scope} {own : List (Str × Nat)} {pos : Pos} {wi : TI} {g : TG} {tt : L2.St → TT} {te : TE} (calm : X.calm = true) (nod : X.N.Nodup) (hi : PI X tg iter wi) (ok : BlkOk X.N X.env.scope scope own)
    (hg : ∀ (s3 : Shared) (H3 : Hp) (C : Addr) (cl : List (Str × Addr)) (fp : List Addr), PG (X.blk s3 H3 scope (compEnvC scope cl C X.env) fp) tg g)
    (ht : ∀ (pins : List (Addr × Obj)) (σ : L2.St) (s3 : Shared) (H3 : Hp) (C : Addr) (cl : List (Str × Addr)) (fp : List Addr), Back X (X.blk s3 H3 scope (compEnvC scope cl C X.env) fp) pins σ → PTs (X.blk s3 H3 scope (compEnvC scope cl C X.env) fp) ifs (tt σ))
    (he : ∀ (s3 : Shared) (H3 : Hp) (C : Addr) (cl : List (Str × Addr)) (fp : List Addr), PE (X.blk s3 H3 scope (compEnvC scope cl C X.env) fp) elt te) (hs : ∀ x, foldedSetIterable iter X.env x = pure x := by intro _; rfl) :
    PE X (.ListComp elt [⟨tg, iter, ifs, 0⟩] scope pos) (fun σ H Q => tLc wi g (tt σ) te (own.map (·.2)) σ H Q) := by
  refine ⟨fun pins s σ H Q I h => ?_⟩
  have caps : ∀ y ∈ scope.names, y.2 = .free → ∃ c, X.env.cells.lookup y.1 = some c := fun y hy e =>
    (ok.free y hy e).elim (fun k => I.ok.has _ (.inl k)) fun k => I.ok.has _ (.inr k)
  rw [eval_ListComp]
  refine wpAny_comprehension_free rfl hs (closure_ok caps) ok.kind (fun y hy e => (ok.uniq y hy).trans (congrArg some e)) (thn (hi.run pins s σ H _ I h) fun xv s1 hx => thn hx fun itv s2 h2 => ?_)
  obtain ⟨it, fp, tn, J, H2, rfl, I2, T, t2, f2, q⟩ := h2
  refine wpAny_newObj_type (newEnv_comp ?_) (by show 0 ≤ sizeLine; decide)
  have hDn : H2 s2.heap.objs.size = none := I2.hok.fresh (Nat.le_refl _)
  obtain ⟨W, ⟨m0, w0⟩, turn⟩ := q s2.heap.objs.size hDn
  generalize eD : s2.heap.objs.size = D at hDn turn w0
  generalize e3 : ({ s2 with heap := s2.heap.push { cls := .type "list", data := .seq ([] : List Value).toArray } } : Shared) = s3
  have I3 : Inv X pins σ (upd H2 D (.lst [])) s3 := by
    subst e3
    subst eD
    exact I2.laid (t' := s2.toks) (fun _ _ e => Heap.get?_push_of_some _ e) (Nat.le_refl _) ⟨Nat.zero_le _, [], 0, .nil, Heap.get?_push_size _ rfl⟩
  have grow : ∀ (b : Addr) (o : Obj), s2.heap.get? b = some o → s3.heap.get? b = some o := fun b o e => by
    subst e3
    exact Heap.get?_push_of_some _ e
  have below : ∀ b ∈ fp, b < D ∧ b < s3.heap.objs.size := fun b hb => by
    obtain ⟨o, e, _⟩ := T.obj _ _ t2 b hb
    exact ⟨eD ▸ Heap.lt_size e, Heap.lt_size (grow _ _ e)⟩
  have f3 : ∀ b ∈ fp, FpOk X pins (upd H2 D (.lst [])) b ∧ b < s3.heap.objs.size := fun b hb =>
    ⟨⟨(upd_ne (Nat.ne_of_lt (below b hb).1)).trans (f2 b hb).1, (f2 b hb).2⟩, (below b hb).2⟩
  have t3 : tn 0 s3.heap := T.keep _ _ _ t2 fun b _ o e => grow b o e
  have I4 := block_start I3 ok nod f3
  have free3 : ∀ b ∈ fp, (upd H2 D (.lst [])) b = none := fun b hb => (f3 b hb).1.1
  generalize hH3 : upd H2 D (.lst []) = H3 at I3 I4 w0 f3 free3
  have frame : ∀ b ∈ fp, (b ∈ X.ex ∨ X.s_0.heap.objs.size ≤ b) ∧ b ≠ X.env.locals ∧ (∀ x c, X.env.cells.lookup x = some c → c ≠ b) ∧ ∀ p ∈ X.pn ++ pins, p.1 ≠ b := fun b hb =>
    ⟨(f3 b hb).1.2.2.2.1, (f3 b hb).1.2.1, (f3 b hb).1.2.2.2.2.1, (f3 b hb).1.2.2.2.2.2⟩
  generalize eC : s3.heap.objs.size = C at I4
  generalize ecl : cellsFrom (C + 1) scope.names (cloFrom X.env.cells scope.names []) = cl at I4
  have back : Back X (X.blk s3 H3 scope (compEnvC scope cl C X.env) fp) pins σ := fun pn σ' H' s' J => I3.call' (ch := fp) J.os J.base J.hok J.bare frame
  have pg := hg s3 H3 C cl fp
  have pt := ht pins σ s3 H3 C cl fp back
  have pe := he s3 H3 C cl fp
  show codeAny _ _ (.compStart (.ListComp elt [⟨tg, iter, ifs, 0⟩] scope pos) 0 (.ref it) (.ref D) (compEnvC scope cl C X.env)) (compPost (model X.prog X.w) X.A X.xe none (EP X pins σ Q) (.ref D) C) { s3 with heap := pushCells (s3.heap.push { cls := .type "dict", data := .dict #[] }) scope.names }
  have cL : (compEnvC scope cl C X.env).locals = C := rfl
  generalize ece : compEnvC scope cl C X.env = ce at I4 pg pt pe back cL ⊢
  generalize e4 : ({ s3 with heap := pushCells (s3.heap.push { cls := .type "dict", data := .dict #[] }) scope.names } : Shared) = s4 at I4 ⊢
  have t4 : tn 0 s4.heap := T.keep _ _ _ t3 fun b _ o e => by
    subst e4
    exact pushCells_keeps _ _ _ _ (Heap.get?_push_of_some _ e)
  have stat : ∀ {σ' : L2.St} {H' : Hp} {s' : Shared}, Inv (X.blk s3 H3 scope ce fp) [] σ' H' s' → (∀ b ∈ fp, H' b = none) → ∀ b ∈ fp, FpOk (X.blk s3 H3 scope ce fp) [] H' b := fun {σ' H' s'} J hn b hb =>
    ⟨hn b hb, (J.ok.exf b hb).1, J.ok.exfs b hb, .inl hb, (J.ok.exf b hb).2, fun p hp => nomatch (show p ∈ ([] : List (Addr × Obj)) from hp)⟩
  have loop : codeAny (model X.prog X.w) X.A (.compLoop (.ListComp elt [⟨tg, iter, ifs, 0⟩] scope pos) 0 (.ref it) (.ref D) ce) (compPost (model X.prog X.w) X.A X.xe none (EP X pins σ Q) (.ref D) C) s4 := by
    refine compLoop_any (fun n s' => ∃ i H', Inv (X.blk s3 H3 scope ce fp) [] (wipe σ (own.map (·.2))) H' s' ∧ tn i s'.heap ∧ (∀ b ∈ fp, H' b = none) ∧ W i n H') ?_ m0 ⟨0, H3, I4, t4, free3, w0⟩
    rintro n s5 ⟨i, H5, I5, t5, n5, w5⟩
    rcases turn i n H5 w5 with ⟨stop, last⟩ | ⟨go, Nx, less, step⟩
    · refine thnF (T.done (X.blk s3 H3 scope ce fp) rfl rfl rfl calm i [] s5 _ H5 (fun _ _ => False) I5 (stat I5 n5) t5 stop) fun r s6 ⟨hr, I6⟩ => ?_
      subst hr
      have J6 : Inv X pins σ H5 s6 := back _ _ _ _ I6
      have nC : H5 C = none := cL ▸ I6.free
      obtain ⟨m, ns, _⟩ := I6.loc
      have ns : s6.heap.Ns C m := cL ▸ ns
      have fC : FpOk X pins H5 C := I3.fpOk (Nat.le_of_eq eC) nC
      refine ⟨m, ns, fun h'' sb => ?_⟩
      obtain ⟨g0, g1, g2, g3, g4, g5⟩ := fC
      exact ⟨.ref D, H5, J6.turned (t' := s6.toks) (fun b o hb e => (sb.2 b hb).trans e) g0 g1 g3 g4 g5, rfl, last⟩
    · refine thnF (T.item (X.blk s3 H3 scope ce fp) rfl rfl rfl calm i [] s5 _ H5 (fun _ _ => False) I5 (stat I5 n5) t5 go) fun r s6 ⟨u, hr, h6⟩ => ?_
      subst hr
      refine thnF h6 fun _ s7 ⟨x, H7, I7, r7, y7, t7, n7⟩ => ?_
      refine thnF (pg.run _ s7 _ H7 x u _ (I7.pinned (stat I7 n7) (T.obj _ _ t7)) r7 (step x H7 y7)) fun _ s8 ⟨σ8, H8, I8, w8, q8⟩ => thnF (pt.run _ s8 σ8 H8 _ I8 q8) fun b s9 ⟨H9, I9, q9⟩ => ?_
      have fin : ∀ {s' : Shared} {H' : Hp}, Inv (X.blk s3 H3 scope ce fp) ([] ++ pinsAt fp s7.heap) σ8 H' s' → Nx H' → ∃ m, m < n ∧ ∃ i H', Inv (X.blk s3 H3 scope ce fp) [] (wipe σ (own.map (·.2))) H' s' ∧ tn i s'.heap ∧ (∀ b ∈ fp, H' b = none) ∧ W i m H' := fun {s' H'} J nx => by
        obtain ⟨m', lt, w'⟩ := less H' nx
        have at7 : ∀ b ∈ fp, ∀ o, s7.heap.get? b = some o → s'.heap.get? b = some o ∧ H' b = none := fun b hb o e =>
          have z := J.pin (b, o) (List.mem_append_right _ (List.mem_append_right _ (mem_pinsAt hb e)))
          ⟨z.1, z.2.1⟩
        have len : (wipe σ (own.map (·.2))).length = σ8.length := by rw [← w8, wipe_length]
        exact ⟨m', lt, i + 1, H', (J.unpinned (pins := [])).weak len (fun j v e => (wipe_some (w8 ▸ e)).1), T.keep _ _ _ t7 fun b hb o e => (at7 b hb o e).1, fun b hb => let ⟨o, e, _⟩ := T.obj _ _ t7 b hb; (at7 b hb o e).2, w'⟩
      cases b with
      | true =>
        simp only [if_true] at q9 ⊢
        exact thnF (pe.run _ s9 σ8 H9 _ I9 q9) fun z s10 ⟨yv, H10, I10, r10, acc, a1, a2, nx⟩ => app_ok (X := X.blk s3 H3 scope ce fp) I10 a1 a2 r10 fun s11 I11 => fin I11 nx
      | false =>
        simp only [Bool.false_eq_true, if_false] at q9 ⊢
        exact fin I9 q9
  exact codeAny_compStart_list loop (T.self X.A 0 _ _ _ t4 loop)
end
end Mir
/-! E18: [1 for f in lambdas if told(f) != ret]. -/
namespace Mir
open PySem PySem.Spec PyProof.Rows L2
section
variable {X : Cx} {g : G}
/-- what the rules ask of a lambda with the mirror m, made in X -/
structure LamGood (X : Cx) (g : G) (k : Nat) (params : Arguments) (body : Expr) (scope : Scope) (m : EM) : Prop where
  L : LamX.LamS X.env.scope scope
  nodef : defaultsOf params X.env = ([], [])
  bind : ∀ (q : Str) (cl : List (Str × Addr)) (pm cv ctv : Value), bindArgs (PySem.W.kla_fn "<lambda>" q params body scope cl pm cv ctv) ⟨[], []⟩ = pure []
  walk : ∀ (A : Around) (outer : List PySem.Env) (s : Shared) (H : Hp) (E : XK) (f c' : Addr), Room k (A.deeper (LamX.lamEnv X scope s.heap.objs.size f c')) → PE (LamX.lamCx X A outer s H E scope f c') body (rdE g E m)
/-- f is a lambda with the mirror m, whose object is known -/
def LamIs (X : Cx) (g : G) (k : Nat) (pn : List (Addr × Obj)) (H : Hp) (f : Addr) (m : EM) : Prop :=
  ∃ params body scope pm c' ctv, (f, lamO X params body scope pm c' ctv) ∈ pn ∧ H c' = some (LamX.CodeO c' (X.env.qual ++ "<lambda>")) ∧ LamGood X g k params body scope m
theorem callKnown {x a e : Str} {gA CS : Addr} {fd : FuncData} {pg : Arguments} {sg : Scope} {ret ret' : Str} {j : Nat} {q1 q2 q3 q4 q5 q6 q7 q8 p2 p3 pos : Pos} {Ng : List Str} {k iF : Nat} {fv : Str} {s3 : Shared} {H3 : Hp} {scope2 : Scope} {C : Addr} {cl : List (Str × Addr)} {fp : List Addr} {pins : List (Addr × Obj)} {σ : L2.St}
    (back : Back X (X.blk s3 H3 scope2 (compEnvC scope2 cl C X.env) fp) pins σ)
    (F : FunD X.K x x pg [.Try [.Return (some (.Call (.Name a q1) [] [] q2)) q3] [.ExceptHandler (some (.Name e q4)) none [.Return (some (.Constant (.str ret') j q5)) q6] q7] [] [] q8] sg [] [] gA fd) (hret : ret' = ret) (hb : Binds X.K fd [a] []) (Sg : FnScope Ng [a] sg) (hNg : Ng[0]? = some a) (hva : Vis sg a)
    (hge : sg.names.lookup e = some .globalImplicit) (hme : X.mg e = some (.ref CS)) (h0 : ∀ f : Addr, (L2.start Ng [V.ref f])[0]? = some (some (V.ref f)))
    (hg : Gl (X.blk s3 H3 scope2 (compEnvC scope2 cl C X.env) fp) x) (hm : X.mg x = some (.ref gA)) (hr : Room (k + 2) X.A)
    (hN : X.N[iF]? = some fv) (hv : Vis (compEnvC scope2 cl C X.env).scope fv)
    (na : starEach [.Name fv p3] (compEnvC scope2 cl C X.env) = (false, eval (.Name fv p3) (compEnvC scope2 cl C X.env)) :: starEach [] (compEnvC scope2 cl C X.env) := by rfl) (hpl : (backTo pos (starEach [] (compEnvC scope2 cl C X.env))).any (·.1) = false := by rfl)
    (hdb : (x == ("__debug__" : Str)) = false := by decide +kernel) (hd : (a == ("__debug__" : Str)) = false := by decide +kernel) (hcd : (a == ("__classdict__" : Str)) = false := by decide +kernel) (hde : (e == ("__debug__" : Str)) = false := by decide +kernel) (hfd : (fv == ("__debug__" : Str)) = false := by decide +kernel) (hfc : (fv == ("__classdict__" : Str)) = false := by decide +kernel) :
    PE (X.blk s3 H3 scope2 (compEnvC scope2 cl C X.env) fp) (.Call (.Name x p2) [.Name fv p3] [] pos) (fun σ' H' Q => ∃ f m, σ'[iF]? = some (some (.ref f)) ∧ LamIs X g k X.pn H' f m ∧ LamX.TTold X.K CS ret (fun E H2 Q2 => rdE g E m σ H2 Q2) H' Q) := by
  subst hret
  obtain ⟨oc, od, dV, kV, doc, pm0, an, cdv, ct, osl, rfl, lk, hcg, _, _⟩ := F.ex
  refine ⟨fun pn s5 σ5 H5 Q I5 h => ?_⟩
  obtain ⟨f, m, hf, ⟨params, body, scope, pm, c', ctv, inP, isC, G0⟩, tt⟩ := h
  refine wpAny_Call_Name_kw (ld_glob I5 hg hm ?_ hdb)
  have ha : PA (X.blk s3 H3 scope2 (compEnvC scope2 cl C X.env) fp) [.Name fv p3] (tCons (tVar iF) tNil) := pa_cons (pe_var hN hv hfd hfc) pa_nil na
  refine PySem.W.callWith_K (h₀ := X.base) I5.ok.mod.kin F.kp (thn (ha.run pos pn s5 σ5 H5 (fun vs H1 => vs = [V.ref f] ∧ H1 = H5) I5 ⟨_, hf, rfl, rfl⟩) fun us s1 ⟨vs, H1, I1, r1, ev, eH⟩ => ⟨I1.kIn, ?_⟩) na hpl
  subst ev
  rw [eH] at I1
  cases r1 with
  | cons ru rn =>
    cases rn
    have eu : _ = Value.ref f := ru
    subst eu
    have J := back _ _ _ _ I1
    obtain ⟨o1, o2, o3, o4, o5⟩ := J.pin _ (List.mem_append_left _ inP)
    have nfr : f ∉ frs X.stack := fun z => (List.mem_cons.mp (J.stkSub _ z)).elim o3 o4
    have rc : codeAny (model X.prog X.w) X.A (.call (.ref gA) ⟨[.ref f], []⟩) (CR C8.CX0 X.stack X.prog X.w H5 s1 Q C8.E0) s1 := by
      refine LamX.run_ofS (N := Ng) (ps := [a]) (us := [.ref f]) (vs := [.ref f]) lk hcg Sg hr I1.env0 (hb s1 [.ref f] I1.kIn rfl) (.cons rfl .nil) rfl fun hr' => ?_
      obtain ⟨t', ht', hq'⟩ := (LamX.told_gives (X := X) (q := X.env.qual ++ "<lambda>") hge hme hde h0) f c' s1 H5 Q (fun E H2 Q2 => rdE g E m σ H2 Q2) (fun W pn2 xe E p1 p2 tk hW => LamX.pe_act (i := 0) J G0.L o1 o2 nfr (G0.bind _ _ _ _ _) tk hW hr' (fun A outer s H hr2 => G0.walk A outer s H E f c' hr2) hNg hva hd hcd) isC tt
      exact ⟨t', ht'.nox, hq'⟩
    refine wpAny_call (codeAny_mono rc fun r s2 hq => ?_)
    cases r with
    | error e => exact (show False from hq).elim
    | ok fl =>
      cases fl with
      | ret u => exact I1.after hq
      | next => exact False.elim hq
      | brk => exact False.elim hq
      | cont => exact False.elim hq
theorem cell_not {H F : Hp} {mu : List Addr} {st : Mir.St} (rh : RH g H F mu st) {a : Addr} {φ : Heap → Prop} (h : H a = some (.ext φ)) : a ∉ mu := fun z => by
  obtain ⟨n, hn⟩ := List.getElem?_of_mem z
  have hl : n < st.length := by rw [← rh.len]; exact (List.getElem?_eq_some_iff.mp hn).1
  obtain ⟨b, h1, _, h3⟩ := rh.cel n _ (List.getElem?_eq_getElem hl)
  rw [hn] at h1
  cases h1
  obtain ⟨o, o1, _, o2⟩ := h3.there
  rw [h] at o1
  exact o2 φ (Option.some.inj o1).symm
theorem LamIs.ext {k : Nat} {pn : List (Addr × Obj)} {H F H' F' : Hp} {mu mu' : List Addr} {st : Mir.St} {f : Addr} {m : EM} (rh : RH g H F mu st) (e : Ext H F mu H' F' mu') (h : LamIs X g k pn H f m) : LamIs X g k pn H' f m := by
  obtain ⟨params, body, scope, pm, c', ctv, h1, h2, h3⟩ := h
  exact ⟨params, body, scope, pm, c', ctv, h1, e.keep _ _ h2 (cell_not rh h2) (fun ps z => LamX.codeO_ne ps z), h3⟩
theorem paired_get {α β : Type} {R : α → β → Prop} : ∀ {as : List α} {bs : List β}, Paired R as bs → as.length = bs.length ∧ ∀ (i : Nat) (a : α) (b : β), as[i]? = some a → bs[i]? = some b → R a b
  | _, _, .nil => ⟨rfl, fun i a b h => by simp at h⟩
  | _, _, .cons q1 q2 => by
    obtain ⟨h1, h2⟩ := paired_get q2
    refine ⟨by simp [h1], fun i a b ha hb => ?_⟩
    cases i with
    | zero => simp at ha hb; subst ha hb; exact q1
    | succ i => exact h2 i a b (by simpa using ha) (by simpa using hb)
def tBadTest (X : Cx) (g : G) (k iF : Nat) (er : List Nat) (ret : Tx) (σ : L2.St) : TT := fun σ' H' q => ∃ f m r st F mu st1, σ'[iF]? = some (some (.ref f)) ∧ LamIs X g k X.pn H' f m ∧ RE g σ H' F mu r st ∧ eTold er ret m r st = .ok (.val (.str ret)) st1 ∧ ∀ H2 F2 mu2, Ext H' F mu H2 F2 mu2 → RE g σ H2 F2 mu2 r st1 → q false H2
def tBadLc (X : Cx) (g : G) (k ib iF : Nat) (er : List Nat) (ret : Tx) (ms : List EM) : TE := fun σ H Q => ∃ p fs r st F mu st', σ[ib]? = some (some (.ref p)) ∧ H p = some (.lst (fs.map V.ref)) ∧ p ∉ mu ∧ Paired (fun f m => LamIs X g k X.pn H f m) fs ms ∧ RE g σ H F mu r st ∧ iF < r.length ∧ badRun er ret ms r st = some st' ∧
  ∀ H' F' mu' D, Ext H F mu H' F' mu' → RE g σ H' F' mu' r st' → H D = none → H' D = some (.lst []) → F' D = none → D ∉ mu' → Q (.ref D) H'
theorem badRun_drop {er : List Nat} {ret : Tx} {ms : List EM} {i : Nat} {m : EM} {r : Env} {st st' : Mir.St} (hi : ms[i]? = some m) (h : badRun er ret (ms.drop i) r st = some st') : ∃ st1, eTold er ret m r st = .ok (.val (.str ret)) st1 ∧ badRun er ret (ms.drop (i + 1)) r st1 = some st' := by
  obtain ⟨hl, e⟩ := List.getElem?_eq_some_iff.mp hi
  rw [List.drop_eq_getElem_cons hl, e] at h
  unfold badRun at h
  split at h
  · rename_i x st1 hm
    split at h
    · rename_i hx
      subst hx
      exact ⟨st1, hm, h⟩
    · cases h
  · cases h
theorem badLc_rd {k ib iF : Nat} {er : List Nat} {ret : Tx} {ms : List EM} {te : TE} (hK : X.K = g.K) : ∀ σ H Q, tBadLc X g k ib iF er ret ms σ H Q → tLc (iList X.K (tVar ib)) (gName iF) (tBadTest X g k iF er ret σ) te [iF] σ H Q := by
  intro σ H Q h
  obtain ⟨p, fs, r, st, F, mu, st', h1, h2, h3, h4, re, hF, run, fin⟩ := h
  rw [← re.len] at hF
  obtain ⟨len, pr⟩ := paired_get h4
  refine ⟨_, h1, p, rfl, ⟨_, SqL.of h2⟩, fun D hD => ?_⟩
  have npD : p ≠ D := ne_of_none h2 hD
  have mD : D ∉ mu := fun z => mem_mu re.h z hD
  have e0 : Ext H F mu (upd H D (.lst [])) F mu := Ext.newOwn hD
  have fD : F D = none := F_new re.h hD
  refine ⟨fun i m H' => m = fs.length - i ∧ i ≤ fs.length ∧ ∃ st2 F2 mu2, RE g σ H' F2 mu2 r st2 ∧ Ext (upd H D (.lst [])) F mu H' F2 mu2 ∧ badRun er ret (ms.drop i) r st2 = some st', ⟨fs.length, by simp, Nat.zero_le _, st, F, mu, re.step e0 (re.h.newOwn hD), .refl _ _ _, by simpa using run⟩, fun i m H' w => ?_⟩
  obtain ⟨rfl, hi, st2, F2, mu2, re2, e2, run2⟩ := w
  have hp : H' p = some (.lst (fs.map V.ref)) := e2.keep p _ ((upd_ne npD).trans h2) h3 (fun ps z => by cases z)
  have hd : H' D = some (.lst []) := e2.keep D _ upd_same mD (fun ps z => by cases z)
  have e02 := e0.trans e2
  by_cases hlt : i < fs.length
  · have gi : (fs.map V.ref)[i]? = some (.ref fs[i]) := by rw [List.getElem?_map, List.getElem?_eq_getElem hlt]; rfl
    refine .inr ⟨⟨_, _, SqL.of hp, gi⟩, fun H'' => ∃ st3 F3 mu3, RE g σ H'' F3 mu3 r st3 ∧ Ext (upd H D (.lst [])) F mu H'' F3 mu3 ∧ badRun er ret (ms.drop (i + 1)) r st3 = some st', fun H'' nx => ⟨fs.length - (i + 1), by omega, rfl, hlt, nx⟩, fun x H'' yl => ?_⟩
    obtain ⟨rfl, yx⟩ := yl
    have ex := yx _ (SqL.of hp)
    rw [gi] at ex
    cases ex
    have gm : ms[i]? = some (ms[i]'(by omega)) := List.getElem?_eq_getElem _
    obtain ⟨st3, t1, t2⟩ := badRun_drop gm run2
    have wl : (wipe σ [iF]).length = σ.length := wipe_length _ _
    refine ⟨?_, ?_⟩
    · show ((σ.set iF none).set iF (some (V.ref fs[i]))).set iF none = σ.set iF none
      rw [List.set_set, List.set_set]
    · refine ⟨fs[i], ms[i]'(by omega), r, st2, F2, mu2, st3, ?_, (pr i _ _ (List.getElem?_eq_getElem hlt) gm).ext re.h e02, re2, t1, fun H3 F3 mu3 e3 re3 => ?_⟩
      · show ((σ.set iF none).set iF (some (V.ref fs[i])))[iF]? = _
        rw [List.set_set]
        simp [hF]
      · simp only [Bool.false_eq_true, if_false]
        exact ⟨st3, F3, mu3, re3, e2.trans e3, t2⟩
  · have he : i = fs.length := by omega
    subst he
    have hms : ms.drop fs.length = [] := by rw [len]; simp
    rw [hms] at run2
    cases run2
    refine .inl ⟨⟨_, SqL.of hp, by simp⟩, fin H' F2 mu2 D e02 re2 hD hd ?_ fun z => ?_⟩
    · cases q : F2 D with
      | none => rfl
      | some z => exact (e2.frF D z q).elim (fun y => by rw [fD] at y; cases y) fun y => (y.no upd_same (fun ps z => by cases z)).elim
    · exact (e2.frM D z).elim mD fun y => y.no upd_same (fun ps z => by cases z)
end
end Mir
/-! E19: bad = [lambdas]; [1 for f in bad if told(f) != ret] == []. -/
namespace Mir
open PySem PySem.Spec PyProof.Rows L2
section
variable {X : Cx} {g : G} {E : XK} {B : Bs}
theorem lcBad {x a e : Str} {gA CS : Addr} {fd : FuncData} {pg : Arguments} {sg : Scope} {ret : Tx} {ret' ret2 : Str} {er : List Nat} {j j0 j1 : Nat} {q1 q2 q3 q4 q5 q6 q7 q8 p2 p3 p4 p5 p6 p7 p8 p9 pos : Pos} {Ng : List Str} {k ib iF : Nat} {fv bv : Str} {scope2 : Scope} {ms : List EM}
    (F : FunD X.K x x pg [.Try [.Return (some (.Call (.Name a q1) [] [] q2)) q3] [.ExceptHandler (some (.Name e q4)) none [.Return (some (.Constant (.str ret') j q5)) q6] q7] [] [] q8] sg [] [] gA fd) (hret : ret' = toS ret) (hret2 : ret2 = toS ret) (hb : Binds X.K fd [a] []) (Sg : FnScope Ng [a] sg) (hNg : Ng[0]? = some a) (hva : Vis sg a)
    (hge : sg.names.lookup e = some .globalImplicit) (hme : X.mg e = some (.ref CS)) (h0 : ∀ f : Addr, (L2.start Ng [V.ref f])[0]? = some (some (V.ref f))) (hK : X.K = g.K) (hx : Caught g CS er) (calm : X.calm = true) (nod : X.N.Nodup)
    (hg : scope2.names.lookup x = some .globalImplicit) (hgR : ∀ C cl, Gl (X.blk X.s_0 X.H_0 scope2 (compEnvC scope2 cl C X.env) []) x) (hm : X.mg x = some (.ref gA)) (hr : Room (k + 2) X.A) (ok : BlkOk X.N X.env.scope scope2 [(fv, iF)])
    (hN : X.N[iF]? = some fv) (hv : ∀ C cl, (compEnvC scope2 cl C X.env).scope.names.lookup fv = some .local) (hNb : X.N[ib]? = some bv) (hvb : Vis X.env.scope bv)
    (na : ∀ C cl, starEach [.Name fv p3] (compEnvC scope2 cl C X.env) = (false, eval (.Name fv p3) (compEnvC scope2 cl C X.env)) :: starEach [] (compEnvC scope2 cl C X.env) := by intro _ _; rfl) (hpl : ∀ C cl, (backTo pos (starEach [] (compEnvC scope2 cl C X.env))).any (·.1) = false := by intro _ _; rfl)
    (hdb : (x == ("__debug__" : Str)) = false := by decide +kernel) (hd : (a == ("__debug__" : Str)) = false := by decide +kernel) (hcd : (a == ("__classdict__" : Str)) = false := by decide +kernel) (hde : (e == ("__debug__" : Str)) = false := by decide +kernel) (hfd : (fv == ("__debug__" : Str)) = false := by decide +kernel) (hfc : (fv == ("__classdict__" : Str)) = false := by decide +kernel) (hbd : (bv == ("__debug__" : Str)) = false := by decide +kernel) (hbc : (bv == ("__classdict__" : Str)) = false := by decide +kernel)
    (hs : ∀ z, foldedSetIterable (.Name bv p4) X.env z = pure z := by intro _; rfl) :
    PE X (.ListComp (.Constant (.int 1) j0 p5) [⟨.Name fv p6, .Name bv p4, [.Compare (.Call (.Name x p2) [.Name fv p3] [] pos) [.NotEq] [.Constant (.str ret2) j1 p7] p8], 0⟩] scope2 p9) (tBadLc X g k ib iF er ret ms) := by
  subst hret hret2
  refine PE.imp (lcKnow (own := [(fv, iF)]) (g := gName iF) (wi := iList X.K (tVar ib)) (tt := tBadTest X g k iF er ret) (te := tC (.int 1)) calm nod (pi_list (pe_var hNb hvb hbd hbc)) ok (fun s3 H3 C cl fp => pg_name nod hN (.inl (hv C cl)) (.inr (hv C cl))) (fun pins σ s3 H3 C cl fp back => pts_one ?_) (fun _ _ _ _ _ => pe_int) hs) (badLc_rd hK)
  refine PT.imp (pt_cmpR op_ne (callKnown (g := g) (k := k) back F rfl hb Sg hNg hva hge hme h0 (hgR C cl) hm hr hN (.inl (hv C cl)) (na C cl) (hpl C cl) hdb hd hcd hde hfd hfc) pe_str (nomark _)) fun σ' H' q h => ?_
  obtain ⟨f, m, r, st, F1, mu, st1, h1, h2, re, t1, fin⟩ := h
  refine ⟨f, m, h1, h2, ?_⟩
  rw [hK]
  refine told_rd (E := fun _ _ _ => False) hx re ?_
  rw [t1]
  intro v H2 F2 mu2 e2 re2 rv
  simp only [RepX, RepV] at rv
  subst rv
  refine ⟨rfl, _, rfl, ?_⟩
  rw [show (!decide (V.str (toS ret) = V.str (toS ret))) = false by simp]
  exact fin H2 F2 mu2 e2 re2
end
end Mir
/-! E20: bad = [lambdas], then the rest with the lambdas known. -/
namespace Mir
open PySem PySem.Spec PyProof.Rows L2
section
variable {X : Cx} {g : G} {E : XK} {B : Bs} {k : Nat}
/-- the object p.2 at p.1 is a lambda with the mirror m -/
def LamF (X : Cx) (g : G) (k : Nat) (H : Hp) (p : Addr × Obj) (m : EM) : Prop := ∃ params body scope pm c' ctv, p.2 = lamO X params body scope pm c' ctv ∧ H c' = some (LamX.CodeO c' (X.env.qual ++ "<lambda>")) ∧ LamGood X g k params body scope m
def LamE (X : Cx) (g : G) (k : Nat) (e : Expr) (m : EM) : Prop := ∃ params body scope pos, e = .Lambda params body scope pos ∧ LamGood X g k params body scope m
/-- what stands known: functions -/
def Funs (H : Hp) (fs : List (Addr × Obj)) : Prop := ∀ p ∈ fs, H p.1 = some (FnO p.1 p.2) ∧ ∃ fd, p.2.data = .func fd
theorem Funs.known {H : Hp} {fs : List (Addr × Obj)} (h : Funs H fs) : Known H fs := fun p hp => ⟨(h p hp).1, fun v z => by
  obtain ⟨fd, e⟩ := (h p hp).2
  rw [e] at z
  cases z⟩
theorem LamF.ext {H H1 : Hp} {p : Addr × Obj} {m : EM} (e : LamX.ExtN H H1) (h : LamF X g k H p m) : LamF X g k H1 p m := by
  obtain ⟨a, b, c, d, c', ctv, h1, h2, h3⟩ := h
  exact ⟨a, b, c, d, c', ctv, h1, e _ _ h2 (fun ps => LamX.codeO_ne ps), h3⟩
def tLam1 (X : Cx) (g : G) (k : Nat) (m : EM) : TE := fun σ H Q => LamX.Tabs g.tb H ∧ ∀ (p : Addr × Obj) (H1 : Hp), LamX.ExtN H H1 → LamX.Tabs g.tb H1 → Nw H p.1 → Funs H1 [p] → LamF X g k H1 p m → Q (.ref p.1) H1
def tLams (X : Cx) (g : G) (k : Nat) (ms : List EM) : TA := fun σ H Q => LamX.Tabs g.tb H ∧ ∀ (fs : List (Addr × Obj)) (H1 : Hp), LamX.ExtN H H1 → LamX.Tabs g.tb H1 → (∀ p ∈ fs, Nw H p.1) → Funs H1 fs → Paired (LamF X g k H1) fs ms → Q (fs.map fun p => .ref p.1) H1
theorem peLam {c tp : Addr} {e : Expr} {m : EM} (B0 : LamX.TabB X.base X.mg c tp) (ec : X.env.code = .ref c) (eT : (tp, X.env.qual ++ "<lambda>") ∈ g.tb) (oneT : ∀ p ∈ g.tb, p.1 = tp → p.2 = X.env.qual ++ "<lambda>") (h : LamE X g k e m) : PE X e (tLam1 X g k m) := by
  obtain ⟨params, body, scope, pos, rfl, G0⟩ := h
  refine ⟨fun pins s σ H Q I h => lamNew I B0 ec eT oneT h.1 G0.nodef (G0.L.has I.ok) fun f c' pm ctv H1 s1 I1 eN T1 nf _ isC => ⟨.ref f, _, I1, rfl, ?_⟩⟩
  have up : ∀ b o, H1 b = some o → upd H1 f (FnO f (lamO X params body scope pm c' ctv)) b = some o := fun b o e => (upd_ne (ne_of_none e nf)).trans e
  refine h.2 (f, lamO X params body scope pm c' ctv) _ (eN.trans (LamX.ExtN.of up)) (T1.ext up) (fun o ho => ?_) (fun p hp => ?_) ⟨params, body, scope, pm, c', ctv, rfl, up _ _ isC, G0⟩
  · by_cases z : ∃ ps, o = .tbl ps
    · exact z
    · have := eN f o ho fun ps q => z ⟨ps, q⟩
      rw [nf] at this
      cases this
  · cases List.mem_singleton.mp hp
    exact ⟨upd_same, _, rfl⟩
theorem paLams {c tp : Addr} (B0 : LamX.TabB X.base X.mg c tp) (ec : X.env.code = .ref c) (eT : (tp, X.env.qual ++ "<lambda>") ∈ g.tb) (oneT : ∀ p ∈ g.tb, p.1 = tp → p.2 = X.env.qual ++ "<lambda>") : ∀ {es : List Expr} {ms : List EM}, Paired (LamE X g k) es ms → PA X es (tLams X g k ms)
  | _, _, .nil => PA.imp pa_nil fun σ H Q h => h.2 [] H (.refl H) h.1 (fun _ z => nomatch z) (fun _ z => nomatch z) .nil
  | _, _, .cons q1 q2 => PA.imp (pa_cons (peLam B0 ec eT oneT q1) (paLams B0 ec eT oneT q2) (by obtain ⟨_, _, _, _, rfl, _⟩ := q1; rfl)) fun σ H Q h => by
    refine ⟨h.1, fun p H1 eN T1 nw fn lam => ⟨T1, fun fs H2 eN2 T2 nw2 fn2 lam2 => ?_⟩⟩
    refine h.2 (p :: fs) H2 (eN.trans eN2) T2 (fun q hq => ?_) (fun q hq => ?_) (.cons (lam.ext eN2) lam2)
    · rcases List.mem_cons.mp hq with rfl | hq
      · exact nw
      · intro o ho
        by_cases z : ∃ ps, o = .tbl ps
        · exact z
        · exact nw2 q hq o (eN _ _ ho fun ps w => z ⟨ps, w⟩)
    · rcases List.mem_cons.mp hq with rfl | hq
      · obtain ⟨f1, f2⟩ := fn q (List.mem_singleton.mpr rfl)
        exact ⟨eN2 _ _ f1 (fun ps z => by cases z), f2⟩
      · exact fn2 q hq
theorem LamF.is {H : Hp} {fs : List (Addr × Obj)} {p : Addr × Obj} {m : EM} (hp : p ∈ fs) (nc : ∀ c q, H c = some (LamX.CodeO c q) → c ∉ fs.map (·.1)) (h : LamF X g k H p m) : LamIs (X.tr fs X.xe) g k fs (off H fs) p.1 m := by
  obtain ⟨a, b, c, d, c', ctv, h1, h2, h3⟩ := h
  obtain ⟨f, o⟩ := p
  subst h1
  exact ⟨a, b, c, d, c', ctv, hp, (off_out (nc _ _ h2)).trans h2, h3.L, h3.nodef, h3.bind, h3.walk⟩
theorem pairedIs {H : Hp} {fs0 : List (Addr × Obj)} (nc : ∀ c q, H c = some (LamX.CodeO c q) → c ∉ fs0.map (·.1)) : ∀ {fs : List (Addr × Obj)} {ms : List EM}, (∀ p ∈ fs, p ∈ fs0) → Paired (LamF X g k H) fs ms → Paired (fun f m => LamIs (X.tr fs0 X.xe) g k fs0 (off H fs0) f m) (fs.map (·.1)) ms
  | _, _, _, .nil => .nil
  | _, _, hs, .cons q1 q2 => .cons (q1.is (hs _ List.mem_cons_self) nc) (pairedIs nc (fun p hp => hs p (List.mem_cons_of_mem _ hp)) q2)
theorem pairedImp {α β : Type} {R S : α → β → Prop} (h : ∀ a b, R a b → S a b) : ∀ {as : List α} {bs : List β}, Paired R as bs → Paired S as bs
  | _, _, .nil => .nil
  | _, _, .cons q1 q2 => .cons (h _ _ q1) (pairedImp h q2)
/-- behind bad = [lambdas]: the list stands in the slot ib -/
def rdBad (Y : Cx) (g : G) (E : XK) (B : Bs) (k ib : Nat) (ms : List EM) (m : SM) : TS := fun D σ H => ∃ p fs r st F mu, σ[ib]? = some (some (.ref p)) ∧ H p = some (.lst (fs.map V.ref)) ∧ p ∉ mu ∧ Paired (fun f m => LamIs Y g k Y.pn H f m) fs ms ∧ RB g B σ H F mu r st ∧ PostS g E B F mu D (m r st)
theorem inv_on {fs pins : List (Addr × Obj)} {σ : L2.St} {H : Hp} {s : Shared} {xe : Value → Shared → Prop} (ok : X.Ok) (h0 : X.pn = []) (I : Inv (X.tr fs xe) pins σ H s) : Inv X pins σ H s :=
  ⟨ok, I.os, I.bare, I.base, I.loc, I.cell, I.free, I.freeC, fun p hp => I.pin p (List.mem_append_right _ (by rw [h0] at hp; exact hp)), I.hok, I.len⟩
theorem code_not {fs pins : List (Addr × Obj)} {σ : L2.St} {H : Hp} {s : Shared} (I : Inv X pins σ H s) (kn : Funs H fs) : ∀ c q, H c = some (LamX.CodeO c q) → c ∉ fs.map (·.1) := fun c q h z => by
  obtain ⟨p, hp, rfl⟩ := List.mem_map.mp z
  obtain ⟨k1, fd, k2⟩ := kn p hp
  obtain ⟨⟨oc, vs, t, a1, a2, _⟩, _, _⟩ := I.hok _ _ h
  obtain ⟨b1, _, _⟩ := I.hok _ _ k1
  rw [b1] at a1
  cases a1
  rw [k2] at a2
  cases a2
theorem RB.setNo {s : L2.St} {H F : Hp} {mu : List Addr} {r : Env} {st : Mir.St} (x : RB g B s H F mu r st) {i : Nat} {v : Option V} (hi : i < r.length) : RB g B (s.set i v) H F mu (r.set i .no) st := by
  have hi' : i < s.length := by rw [x.re.len]; exact hi
  refine ⟨⟨x.re.h, by simp [x.re.len], fun j y hy => ?_, fun j l c c' a b h1 h2 h3 h4 ne => ?_⟩, x.ext, fun j c a h1 h2 => ?_, fun j ci fs a h1 h2 => ?_⟩
  · rw [get_set hi] at hy
    by_cases e : i = j
    · subst e
      rw [if_pos rfl] at hy
      cases hy
      exact ⟨v, by rw [get_set hi', if_pos rfl], trivial⟩
    · rw [if_neg e] at hy
      obtain ⟨o, h1, h2⟩ := x.re.slot j y hy
      exact ⟨o, by rw [get_set hi', if_neg e]; exact h1, h2⟩
  · rw [get_set hi] at h1 h2
    rw [get_set hi'] at h3 h4
    by_cases e : i = j
    · rw [if_pos e] at h1; cases h1
    · by_cases e2 : i = l
      · rw [if_pos e2] at h2; cases h2
      · rw [if_neg e] at h1 h3
        rw [if_neg e2] at h2 h4
        exact x.re.own j l c c' a b h1 h2 h3 h4 ne
  · rw [get_set hi] at h1
    rw [get_set hi'] at h2
    by_cases e : i = j
    · rw [if_pos e] at h1; cases h1
    · rw [if_neg e] at h1 h2
      exact x.own j c a h1 h2
  · rw [get_set hi] at h1
    rw [get_set hi'] at h2
    by_cases e : i = j
    · rw [if_pos e] at h1; cases h1
    · rw [if_neg e] at h1 h2
      exact x.slf j ci fs a h1 h2
theorem pssBad {c tp : Addr} {lams : List Expr} {ms : List EM} {mr : SM} {rest : List Stmt} {ib : Nat} {bv : Str} {p1 p2 p3 : Pos} (B0 : LamX.TabB X.base X.mg c tp) (ec : X.env.code = .ref c) (eT : (tp, X.env.qual ++ "<lambda>") ∈ g.tb) (oneT : ∀ p ∈ g.tb, p.1 = tp → p.2 = X.env.qual ++ "<lambda>")
    (h0 : X.pn = []) (nod : X.N.Nodup) (hi : X.N[ib]? = some bv) (hl : L2.Loc X.env.scope bv) (hf : X.fn bv = true) (hlen : ms.length ≤ lim) (hs : swapsWith (.List lams p2) (some (.Name bv p1)) p3.line X.env = pure false) (hp : Paired (LamE X g k) lams ms)
    (hrest : ∀ fs : List (Addr × Obj), PSs (X.tr fs X.xe) rest (rdBad (X.tr fs X.xe) g E B k ib ms mr)) : PSs X (.Assign [.Name bv p1] (.List lams p2) p3 :: rest) (rdS g E B (sBad ib mr)) := by
  have second : PSs X rest (fun D σ H => ∃ fs, Funs H fs ∧ ((∀ c q, H c = some (LamX.CodeO c q) → c ∉ fs.map (·.1)) → rdBad (X.tr fs X.xe) g E B k ib ms mr D σ (off H fs))) := by
    refine ⟨fun pins s σ H D I h => ?_⟩
    obtain ⟨fs, kn, h⟩ := h
    refine thn ((hrest fs).run pins s σ (off H fs) D (inv_off I kn.known) (h (code_not I kn))) fun f s' q => ?_
    cases f with
    | next => obtain ⟨σ', H', J, d⟩ := q; exact ⟨σ', H', inv_on I.ok h0 J, d⟩
    | brk => obtain ⟨σ', H', J, d⟩ := q; exact ⟨σ', H', inv_on I.ok h0 J, d⟩
    | cont => obtain ⟨σ', H', J, d⟩ := q; exact ⟨σ', H', inv_on I.ok h0 J, d⟩
    | ret u => obtain ⟨v, σ', H', J, rv, d⟩ := q; exact ⟨v, σ', H', inv_on I.ok h0 J, rv, d⟩
  refine PSs.imp (pss_cons (ps_set nod hi hl (pe_lst (paLams B0 ec eT oneT hp)) hs (.inl hf)) second) fun D σ H h => ?_
  obtain ⟨r, st, F, mu, rb, h⟩ := h
  unfold sBad at h
  split at h
  · rename_i hir
    refine ⟨rb.re.h.tab, fun fs H1 eN T1 nw fn lam => ⟨?_, fun p hpn => ?_⟩⟩
    · rw [List.length_map, (paired_get lam).1]
      exact Nat.le_trans hlen lim_line
    · have up : ∀ b o, H1 b = some o → upd H1 p (.lst (fs.map fun q => V.ref q.1)) b = some o := fun b o e => (upd_ne (ne_of_none e hpn)).trans e
      refine ⟨fs, fun q hq => ⟨up _ _ (fn q hq).1, (fn q hq).2⟩, fun nc => ?_⟩
      have npf : p ∉ fs.map (·.1) := fun z => by
        obtain ⟨q, hq, e⟩ := List.mem_map.mp z
        have := (fn q hq).1
        rw [e, hpn] at this
        cases this
      have rh1 := rb.re.h.lam eN T1
      have stay : ∀ b o, H b = some o → (∀ ps, o ≠ .tbl ps) → off (upd H1 p (.lst (fs.map fun q => V.ref q.1))) fs b = some o := fun b o e n => by
        refine (off_out fun z => ?_).trans (up _ _ (eN _ _ e n))
        obtain ⟨q, hq, eq⟩ := List.mem_map.mp z
        exact (nw q hq).no (eq ▸ e) n
      have rhO : RH g (off (upd H1 p (.lst (fs.map fun q => V.ref q.1))) fs) F mu st := by
        refine ⟨fun a o e => .inl (stay a o ((rb.re.h.fro a o e).resolve_right fun z => z.1) fun ps z => rb.re.h.ntb a ps (by rw [e, z])), rb.re.h.len, rb.re.h.nd, fun n c e => ?_, fun q hq => ?_, rb.re.h.ntb⟩
        · obtain ⟨b, b1, b2, b3⟩ := rb.re.h.cel n c e
          obtain ⟨o, o1, o2, _⟩ := b3.there
          exact ⟨b, b1, b2, CellAt.at ((stay b o o1 o2).trans o1.symm) b3⟩
        · obtain ⟨ps, t1, t2, t3⟩ := (T1.ext up) q hq
          have kn2 : Known (upd H1 p (.lst (fs.map fun q => V.ref q.1))) fs := Funs.known fun q hq => ⟨up _ _ (fn q hq).1, (fn q hq).2⟩
          refine ⟨ps, kn2.off t1 (fun _ z => by cases z), t2, fun pos cv hcv => ?_⟩
          obtain ⟨d, d1, d2⟩ := t3 pos cv hcv
          exact ⟨d, d1, (off_out (nc _ _ d2)).trans d2⟩
      have exO : Ext H F mu (off (upd H1 p (.lst (fs.map fun q => V.ref q.1))) fs) F mu := by
        refine ⟨.refl _ _, fun a o e _ n => stay a o e n, fun a n o e => ?_, fun _ _ e => .inl e, fun _ e => .inl e⟩
        by_cases z : ∃ ps, o = .tbl ps
        · exact z
        · exact n o (stay a o e fun ps w => z ⟨ps, w⟩)
      refine ⟨p, fs.map (·.1), r.set ib .no, st, F, mu, ?_, ?_, fun z => mem_mu rh1 z hpn, pairedIs nc (fun _ h => h) (pairedImp (fun a b h => h.ext (LamX.ExtN.of up)) lam), (rb.step exO (rb.re.step exO rhO)).setNo hir, h⟩
      · rw [get_set (by rw [rb.re.len]; exact hir), if_pos rfl]
      · refine (off_out npf).trans (upd_same.trans ?_)
        rw [List.map_map]
        rfl
  · exact h.elim
/-! ### all were told -/
theorem badEq {ib iF : Nat} {er : List Nat} {ret : Tx} {ms : List EM} {m : SM} {D : Ends} {σ : L2.St} {H : Hp} {T : V → Hp → Prop} {rr : R2}
    (h : rdBad X g E B k ib ms (sBadThen iF er ret ms m) D σ H)
    (fin : ∀ (a b : Addr) (r : Env) (st' : Mir.St) (H' F' : Hp) (mu' : List Addr), RB g B σ H' F' mu' r st' → PostS g E B F' mu' D (m r st') → H' a = some (.lst []) → H' b = some (.lst []) → rr (.ref a) (.ref b) H' T) :
    tOp rr (tBadLc X g k ib iF er ret ms) (tLst tNil) σ H T := by
  obtain ⟨p, fs, r, st, F, mu, h1, h2, h3, h4, rb, post⟩ := h
  unfold sBadThen at post
  split at post
  · rename_i st' run
    split at post
    · rename_i hF
      refine ⟨p, fs, r, st, F, mu, st', h1, h2, h3, h4, rb.re, hF, run, fun H' F' mu' D0 e' re' hD hD' fD mD => ⟨Nat.zero_le _, fun q hq => ?_⟩⟩
      have ex := Ext.newOwn (H := H') (F := F') (mu := mu') (o := .lst []) hq
      exact fin D0 q r st' _ F' mu' ((rb.step e' re').step ex (re'.step ex (re'.h.newOwn hq))) (post.mono e'.mo) ((upd_ne (ne_of_none hD' hq)).trans hD') upd_same
    · exact post.elim
  · exact post.elim
theorem eqv_nil : PyData.eqv (.list []) (.list []) = true := by rfl
theorem badRet {ib iF k1 : Nat} {er : List Nat} {ret : Tx} {ms : List EM} {m2 : EM} {lc e2 : Expr} {es : List Expr} {p1 p2 p3 p4 : Pos} (hr : Room k1 X.A) (hK : X.K = g.K) (hL : PE X lc (tBadLc X g k ib iF er ret ms)) (h2 : PE X (.BoolOp .And (e2 :: es) p3) (rdE g E m2))
    (hm : behindInMarks .Eq (.List [] p1) = false := by first | exact nomark _ | rfl) : PSs X [.Return (some (.BoolOp .And (.Compare lc [.Eq] [.List [] p1] p2 :: e2 :: es) p3)) p4] (rdBad X g E B k ib ms (sBadThen iF er ret ms (sRet m2))) := PSs.imp (pss_one (ps_ret (pe_and (pe_cmpR (op_eqD (ru4 hr)) hL (pe_lst pa_nil) hm) h2))) fun D σ H h => by
  refine badEq h fun a b r st' H' F' mu' rb post ha hb => ?_
  refine ⟨.list [], .list [], .lst (SqL.of ha) .nil, .lst (SqL.of hb) .nil, rfl, rfl, true, by rw [eqv_nil], ?_⟩
  rw [if_pos rfl]
  refine ⟨r, st', F', mu', rb.re, sbind rb post fun y st2 v H2 F2 mu2 _ e2 rb2 rp h' => ?_⟩
  cases y with
  | bor c => exact h'.elim
  | val d => exact h' v H2 F2 mu2 rb2.re.h rb2.ext rp
theorem badIf {ib iF k1 : Nat} {er : List Nat} {ret : Tx} {ms : List EM} {mt : TM} {m1 m3 : SM} {lc e2 : Expr} {es : List Expr} {b1 more : List Stmt} {p1 p2 p3 p4 : Pos} (hr : Room k1 X.A) (hK : X.K = g.K) (hL : PE X lc (tBadLc X g k ib iF er ret ms)) (h2 : PW X (.BoolOp .Or (e2 :: es) p3) (rdT g E mt)) (h3 : PSs X b1 (rdS g E B m1)) (h4 : PSs X more (rdS g E B m3))
    (hm : behindInMarks .NotEq (.List [] p1) = false := by first | exact nomark _ | rfl) : PSs X (.If (.BoolOp .Or (.Compare lc [.NotEq] [.List [] p1] p2 :: e2 :: es) p3) b1 [] p4 :: more) (rdBad X g E B k ib ms (sBadThen iF er ret ms (sSeq (sIf mt m1 sNext) m3))) := by
  have test : PT X (.BoolOp .Or (.Compare lc [.NotEq] [.List [] p1] p2 :: e2 :: es) p3) (L2.tOr (tTest (tOp (rNeD X.K) (tBadLc X g k ib iF er ret ms) (tLst tNil))) (rdT g E mt)) := PW.pt (pw_or (pt_cmpR (op_neD (ru4 hr)) hL (pe_lst pa_nil) hm) h2)
  refine PSs.imp (pss_cons (ps_if test h3 (qNil (g := g) (E := E) (B := B))) h4) fun D σ H h => ?_
  refine badEq h fun a b r st' H' F' mu' rb post ha hb => ?_
  refine ⟨.list [], .list [], .lst (SqL.of ha) .nil, .lst (SqL.of hb) .nil, rfl, rfl, false, by rw [eqv_nil]; rfl, ?_⟩
  show rdT g E mt σ H' fun b H1 => if b = true then rdS g E B m1 { D with nx := rdS g E B m3 D } σ H1 else rdS g E B sNext { D with nx := rdS g E B m3 D } σ H1
  have post2 : PostS g E B F' mu' { D with nx := rdS g E B m3 D } (sIf mt m1 sNext r st') := by
    unfold sSeq at post
    cases hmm : sIf mt m1 sNext r st' with
    | nx r1 st1 =>
      rw [hmm] at post
      exact fun s' H' F' mu' rb' k => ⟨r1, st1, F', mu', rb', post.mono k⟩
    | rt d st1 => rw [hmm] at post; exact post
    | bk r1 st1 => rw [hmm] at post; exact post
    | ct r1 st1 => rw [hmm] at post; exact post
    | exc e r1 st1 => rw [hmm] at post; exact post
    | bad => rw [hmm] at post; exact post
  refine ⟨r, st', F', mu', rb.re, sbind rb post2 fun y st2 v H2 F2 mu2 _ e2 rb2 rp h' => ?_⟩
  subst rp
  cases y with
  | true => rw [if_pos rfl] at h' ⊢; exact ⟨r, st2, F2, mu2, rb2, h'⟩
  | false => rw [if_neg Bool.false_ne_true] at h' ⊢; exact ⟨r, st2, F2, mu2, rb2, h'⟩
end
end Mir
/-! H0: the head's facts with the tables of code objects of some defs; the end of a law. -/
namespace Hd
open PySem PySem.Spec PyProof.Rows L2 Mir
/-- the code object of the def at p, its table -/
def cdAt (K : PySem.W.Frag) (p : Str × Option Str) : Addr := match K.lookup (He.fAd K p) with
  | some ⟨_, _, .func fd, _⟩ => (match fd.code with
    | .ref c => c
    | _ => 0)
  | _ => 0
def tbAt (K : PySem.W.Frag) (p : Str × Option Str) : Addr := match K.lookup (cdAt K p) with
  | some ⟨_, _, .fields vs, _⟩ => (match (vs[11]? : Option Value) with
    | some (.ref t) => t
    | _ => 0)
  | _ => 0
def cdIs (K : PySem.W.Frag) (p : Str × Option Str) : Bool := match K.lookup (He.fAd K p) with
  | some ⟨_, _, .func fd, _⟩ => (match fd.code with
    | .ref c => decide (c = cdAt K p)
    | _ => false)
  | _ => false
theorem cdIs_ok {K : PySem.W.Frag} {p : Str × Option Str} (h : cdIs K p = true) {x q : Str} {params : Arguments} {body : List Stmt} {scope : Scope} {dvs : List V} {kws : List (Str × V)} {fd : FuncData} (F : FunD K x q params body scope dvs kws (He.fAd K p) fd) : fd.code = .ref (cdAt K p) := by
  obtain ⟨oc, od, dV, kV, doc, pm, an, cdv, ct, osl, rfl, lk, _⟩ := F.ex
  unfold cdIs at h
  rw [lk] at h
  dsimp only at h
  cases cdv with
  | ref c => exact congrArg Value.ref (of_decide_eq_true h)
  | _ => cases h
/-- all but the tables that are still empty -/
def noTab (g : Addr → Option Obj) (a : Addr) : Bool := match g a with
  | some ⟨.none, _, .fields vs, _⟩ => vs.size != 0
  | _ => true
def asT (g : Addr → Option Obj) (n : Nat) : List Addr := (He.asD g n).filter (noTab g)
abbrev AlT : Type := He.AlD × Bool × List (Option Obj)
def chk (cp : List (Str × Option Str)) (ex : PySem.W.Frag → Bool) (K : PySem.W.Frag) : Bool := (cp.all fun p => cdIs K p && (PySem.W.codeHdIn K (cdAt K p) (tbAt K p) && (K.lookup (tbAt K p)).isNone)) && ex K
def obsT (n : Nat) (fa : List He.Fa) (fn : List He.DefD) (cp : List (Str × Option Str)) (ex : PySem.W.Frag → Bool) (g : Addr → Option Obj) : AlT :=
  (He.obsD fa fn (He.frG g (asT g n)), chk cp ex (He.frG g (asT g n)), cp.map fun p => g (tbAt (He.frG g (asT g n)) p))
def valT (fn : List He.DefD) (cp : List (Str × Option Str)) : AlT := (He.valD fn, true, cp.map fun _ => some (PySem.W.tabObj #[]))
structure Says (fa : List He.Fa) (fn : List He.DefD) (cp : List (Str × Option Str)) (ex : PySem.W.Frag → Bool) (K : PySem.W.Frag) (h : Heap) : Prop where
  hK : K.In h
  says : He.SaysD fa fn K
  chk : chk cp ex K = true
  tab : ∀ p ∈ cp, h.get? (tbAt K p) = some (PySem.W.tabObj #[])
def hookT (n : Nat) (fa : List He.Fa) (fn : List He.DefD) (cp : List (Str × Option Str)) (ex : PySem.W.Frag → Bool) : PySem.W.Hook where
  α := AlT
  obs := fun s => obsT n fa fn cp ex s.heap.get?
  val := fun _ => valT fn cp
  says := fun _ h => ∃ K : PySem.W.Frag, Says fa fn cp ex K h
  of := fun _ s e => by
    have e1 : He.obsD fa fn (He.frG s.heap.get? (asT s.heap.get? n)) = He.valD fn := congrArg (fun z : AlT => z.1) e
    have e2 : chk cp ex (He.frG s.heap.get? (asT s.heap.get? n)) = true := congrArg (fun z : AlT => z.2.1) e
    have e3 : (cp.map fun p => s.heap.get? (tbAt (He.frG s.heap.get? (asT s.heap.get? n)) p)) = cp.map fun _ => some (PySem.W.tabObj #[]) := congrArg (fun z : AlT => z.2.2) e
    exact ⟨_, He.frG_in, e1, e2, fun p hp => List.map_inj_left.mp e3 p hp⟩
  keeps := fun _ _ _ ⟨K, c⟩ k => ⟨K, PySem.W.Frag.In.keeps c.hK k, c.says, c.chk, fun p hp => k _ _ (c.tab p hp)⟩
theorem obsT_eq {n : Nat} {fa : List He.Fa} {fn : List He.DefD} {cp : List (Str × Option Str)} {ex : PySem.W.Frag → Bool} {g : Addr → Option Obj} {s : Shared} (h : ∀ a, g a = s.heap.get? a) : obsT n fa fn cp ex g = (hookT n fa fn cp ex).obs s := by
  have e : g = s.heap.get? := funext h
  rw [e]
  rfl
section
variable {fa : List He.Fa} {fn : List He.DefD} {cp : List (Str × Option Str)} {ex : PySem.W.Frag → Bool} {K : PySem.W.Frag} {h : Heap}
theorem Says.ex_ (c : Says fa fn cp ex K h) : ex K = true := (He.ba c.chk).2
theorem Says.one (c : Says fa fn cp ex K h) {p : Str × Option Str} (hp : p ∈ cp) : cdIs K p = true ∧ PySem.W.CodeHd h (cdAt K p) (tbAt K p) ∧ K.lookup (tbAt K p) = none := by
  have h1 := List.all_eq_true.mp (He.ba c.chk).1 p hp
  obtain ⟨a, b⟩ := He.ba h1
  obtain ⟨b1, b2⟩ := He.ba b
  exact ⟨a, PySem.W.codeHd_of_K c.hK b1, Option.isNone_iff_eq_none.mp b2⟩
end
/-- the promise of a law whose mirror is always True -/
theorem lawSp {g : G} {f : FM} {H : Hp} {a : Addr} {ns : List Int} (ht : ∀ p ∈ g.tb, H p.1 = some (.tbl #[])) (hS : SqL g.K H a (ns.map V.int)) (hf : ∃ st, f [.scr (ns.map D.int)] [] = .ok (.bl true) st) :
    spOf g 1 f [.ref a] H (fun v _ => v = .bl true) fun _ _ _ => False := by
  have intRep : ∀ (F : Hp) (ns : List Int), RepL g F [] (ns.map D.int) (ns.map V.int) := fun F ns => by
    induction ns with
    | nil => exact .nil
    | cons n ns ih => exact .cons rfl ih
  obtain ⟨st, e⟩ := hf
  have key : ∀ F : Hp, (∀ b o, F b = some o → H b = some o) → (∀ b ps, F b ≠ some (.tbl ps)) → RepV g F [] (.scr (ns.map D.int)) (.ref a) → spOf g 1 f [.ref a] H (fun v _ => v = .bl true) fun _ _ _ => False := fun F h1 h2 h3 => by
    refine ⟨rfl, [.scr (ns.map D.int)], [], F, [], ⟨fun b o q => .inl (h1 b o q), rfl, .nil, fun n c q => ?_, fun p hp => ⟨#[], ht p hp, ?_, fun pos cv q => ?_⟩, h2⟩, .one h3, ?_⟩
    · cases q
    · exact trivial
    · cases q
    · rw [e]
      intro v H' F' mu' _ _ rp
      exact rp
  rcases hS with (hS | ⟨od, hS⟩) | hS
  · refine key (fun b => if b = a then H a else none) (fun b o q => ?_) (fun b ps q => ?_) ⟨a, ns.map V.int, rfl, .inr (.inl ?_), intRep _ ns⟩
    · by_cases c : b = a
      · subst c; simpa using q
      · rw [if_neg c] at q; cases q
    · by_cases c : b = a
      · subst c; rw [if_pos rfl, hS] at q; cases q
      · rw [if_neg c] at q; cases q
    · exact (if_pos rfl).trans hS
  · refine key (fun b => if b = a then H a else none) (fun b o q => ?_) (fun b ps q => ?_) ⟨a, ns.map V.int, rfl, .inl ⟨od, ?_⟩, intRep _ ns⟩
    · by_cases c : b = a
      · subst c; simpa using q
      · rw [if_neg c] at q; cases q
    · by_cases c : b = a
      · subst c; rw [if_pos rfl, hS] at q; cases q
      · rw [if_neg c] at q; cases q
    · exact (if_pos rfl).trans hS
  · exact key (fun _ => none) (fun b o q => by cases q) (fun b ps q => by cases q) ⟨a, ns.map V.int, rfl, .inr (.inr hS), intRep _ ns⟩
/-- one class is caught: the i-th -/
theorem caught1 {g : G} {i : Nat} {C : Addr} (h : g.ex i = some C) (x : PySem.W.exmOne g.K (.ref C) (.ref C) = some true) : Caught g C [i] := fun k hk => by
  have e : k = i := by simpa using hk
  subst e
  exact ⟨C, h, x⟩
theorem noLeave {P : Program} {w : World} (H : Hp) (s : Shared) (u : Value) (s' : Shared) : L2.CX P w [] H s (fun _ _ _ => False) u s' → False := fun ⟨_, _, _, _, _, _, _, _, _, _, _, _, q⟩ => q
end Hd
/-! k09: the mirror (printed). -/
namespace K09
open Mir
/-! the mirror -/
/-- Air.__init__: 0 self -/
def b_Air___init__ : SM := (sFldV 0 0 0 (eNew (nDct0 0)))
def f_Air___init__ : XM := fnInit 0 1 1 b_Air___init__
/-- Air.read: 0 self, 1 room, 2 hour, 3 warmth, 4 wetness, 5 rows -/
def b_Air_read : SM := (sSeq (sSet 5 (eGet2 (eFld 0 0 (eV 0)) (eV 1) (eFrz (nLst aNil))))
 (sSeq (sIf (Mir.tOr (Mir.tAnd (tE (eOp2 oNe (eV 5) (eFrz (nLst aNil)))) (tE (eOp2 oLe (eV 2) (eOp2 oGet (eOp2 oGet (eV 5) (eOp1 oNeg (eC (.int 1)))) (eC (.int 0)))))) (Mir.tOr (Mir.tNot (tE (eChain oLe oLe (eC (.int 0)) (eV 4) (eC (.int 100))))) (Mir.tNot (tE (eChain oLe oLe (eOp2 oSub (eC (.int 0)) (eC (.int 400))) (eV 3) (eC (.int 600)))))))
 (sRaise 1)
 sNext)
 (sSeq (sIf (tE (eOp2 oGe (eOpN oLen (aCons (eV 5) aNil)) (eC (.int 5000))))
 (sRaise 1)
 sNext)
 (sAppC (eSetDN (eFld 0 0 (eV 0)) (eV 1) (nLst aNil)) (eTup (aCons (eV 2) (aCons (eV 3) (aCons (eV 4) aNil))))))))
def f_Air_read : FM := fn 6 5 b_Air_read
/-- Air.rows_of: 0 self, 1 room -/
def b_Air_rows_of : SM := (sSeq (sIf (tE (eOp2 oNotIn (eV 1) (eFld 0 0 (eV 0))))
 (sRaise 1)
 sNext)
 (sRet (eOpN oTuple (aCons (eOp2 oGet (eFld 0 0 (eV 0)) (eV 1)) aNil))))
def f_Air_rows_of : FM := fn 2 2 b_Air_rows_of
/-- Air.swing: 0 self, 1 room, 2 hours, 3 rows, 4 best, 5 place, 6 one, 7 other -/
def b_Air_swing : SM := (sSeq (sPar 3 4 (.v (eMeth 0 f_Air_rows_of (eV 0) (aCons (eV 1) aNil))) (.v (eFrz (nLst (aCons (eC (.int 0)) (aCons (eC (.int 0)) aNil))))))
 (sSeq (sIf (tE (eOp2 oLt (eV 2) (eC (.int 0))))
 (sRaise 1)
 sNext)
 (sSeq (sFor (Mir.iEnum (eV 3)) (.tp [(.nm 5), (.nm 6)])
 (sFor (iE (eSl (eV 3) (oSome (eOp2 oAdd (eV 5) (eC (.int 1)))) oNo)) (.nm 7)
 (sIf (tE (eOp2 oLe (eOp2 oSub (eOp2 oGet (eV 7) (eC (.int 0))) (eOp2 oGet (eV 6) (eC (.int 0)))) (eV 2)))
 (sSet 4 (eFrz (nLst (aCons (eOpN oMax2 (aCons (eOp2 oGet (eV 4) (eC (.int 0))) (aCons (eOpN oAbs (aCons (eOp2 oSub (eOp2 oGet (eV 7) (eC (.int 1))) (eOp2 oGet (eV 6) (eC (.int 1)))) aNil)) aNil))) (aCons (eOpN oMax2 (aCons (eOp2 oGet (eV 4) (eC (.int 1))) (aCons (eOpN oAbs (aCons (eOp2 oSub (eOp2 oGet (eV 7) (eC (.int 2))) (eOp2 oGet (eV 6) (eC (.int 2)))) aNil)) aNil))) aNil)))))
 sNext)))
 (sRet (eOpN oTuple (aCons (eV 4) aNil))))))
def f_Air_swing : FM := fn 8 3 b_Air_swing
/-- Air.outside: 0 self, 1 room, 2 warm, 3 wet, 4 found, 5 open_run, 6 hour, 7 warmth, 8 wetness, 9 bad -/
def b_Air_outside : SM := (sSeq (sPar 4 5 (.o (nLst aNil)) (.v (eC .non)))
 (sSeq (sFor (iE (eMeth 0 f_Air_rows_of (eV 0) (aCons (eV 1) aNil))) (.tp [(.nm 6), (.nm 7), (.nm 8)])
 (sSeq (sSet 9 (eOr (eNot (eChain oLe oLe (eOp2 oGet (eV 2) (eC (.int 0))) (eV 7) (eOp2 oGet (eV 2) (eC (.int 1))))) (eNot (eChain oLe oLe (eOp2 oGet (eV 3) (eC (.int 0))) (eV 8) (eOp2 oGet (eV 3) (eC (.int 1)))))))
 (sIf (tE (eV 9))
 (sSet 5 (eIf (tE (eOp2 oNotN (eV 5) (eC .non))) (eTup (aCons (eOp2 oGet (eV 5) (eC (.int 0))) (aCons (eV 6) aNil))) (eTup (aCons (eV 6) (aCons (eV 6) aNil)))))
 (sIf (tE (eOp2 oNotN (eV 5) (eC .non)))
 (sSeq (sAppV 4 (eV 5))
 (sSet 5 (eC .non)))
 sNext))))
 (sRet (eOpN oTuple (aCons (eFrz (nOp2 nCat (eV 4) (eIf (tE (eOp2 oNotN (eV 5) (eC .non))) (eFrz (nLst (aCons (eV 5) aNil))) (eFrz (nLst aNil))))) aNil)))))
def f_Air_outside : FM := fn 10 4 b_Air_outside
/-- rate_of: 0 warmth, 1 wetness, 2 found, 3 step -/
def b_rate_of : SM := (sSeq (sSet 2 (eC (.int 64)))
 (sSeq (sIf (tE (eOp2 oGt (eV 0) (eC (.int 150))))
 (sFor (Mir.iRng1 (eOp2 oFdiv (eOp2 oAdd (eOp2 oSub (eV 0) (eC (.int 150))) (eC (.int 49))) (eC (.int 50)))) (.nm 3)
 (sAug 2 oMul (eC (.int 2))))
 (sFor (Mir.iRng1 (eOp2 oFdiv (eOp2 oSub (eC (.int 150)) (eV 0)) (eC (.int 50)))) (.nm 3)
 (sSet 2 (eOpN oMax2 (aCons (eC (.int 1)) (aCons (eOp2 oFdiv (eV 2) (eC (.int 2))) aNil))))))
 (sRet (eIf (tE (eOp2 oGt (eV 1) (eC (.int 60)))) (eOp2 oMul (eV 2) (eC (.int 2))) (eV 2)))))
def f_rate_of : FM := fn 4 2 b_rate_of
/-- Air.wear: 0 self, 1 room, 2 rows, 3 found, 4 one, 5 other -/
def b_Air_wear : SM := (sSeq (sPar 2 3 (.v (eMeth 0 f_Air_rows_of (eV 0) (aCons (eV 1) aNil))) (.v (eC (.int 0))))
 (sSeq (sFor (Mir.iZip (eV 2) (eSl (eV 2) (oSome (eC (.int 1))) oNo)) (.tp [(.nm 4), (.nm 5)])
 (sAug 3 oAdd (eOp2 oMul (eOp2 oSub (eOp2 oGet (eV 5) (eC (.int 0))) (eOp2 oGet (eV 4) (eC (.int 0)))) (eCall f_rate_of (aCons (eOp2 oGet (eV 4) (eC (.int 1))) (aCons (eOp2 oGet (eV 4) (eC (.int 2))) aNil))))))
 (sRet (eV 3))))
def f_Air_wear : FM := fn 6 2 b_Air_wear
/-- Air.best_room: 0 self, 1 names, 2 best, 3 name, 4 rows, 5 worn, 6 hours -/
def b_Air_best_room : SM := (sSeq (sSet 2 (eC .non))
 (sSeq (sFor (iE (eFrz (nOpN nSorted (aCons (eV 1) aNil)))) (.nm 3)
 (sSeq (sSet 4 (eMeth 0 f_Air_rows_of (eV 0) (aCons (eV 3) aNil)))
 (sIf (tE (eOp2 oGt (eOpN oLen (aCons (eV 4) aNil)) (eC (.int 1))))
 (sSeq (sPar 5 6 (.v (eMeth 0 f_Air_wear (eV 0) (aCons (eV 3) aNil))) (.v (eOp2 oSub (eOp2 oGet (eOp2 oGet (eV 4) (eOp1 oNeg (eC (.int 1)))) (eC (.int 0))) (eOp2 oGet (eOp2 oGet (eV 4) (eC (.int 0))) (eC (.int 0))))))
 (sIf (Mir.tOr (tE (eOp2 oIsN (eV 2) (eC .non))) (tE (eOp2 oLt (eOp2 oMul (eV 5) (eOp2 oGet (eV 2) (eC (.int 1)))) (eOp2 oMul (eOp2 oGet (eV 2) (eC (.int 0))) (eV 6)))))
 (sSet 2 (eTup (aCons (eV 5) (aCons (eV 6) (aCons (eV 3) aNil)))))
 sNext))
 sNext)))
 (sSeq (sIf (tE (eOp2 oIsN (eV 2) (eC .non)))
 (sRaise 1)
 sNext)
 (sRet (eOp2 oGet (eV 2) (eC (.int 2)))))))
def f_Air_best_room : FM := fn 7 2 b_Air_best_room
/-- _law_dice: 0 cell -/
def b_law_dice : SM := (sSeq (sIf (tE (eChain oLt oLt (eOp2 oSub (eC (.int 0)) (eC (.int 10))) (eV 0) (eC (.int 10))))
 (sRet (eNew (nLst (aCons (eOpN oAbs (aCons (eV 0) aNil)) (aCons (eC (.int 0)) (aCons (eC (.int 2)) aNil))))))
 sNext)
 (sRet (eNew (nLst (aCons (eV 0) (aCons (eOp2 oAdd (eC (.int 1)) (eOp2 oMod (eOpN oInt (aCons (eV 0) aNil)) (eC (.int 1009)))) (aCons (eOpN oInt (aCons (eOp2 oGe (eV 0) (eOp2 oPow (eC (.int 10)) (eC (.int 18)))) aNil)) aNil)))))))
def f_law_dice : FM := fn 1 1 b_law_dice
/-- _law_roll: 0 dice, 1 many, 2 found -/
def b_law_roll : SM := (sSeq (sIf (Mir.tOr (tE (eOp2 oEq (eOp2 oGet (eV 0) (eC (.int 2))) (eC (.int 2)))) (Mir.tAnd (tE (eOp2 oEq (eOp2 oGet (eV 0) (eC (.int 2))) (eC (.int 1)))) (tE (eOp2 oGt (eOp2 oGet (eV 0) (eC (.int 0))) (eC (.int 0))))))
 (sSeq (sSet 2 (eOp2 oMod (eOpN oInt (aCons (eOp2 oGet (eV 0) (eC (.int 0))) aNil)) (eV 1)))
 (sSeq (sPutL (eV 0) (eC (.int 0)) (eOp2 oFdiv (eOp2 oGet (eV 0) (eC (.int 0))) (eV 1)))
 (sRet (eV 2))))
 sNext)
 (sSeq (sPutL (eV 0) (eC (.int 2)) (eC (.int 0)))
 (sSeq (sIf (tE (eOp2 oGt (eV 1) (eC (.int 100000000))))
 sDead
 sNext)
 (sSeq (sPutL (eV 0) (eC (.int 0)) (eOp2 oMod (eOpN oInt (aCons (eOp2 oAdd (eOp2 oAdd (eOp2 oMul (eOp2 oGet (eV 0) (eC (.int 0))) (eC (.int 48271))) (eOp2 oMul (eOp2 oGet (eV 0) (eC (.int 1))) (eC (.int 69621)))) (eC (.int 11))) aNil)) (eC (.int 2147483647))))
 (sSeq (sPutL (eV 0) (eC (.int 1)) (eOp2 oAdd (eOp2 oGet (eV 0) (eC (.int 1))) (eC (.int 1))))
 (sRet (eOp2 oMod (eOpN oInt (aCons (eOp2 oFdiv (eOp2 oGet (eV 0) (eC (.int 0))) (eC (.int 7))) aNil)) (eV 1))))))))
def f_law_roll : FM := fn 3 2 b_law_roll
/-- _law_rounds: 0 script, 1 most, 2 cells, 3 cell -/
def b_law_rounds : SM := (sSeq (sSet 2 (eFrz (nSl (eV 0) oNo (oSome (eV 1)))))
 (sSeq (sIf (tE (eOp2 oEq (eV 2) (eFrz (nLst aNil))))
 (sSet 2 (eFrz (nLst (aCons (eC (.int 0)) aNil))))
 sNext)
 (sRet (eFrz (nLc (iE (eV 2)) (.nm 3) Mir.tYes (eCall f_law_dice (aCons (eV 3) aNil)) [3])))))
def f_law_rounds : FM := fn 4 2 b_law_rounds
/-- _law_rate: 0 warmth, 1 wetness, 2 steps, 3 halves, 4 rate -/
def b_law_rate : SM := (sSeq (sSet 2 (eIf (tE (eOp2 oGt (eV 0) (eC (.int 150)))) (eOp1 oNeg (eOp2 oFdiv (eOp1 oNeg (eOp2 oSub (eV 0) (eC (.int 150)))) (eC (.int 50)))) (eC (.int 0))))
 (sSeq (sSet 3 (eIf (tE (eOp2 oLe (eV 0) (eC (.int 150)))) (eOp2 oFdiv (eOp2 oSub (eC (.int 150)) (eV 0)) (eC (.int 50))) (eC (.int 0))))
 (sSeq (sSet 4 (eIf (tE (eOp2 oGt (eV 2) (eC (.int 0)))) (eOp2 oMul (eC (.int 64)) (eOp2 oShl (eC (.int 1)) (eV 2))) (eOpN oMax2 (aCons (eC (.int 1)) (aCons (eOp2 oFdiv (eC (.int 64)) (eOp2 oShl (eC (.int 1)) (eV 3))) aNil)))))
 (sRet (eOp2 oMul (eV 4) (eIf (tE (eOp2 oGt (eV 1) (eC (.int 60)))) (eC (.int 2)) (eC (.int 1))))))))
def f_law_rate : FM := fn 5 2 b_law_rate
/-- law: 0 script, 1 dice, 2 air, 3 own, 4 step, 5 room, 6 rows, 7 last, 8 row, 9 good, 10 wears, 11 hours, 12 pairs, 13 k, 14 warm, 15 wet, 16 bad, 17 runs, 18 start, 19 here, 20 worn, 21 best, 22 j, 23 pair, 24 f -/
def b_law : SM := (sSeq (sFor (iE (eCall f_law_rounds (aCons (eV 0) (aCons (eC (.int 1)) aNil)))) (.nm 1)
 (sSeq (sUnp (.tp [(.nm 2), (.nm 3)]) (eTup (aCons (eNew (nMake 0 f_Air___init__ aNil)) (aCons (eFrz (nDct0 0)) aNil))))
 (sSeq (sFor (Mir.iRng1 (eCall f_law_roll (aCons (eV 1) (aCons (eC (.int 41)) aNil)))) (.nm 4)
 (sSeq (sUnp (.tp [(.nm 5), (.nm 6)]) (eTup (aCons (eOp2 oGet (eC (.str [97, 98, 99])) (eCall f_law_roll (aCons (eV 1) (aCons (eC (.int 3)) aNil)))) (aCons (eFrz (nLst aNil)) aNil))))
 (sSeq (sSet 6 (eGet2 (eV 3) (eV 5) (eFrz (nLst aNil))))
 (sSeq (sSet 7 (eIf (tE (eOp2 oNe (eV 6) (eFrz (nLst aNil)))) (eOp2 oGet (eOp2 oGet (eV 6) (eOp2 oSub (eOpN oLen (aCons (eV 6) aNil)) (eC (.int 1)))) (eC (.int 0))) (eCall f_law_roll (aCons (eV 1) (aCons (eC (.int 20)) aNil)))))
 (sSeq (sSet 8 (eTup (aCons (eOp2 oSub (eOp2 oAdd (eV 7) (eCall f_law_roll (aCons (eV 1) (aCons (eC (.int 30)) aNil)))) (eOpN oInt (aCons (eOp2 oEq (eCall f_law_roll (aCons (eV 1) (aCons (eC (.int 9)) aNil))) (eC (.int 0))) aNil))) (aCons (eOp2 oSub (eCall f_law_roll (aCons (eV 1) (aCons (eC (.int 500)) aNil))) (eC (.int 50))) (aCons (eCall f_law_roll (aCons (eV 1) (aCons (eC (.int 102)) aNil))) aNil)))))
 (sSeq (sSet 9 (eAnd (eOp2 oLe (eOp2 oGet (eV 8) (eC (.int 2))) (eC (.int 100))) (eOr (eOp2 oEq (eV 6) (eFrz (nLst aNil))) (eOp2 oGt (eOp2 oGet (eV 8) (eC (.int 0))) (eV 7)))))
 (sSeq (sIf (tE (eOp2 oEq (eOp2 oEq (eTold [1] [76, 111, 97, 110, 69, 114, 114, 111, 114] (eMeth 0 f_Air_read (eV 2) (aCons (eV 5) (aCons (eOp2 oGet (eV 8) (eC (.int 0))) (aCons (eOp2 oGet (eV 8) (eC (.int 1))) (aCons (eOp2 oGet (eV 8) (eC (.int 2))) aNil)))))) (eC (.str [76, 111, 97, 110, 69, 114, 114, 111, 114]))) (eV 9)))
 (sRet (eC (.bl false)))
 sNext)
 (sSet 3 (eFrz (nOpN nDict (aCons (eFrz (nOp2 nCat (eFrz (nItems (eV 3))) (eFrz (nOp2 nRep (eFrz (nLst (aCons (eTup (aCons (eV 5) (aCons (eFrz (nOp2 nCat (eV 6) (eFrz (nLst (aCons (eV 8) aNil))))) aNil))) aNil))) (eOpN oInt (aCons (eV 9) aNil)))))) aNil)))))))))))
 (sSeq (sSet 10 (eFrz (nLst aNil)))
 (sSeq (sFor (iE (eFrz (nOpN nSorted (aCons (eV 3) aNil)))) (.nm 5)
 (sSeq (sUnp (.tp [(.nm 6), (.nm 11)]) (eTup (aCons (eOp2 oGet (eV 3) (eV 5)) (aCons (eCall f_law_roll (aCons (eV 1) (aCons (eC (.int 100)) aNil))) aNil))))
 (sSeq (sSet 12 (eFrz (nLst aNil)))
 (sSeq (sFor (Mir.iRng1 (eOpN oLen (aCons (eV 6) aNil))) (.nm 13)
 (sSet 12 (eFrz (nOp2 nCat (eV 12) (eFrz (nLc (Mir.iRng2 (eV 13) (eOpN oLen (aCons (eV 6) aNil))) (.nm 22) (tE (eOp2 oLe (eOp2 oSub (eOp2 oGet (eOp2 oGet (eV 6) (eV 22)) (eC (.int 0))) (eOp2 oGet (eOp2 oGet (eV 6) (eV 13)) (eC (.int 0)))) (eV 11))) (eTup (aCons (eOpN oAbs (aCons (eOp2 oSub (eOp2 oGet (eOp2 oGet (eV 6) (eV 22)) (eC (.int 1))) (eOp2 oGet (eOp2 oGet (eV 6) (eV 13)) (eC (.int 1)))) aNil)) (aCons (eOpN oAbs (aCons (eOp2 oSub (eOp2 oGet (eOp2 oGet (eV 6) (eV 22)) (eC (.int 2))) (eOp2 oGet (eOp2 oGet (eV 6) (eV 13)) (eC (.int 2)))) aNil)) aNil))) [22]))))))
 (sSeq (sIf (Mir.tOr (tE (eOp2 oNe (eFrz (nOpN nList (aCons (eMeth 0 f_Air_rows_of (eV 2) (aCons (eV 5) aNil)) aNil))) (eV 6))) (tE (eOp2 oNe (eMeth 0 f_Air_swing (eV 2) (aCons (eV 5) (aCons (eV 11) aNil))) (eTup (aCons (eOpN oMaxL (aCons (eFrz (nLc (iE (eV 12)) (.nm 23) Mir.tYes (eOp2 oGet (eV 23) (eC (.int 0))) [23])) aNil)) (aCons (eOpN oMaxL (aCons (eFrz (nLc (iE (eV 12)) (.nm 23) Mir.tYes (eOp2 oGet (eV 23) (eC (.int 1))) [23])) aNil)) aNil))))))
 (sRet (eC (.bl false)))
 sNext)
 (sSeq (sUnp (.tp [(.nm 14), (.nm 15)]) (eTup (aCons (eTup (aCons (eCall f_law_roll (aCons (eV 1) (aCons (eC (.int 200)) aNil))) (aCons (eOp2 oAdd (eC (.int 200)) (eCall f_law_roll (aCons (eV 1) (aCons (eC (.int 200)) aNil)))) aNil))) (aCons (eTup (aCons (eCall f_law_roll (aCons (eV 1) (aCons (eC (.int 50)) aNil))) (aCons (eOp2 oAdd (eC (.int 50)) (eCall f_law_roll (aCons (eV 1) (aCons (eC (.int 50)) aNil)))) aNil))) aNil))))
 (sSeq (sSet 16 (eFrz (nLc (iE (eV 6)) (.nm 8) Mir.tYes (eNot (eAnd (eChain oLe oLe (eOp2 oGet (eV 14) (eC (.int 0))) (eOp2 oGet (eV 8) (eC (.int 1))) (eOp2 oGet (eV 14) (eC (.int 1)))) (eChain oLe oLe (eOp2 oGet (eV 15) (eC (.int 0))) (eOp2 oGet (eV 8) (eC (.int 2))) (eOp2 oGet (eV 15) (eC (.int 1)))))) [8])))
 (sSeq (sPar 17 18 (.v (eFrz (nLst aNil))) (.v (eC .non)))
 (sSeq (sFor (Mir.iRng1 (eOp2 oAdd (eOpN oLen (aCons (eV 6) aNil)) (eC (.int 1)))) (.nm 13)
 (sSeq (sSet 19 (eAnd (eOp2 oLt (eV 13) (eOpN oLen (aCons (eV 6) aNil))) (eOp2 oGet (eV 16) (eV 13))))
 (sSeq (sIf (Mir.tAnd (tE (eV 19)) (tE (eOp2 oIsN (eV 18) (eC .non))))
 (sSet 18 (eV 13))
 sNext)
 (sIf (Mir.tAnd (Mir.tNot (tE (eV 19))) (tE (eOp2 oNotN (eV 18) (eC .non))))
 (sPar 17 18 (.v (eFrz (nOp2 nCat (eV 17) (eFrz (nLst (aCons (eTup (aCons (eOp2 oGet (eOp2 oGet (eV 6) (eV 18)) (eC (.int 0))) (aCons (eOp2 oGet (eOp2 oGet (eV 6) (eOp2 oSub (eV 13) (eC (.int 1)))) (eC (.int 0))) aNil))) aNil)))))) (.v (eC .non)))
 sNext))))
 (sSeq (sIf (tE (eOp2 oNe (eFrz (nOpN nList (aCons (eMeth 0 f_Air_outside (eV 2) (aCons (eV 5) (aCons (eV 14) (aCons (eV 15) aNil)))) aNil))) (eV 17)))
 (sRet (eC (.bl false)))
 sNext)
 (sSeq (sSet 20 (eOpN oSum (aCons (eFrz (nLc (Mir.iRng1 (eOp2 oSub (eOpN oLen (aCons (eV 6) aNil)) (eC (.int 1)))) (.nm 13) Mir.tYes (eOp2 oMul (eOp2 oSub (eOp2 oGet (eOp2 oGet (eV 6) (eOp2 oAdd (eV 13) (eC (.int 1)))) (eC (.int 0))) (eOp2 oGet (eOp2 oGet (eV 6) (eV 13)) (eC (.int 0)))) (eCall f_law_rate (aCons (eOp2 oGet (eOp2 oGet (eV 6) (eV 13)) (eC (.int 1))) (aCons (eOp2 oGet (eOp2 oGet (eV 6) (eV 13)) (eC (.int 2))) aNil)))) [13])) aNil)))
 (sSeq (sIf (Mir.tOr (tE (eOp2 oNe (eMeth 0 f_Air_wear (eV 2) (aCons (eV 5) aNil)) (eV 20))) (tE (eOp2 oNe (eCall f_rate_of (aCons (eOp2 oGet (eOp2 oGet (eV 6) (eC (.int 0))) (eC (.int 1))) (aCons (eOp2 oGet (eOp2 oGet (eV 6) (eC (.int 0))) (eC (.int 2))) aNil))) (eCall f_law_rate (aCons (eOp2 oGet (eOp2 oGet (eV 6) (eC (.int 0))) (eC (.int 1))) (aCons (eOp2 oGet (eOp2 oGet (eV 6) (eC (.int 0))) (eC (.int 2))) aNil))))))
 (sRet (eC (.bl false)))
 sNext)
 (sSet 10 (eFrz (nOp2 nCat (eV 10) (eFrz (nOp2 nRep (eFrz (nLst (aCons (eTup (aCons (eV 5) (aCons (eV 20) (aCons (eOp2 oSub (eOp2 oGet (eOp2 oGet (eV 6) (eOp2 oSub (eOpN oLen (aCons (eV 6) aNil)) (eC (.int 1)))) (eC (.int 0))) (eOp2 oGet (eOp2 oGet (eV 6) (eC (.int 0))) (eC (.int 0)))) aNil)))) aNil))) (eOpN oInt (aCons (eOp2 oGt (eOpN oLen (aCons (eV 6) aNil)) (eC (.int 1))) aNil)))))))))))))))))))
 (sSeq (sSet 21 (eC .non))
 (sSeq (sFor (iE (eV 10)) (.tp [(.nm 5), (.nm 20), (.nm 11)])
 (sIf (Mir.tOr (tE (eOp2 oIsN (eV 21) (eC .non))) (tE (eOp2 oLt (eOp2 oMul (eV 20) (eOp2 oGet (eV 21) (eC (.int 2)))) (eOp2 oMul (eOp2 oGet (eV 21) (eC (.int 1))) (eV 11)))))
 (sSet 21 (eTup (aCons (eV 5) (aCons (eV 20) (aCons (eV 11) aNil)))))
 sNext))
 (sIf (tE (eOp2 oNe (eTold [1] [76, 111, 97, 110, 69, 114, 114, 111, 114] (eMeth 0 f_Air_best_room (eV 2) (aCons (eFrz (nRev (eFrz (nOpN nSorted (aCons (eV 3) aNil))))) aNil))) (eIf (tE (eOp2 oNotN (eV 21) (eC .non))) (eOp2 oGet (eV 21) (eC (.int 0))) (eC (.str [76, 111, 97, 110, 69, 114, 114, 111, 114])))))
 (sRet (eC (.bl false)))
 sNext))))))))
 (sSeq (sSet 2 (eNew (nMake 0 f_Air___init__ aNil)))
 (sSeq (sExpr (eMeth 0 f_Air_read (eV 2) (aCons (eC (.str [97])) (aCons (eC (.int 0)) (aCons (eC (.int 150)) (aCons (eC (.int 50)) aNil))))))
 (sBad 16 (sBadThen 24 [1] [76, 111, 97, 110, 69, 114, 114, 111, 114] [(eMeth 0 f_Air_read (eV 2) (aCons (eC (.str [97])) (aCons (eC (.int 0)) (aCons (eC (.int 150)) (aCons (eC (.int 50)) aNil))))),
 (eMeth 0 f_Air_read (eV 2) (aCons (eC (.str [97])) (aCons (eC (.int 1)) (aCons (eC (.int 601)) (aCons (eC (.int 50)) aNil))))),
 (eMeth 0 f_Air_read (eV 2) (aCons (eC (.str [97])) (aCons (eC (.int 1)) (aCons (eOp1 oNeg (eC (.int 401))) (aCons (eC (.int 50)) aNil))))),
 (eMeth 0 f_Air_read (eV 2) (aCons (eC (.str [97])) (aCons (eC (.int 1)) (aCons (eC (.int 0)) (aCons (eOp1 oNeg (eC (.int 1))) aNil))))),
 (eMeth 0 f_Air_rows_of (eV 2) (aCons (eC (.str [98])) aNil)),
 (eMeth 0 f_Air_swing (eV 2) (aCons (eC (.str [97])) (aCons (eOp1 oNeg (eC (.int 1))) aNil))),
 (eMeth 0 f_Air_swing (eV 2) (aCons (eC (.str [98])) (aCons (eC (.int 1)) aNil))),
 (eMeth 0 f_Air_outside (eV 2) (aCons (eC (.str [98])) (aCons (eTup (aCons (eC (.int 0)) (aCons (eC (.int 1)) aNil))) (aCons (eTup (aCons (eC (.int 0)) (aCons (eC (.int 1)) aNil))) aNil)))),
 (eMeth 0 f_Air_wear (eV 2) (aCons (eC (.str [98])) aNil)),
 (eMeth 0 f_Air_best_room (eV 2) (aCons (eFrz (nLst (aCons (eC (.str [97])) aNil))) aNil)),
 (eMeth 0 f_Air_best_room (eV 2) (aCons (eFrz (nLst aNil)) aNil)),
 (eMeth 0 f_Air_best_room (eV 2) (aCons (eFrz (nLst (aCons (eC (.str [98])) aNil))) aNil))]
 (sRet (eAnd (eOp2 oEq (eFrz (nLst (aCons (eCall f_rate_of (aCons (eC (.int 150)) (aCons (eC (.int 60)) aNil))) (aCons (eCall f_rate_of (aCons (eC (.int 151)) (aCons (eC (.int 60)) aNil))) (aCons (eCall f_rate_of (aCons (eC (.int 100)) (aCons (eC (.int 61)) aNil))) (aCons (eCall f_rate_of (aCons (eOp1 oNeg (eC (.int 400))) (aCons (eC (.int 0)) aNil))) aNil)))))) (eFrz (nLst (aCons (eC (.int 64)) (aCons (eC (.int 128)) (aCons (eC (.int 64)) (aCons (eC (.int 1)) aNil))))))) (eAnd (eOp2 oEq (eC (.int 5000)) (eC (.int 5000))) (eOp2 oEq (eMeth 0 f_Air_wear (eV 2) (aCons (eC (.str [97])) aNil)) (eC (.int 0)))))))))))
def f_law : FM := fn 25 1 b_law
end K09
/-! k09: the parts of law (printed by cut.py). -/
namespace K09
open Mir
def b_step : SM := (sSeq (sUnp (.tp [(.nm 5), (.nm 6)]) (eTup (aCons (eOp2 oGet (eC (.str [97, 98, 99])) (eCall f_law_roll (aCons (eV 1) (aCons (eC (.int 3)) aNil)))) (aCons (eFrz (nLst aNil)) aNil)))) (sSeq (sSet 6 (eGet2 (eV 3) (eV 5) (eFrz (nLst aNil)))) (sSeq (sSet 7 (eIf (tE (eOp2 oNe (eV 6) (eFrz (nLst aNil)))) (eOp2 oGet (eOp2 oGet (eV 6) (eOp2 oSub (eOpN oLen (aCons (eV 6) aNil)) (eC (.int 1)))) (eC (.int 0))) (eCall f_law_roll (aCons (eV 1) (aCons (eC (.int 20)) aNil))))) (sSeq (sSet 8 (eTup (aCons (eOp2 oSub (eOp2 oAdd (eV 7) (eCall f_law_roll (aCons (eV 1) (aCons (eC (.int 30)) aNil)))) (eOpN oInt (aCons (eOp2 oEq (eCall f_law_roll (aCons (eV 1) (aCons (eC (.int 9)) aNil))) (eC (.int 0))) aNil))) (aCons (eOp2 oSub (eCall f_law_roll (aCons (eV 1) (aCons (eC (.int 500)) aNil))) (eC (.int 50))) (aCons (eCall f_law_roll (aCons (eV 1) (aCons (eC (.int 102)) aNil))) aNil))))) (sSeq (sSet 9 (eAnd (eOp2 oLe (eOp2 oGet (eV 8) (eC (.int 2))) (eC (.int 100))) (eOr (eOp2 oEq (eV 6) (eFrz (nLst aNil))) (eOp2 oGt (eOp2 oGet (eV 8) (eC (.int 0))) (eV 7))))) (sSeq (sIf (tE (eOp2 oEq (eOp2 oEq (eTold [1] [76, 111, 97, 110, 69, 114, 114, 111, 114] (eMeth 0 f_Air_read (eV 2) (aCons (eV 5) (aCons (eOp2 oGet (eV 8) (eC (.int 0))) (aCons (eOp2 oGet (eV 8) (eC (.int 1))) (aCons (eOp2 oGet (eV 8) (eC (.int 2))) aNil)))))) (eC (.str [76, 111, 97, 110, 69, 114, 114, 111, 114]))) (eV 9))) (sRet (eC (.bl false))) sNext) (sSet 3 (eFrz (nOpN nDict (aCons (eFrz (nOp2 nCat (eFrz (nItems (eV 3))) (eFrz (nOp2 nRep (eFrz (nLst (aCons (eTup (aCons (eV 5) (aCons (eFrz (nOp2 nCat (eV 6) (eFrz (nLst (aCons (eV 8) aNil))))) aNil))) aNil))) (eOpN oInt (aCons (eV 9) aNil)))))) aNil))))))))))
def b_pairs : SM := (sSet 12 (eFrz (nOp2 nCat (eV 12) (eFrz (nLc (Mir.iRng2 (eV 13) (eOpN oLen (aCons (eV 6) aNil))) (.nm 22) (tE (eOp2 oLe (eOp2 oSub (eOp2 oGet (eOp2 oGet (eV 6) (eV 22)) (eC (.int 0))) (eOp2 oGet (eOp2 oGet (eV 6) (eV 13)) (eC (.int 0)))) (eV 11))) (eTup (aCons (eOpN oAbs (aCons (eOp2 oSub (eOp2 oGet (eOp2 oGet (eV 6) (eV 22)) (eC (.int 1))) (eOp2 oGet (eOp2 oGet (eV 6) (eV 13)) (eC (.int 1)))) aNil)) (aCons (eOpN oAbs (aCons (eOp2 oSub (eOp2 oGet (eOp2 oGet (eV 6) (eV 22)) (eC (.int 2))) (eOp2 oGet (eOp2 oGet (eV 6) (eV 13)) (eC (.int 2)))) aNil)) aNil))) [22])))))
def b_runs : SM := (sSeq (sSet 19 (eAnd (eOp2 oLt (eV 13) (eOpN oLen (aCons (eV 6) aNil))) (eOp2 oGet (eV 16) (eV 13)))) (sSeq (sIf (Mir.tAnd (tE (eV 19)) (tE (eOp2 oIsN (eV 18) (eC .non)))) (sSet 18 (eV 13)) sNext) (sIf (Mir.tAnd (Mir.tNot (tE (eV 19))) (tE (eOp2 oNotN (eV 18) (eC .non)))) (sPar 17 18 (.v (eFrz (nOp2 nCat (eV 17) (eFrz (nLst (aCons (eTup (aCons (eOp2 oGet (eOp2 oGet (eV 6) (eV 18)) (eC (.int 0))) (aCons (eOp2 oGet (eOp2 oGet (eV 6) (eOp2 oSub (eV 13) (eC (.int 1)))) (eC (.int 0))) aNil))) aNil)))))) (.v (eC .non))) sNext)))
def b_room : SM := (sSeq (sUnp (.tp [(.nm 6), (.nm 11)]) (eTup (aCons (eOp2 oGet (eV 3) (eV 5)) (aCons (eCall f_law_roll (aCons (eV 1) (aCons (eC (.int 100)) aNil))) aNil)))) (sSeq (sSet 12 (eFrz (nLst aNil))) (sSeq (sFor (Mir.iRng1 (eOpN oLen (aCons (eV 6) aNil))) (.nm 13) b_pairs) (sSeq (sIf (Mir.tOr (tE (eOp2 oNe (eFrz (nOpN nList (aCons (eMeth 0 f_Air_rows_of (eV 2) (aCons (eV 5) aNil)) aNil))) (eV 6))) (tE (eOp2 oNe (eMeth 0 f_Air_swing (eV 2) (aCons (eV 5) (aCons (eV 11) aNil))) (eTup (aCons (eOpN oMaxL (aCons (eFrz (nLc (iE (eV 12)) (.nm 23) Mir.tYes (eOp2 oGet (eV 23) (eC (.int 0))) [23])) aNil)) (aCons (eOpN oMaxL (aCons (eFrz (nLc (iE (eV 12)) (.nm 23) Mir.tYes (eOp2 oGet (eV 23) (eC (.int 1))) [23])) aNil)) aNil)))))) (sRet (eC (.bl false))) sNext) (sSeq (sUnp (.tp [(.nm 14), (.nm 15)]) (eTup (aCons (eTup (aCons (eCall f_law_roll (aCons (eV 1) (aCons (eC (.int 200)) aNil))) (aCons (eOp2 oAdd (eC (.int 200)) (eCall f_law_roll (aCons (eV 1) (aCons (eC (.int 200)) aNil)))) aNil))) (aCons (eTup (aCons (eCall f_law_roll (aCons (eV 1) (aCons (eC (.int 50)) aNil))) (aCons (eOp2 oAdd (eC (.int 50)) (eCall f_law_roll (aCons (eV 1) (aCons (eC (.int 50)) aNil)))) aNil))) aNil)))) (sSeq (sSet 16 (eFrz (nLc (iE (eV 6)) (.nm 8) Mir.tYes (eNot (eAnd (eChain oLe oLe (eOp2 oGet (eV 14) (eC (.int 0))) (eOp2 oGet (eV 8) (eC (.int 1))) (eOp2 oGet (eV 14) (eC (.int 1)))) (eChain oLe oLe (eOp2 oGet (eV 15) (eC (.int 0))) (eOp2 oGet (eV 8) (eC (.int 2))) (eOp2 oGet (eV 15) (eC (.int 1)))))) [8]))) (sSeq (sPar 17 18 (.v (eFrz (nLst aNil))) (.v (eC .non))) (sSeq (sFor (Mir.iRng1 (eOp2 oAdd (eOpN oLen (aCons (eV 6) aNil)) (eC (.int 1)))) (.nm 13) b_runs) (sSeq (sIf (tE (eOp2 oNe (eFrz (nOpN nList (aCons (eMeth 0 f_Air_outside (eV 2) (aCons (eV 5) (aCons (eV 14) (aCons (eV 15) aNil)))) aNil))) (eV 17))) (sRet (eC (.bl false))) sNext) (sSeq (sSet 20 (eOpN oSum (aCons (eFrz (nLc (Mir.iRng1 (eOp2 oSub (eOpN oLen (aCons (eV 6) aNil)) (eC (.int 1)))) (.nm 13) Mir.tYes (eOp2 oMul (eOp2 oSub (eOp2 oGet (eOp2 oGet (eV 6) (eOp2 oAdd (eV 13) (eC (.int 1)))) (eC (.int 0))) (eOp2 oGet (eOp2 oGet (eV 6) (eV 13)) (eC (.int 0)))) (eCall f_law_rate (aCons (eOp2 oGet (eOp2 oGet (eV 6) (eV 13)) (eC (.int 1))) (aCons (eOp2 oGet (eOp2 oGet (eV 6) (eV 13)) (eC (.int 2))) aNil)))) [13])) aNil))) (sSeq (sIf (Mir.tOr (tE (eOp2 oNe (eMeth 0 f_Air_wear (eV 2) (aCons (eV 5) aNil)) (eV 20))) (tE (eOp2 oNe (eCall f_rate_of (aCons (eOp2 oGet (eOp2 oGet (eV 6) (eC (.int 0))) (eC (.int 1))) (aCons (eOp2 oGet (eOp2 oGet (eV 6) (eC (.int 0))) (eC (.int 2))) aNil))) (eCall f_law_rate (aCons (eOp2 oGet (eOp2 oGet (eV 6) (eC (.int 0))) (eC (.int 1))) (aCons (eOp2 oGet (eOp2 oGet (eV 6) (eC (.int 0))) (eC (.int 2))) aNil)))))) (sRet (eC (.bl false))) sNext) (sSet 10 (eFrz (nOp2 nCat (eV 10) (eFrz (nOp2 nRep (eFrz (nLst (aCons (eTup (aCons (eV 5) (aCons (eV 20) (aCons (eOp2 oSub (eOp2 oGet (eOp2 oGet (eV 6) (eOp2 oSub (eOpN oLen (aCons (eV 6) aNil)) (eC (.int 1)))) (eC (.int 0))) (eOp2 oGet (eOp2 oGet (eV 6) (eC (.int 0))) (eC (.int 0)))) aNil)))) aNil))) (eOpN oInt (aCons (eOp2 oGt (eOpN oLen (aCons (eV 6) aNil)) (eC (.int 1))) aNil))))))))))))))))))
def b_pick : SM := (sIf (Mir.tOr (tE (eOp2 oIsN (eV 21) (eC .non))) (tE (eOp2 oLt (eOp2 oMul (eV 20) (eOp2 oGet (eV 21) (eC (.int 2)))) (eOp2 oMul (eOp2 oGet (eV 21) (eC (.int 1))) (eV 11))))) (sSet 21 (eTup (aCons (eV 5) (aCons (eV 20) (aCons (eV 11) aNil))))) sNext)
def b_round : SM := (sSeq (sUnp (.tp [(.nm 2), (.nm 3)]) (eTup (aCons (eNew (nMake 0 f_Air___init__ aNil)) (aCons (eFrz (nDct0 0)) aNil)))) (sSeq (sFor (Mir.iRng1 (eCall f_law_roll (aCons (eV 1) (aCons (eC (.int 41)) aNil)))) (.nm 4) b_step) (sSeq (sSet 10 (eFrz (nLst aNil))) (sSeq (sFor (iE (eFrz (nOpN nSorted (aCons (eV 3) aNil)))) (.nm 5) b_room) (sSeq (sSet 21 (eC .non)) (sSeq (sFor (iE (eV 10)) (.tp [(.nm 5), (.nm 20), (.nm 11)]) b_pick) (sIf (tE (eOp2 oNe (eTold [1] [76, 111, 97, 110, 69, 114, 114, 111, 114] (eMeth 0 f_Air_best_room (eV 2) (aCons (eFrz (nRev (eFrz (nOpN nSorted (aCons (eV 3) aNil))))) aNil))) (eIf (tE (eOp2 oNotN (eV 21) (eC .non))) (eOp2 oGet (eV 21) (eC (.int 0))) (eC (.str [76, 111, 97, 110, 69, 114, 114, 111, 114]))))) (sRet (eC (.bl false))) sNext)))))))
def b_law_cut : SM := (sSeq (sFor (iE (eCall f_law_rounds (aCons (eV 0) (aCons (eC (.int 1)) aNil)))) (.nm 1) b_round) (sSeq (sSet 2 (eNew (nMake 0 f_Air___init__ aNil))) (sSeq (sExpr (eMeth 0 f_Air_read (eV 2) (aCons (eC (.str [97])) (aCons (eC (.int 0)) (aCons (eC (.int 150)) (aCons (eC (.int 50)) aNil)))))) (sBad 16 (sBadThen 24 [1] [76, 111, 97, 110, 69, 114, 114, 111, 114] [(eMeth 0 f_Air_read (eV 2) (aCons (eC (.str [97])) (aCons (eC (.int 0)) (aCons (eC (.int 150)) (aCons (eC (.int 50)) aNil))))), (eMeth 0 f_Air_read (eV 2) (aCons (eC (.str [97])) (aCons (eC (.int 1)) (aCons (eC (.int 601)) (aCons (eC (.int 50)) aNil))))), (eMeth 0 f_Air_read (eV 2) (aCons (eC (.str [97])) (aCons (eC (.int 1)) (aCons (eOp1 oNeg (eC (.int 401))) (aCons (eC (.int 50)) aNil))))), (eMeth 0 f_Air_read (eV 2) (aCons (eC (.str [97])) (aCons (eC (.int 1)) (aCons (eC (.int 0)) (aCons (eOp1 oNeg (eC (.int 1))) aNil))))), (eMeth 0 f_Air_rows_of (eV 2) (aCons (eC (.str [98])) aNil)), (eMeth 0 f_Air_swing (eV 2) (aCons (eC (.str [97])) (aCons (eOp1 oNeg (eC (.int 1))) aNil))), (eMeth 0 f_Air_swing (eV 2) (aCons (eC (.str [98])) (aCons (eC (.int 1)) aNil))), (eMeth 0 f_Air_outside (eV 2) (aCons (eC (.str [98])) (aCons (eTup (aCons (eC (.int 0)) (aCons (eC (.int 1)) aNil))) (aCons (eTup (aCons (eC (.int 0)) (aCons (eC (.int 1)) aNil))) aNil)))), (eMeth 0 f_Air_wear (eV 2) (aCons (eC (.str [98])) aNil)), (eMeth 0 f_Air_best_room (eV 2) (aCons (eFrz (nLst (aCons (eC (.str [97])) aNil))) aNil)), (eMeth 0 f_Air_best_room (eV 2) (aCons (eFrz (nLst aNil)) aNil)), (eMeth 0 f_Air_best_room (eV 2) (aCons (eFrz (nLst (aCons (eC (.str [98])) aNil))) aNil))] (sRet (eAnd (eOp2 oEq (eFrz (nLst (aCons (eCall f_rate_of (aCons (eC (.int 150)) (aCons (eC (.int 60)) aNil))) (aCons (eCall f_rate_of (aCons (eC (.int 151)) (aCons (eC (.int 60)) aNil))) (aCons (eCall f_rate_of (aCons (eC (.int 100)) (aCons (eC (.int 61)) aNil))) (aCons (eCall f_rate_of (aCons (eOp1 oNeg (eC (.int 400))) (aCons (eC (.int 0)) aNil))) aNil)))))) (eFrz (nLst (aCons (eC (.int 64)) (aCons (eC (.int 128)) (aCons (eC (.int 64)) (aCons (eC (.int 1)) aNil))))))) (eAnd (eOp2 oEq (eC (.int 5000)) (eC (.int 5000))) (eOp2 oEq (eMeth 0 f_Air_wear (eV 2) (aCons (eC (.str [97])) aNil)) (eC (.int 0)))))))))))
theorem b_law_same : b_law = b_law_cut := rfl
end K09
/-! k09: the walk (printed). -/
namespace K09
open PySem PySem.Spec PyProof.Rows L2 Mir
def top (i : Nat) : Stmt := PySem.Challenge.pw_archivestack_k09_the_air_of_rooms.main.body.getD i (.Pass ⟨0, 0, 0, 0⟩)
/-! the walk -/
abbrev s_Air___init__ : Stmt := (inClass (top 5) 0)
abbrev s_Air_read : Stmt := (inClass (top 5) 1)
abbrev s_Air_rows_of : Stmt := (inClass (top 5) 2)
abbrev s_Air_swing : Stmt := (inClass (top 5) 3)
abbrev s_Air_outside : Stmt := (inClass (top 5) 4)
abbrev s_Air_wear : Stmt := (inClass (top 5) 5)
abbrev s_Air_best_room : Stmt := (inClass (top 5) 6)
abbrev s_rate_of : Stmt := (top 6)
abbrev s_law_dice : Stmt := (top 8)
abbrev s_law_roll : Stmt := (top 9)
abbrev s_law_rounds : Stmt := (top 10)
abbrev s_law_told : Stmt := (top 11)
abbrev s_law_rate : Stmt := (top 12)
abbrev s_law : Stmt := (top 13)
/-- the table of the code object of the law -/
abbrev tbA (K : PySem.W.Frag) : Addr := Hd.tbAt K ("law", none)
def lamQ : Str := (envOfC "law" (defScope s_law) 0 0 .none).qual ++ ("<lambda>" : Str)
def gg (K : PySem.W.Frag) : G where
  K := K
  ci := fun i => match i with
    | 0 => some (He.ga K "Air", ["rooms"])
    | _ => none
  ex := fun i => match i with
    | 0 => some (He.ga K "ArchiveError")
    | 1 => some (He.ga K "LoanError")
    | _ => none
  tb := [(tbA K, lamQ)]
structure TxF (K : PySem.W.Frag) (mg : Str → Option Value) : Prop where
  n_abs : mg "abs" = none
  n_dict : mg "dict" = none
  n_enumerate : mg "enumerate" = none
  n_int : mg "int" = none
  n_len : mg "len" = none
  n_list : mg "list" = none
  n_max : mg "max" = none
  n_range : mg "range" = none
  n_sorted : mg "sorted" = none
  n_sum : mg "sum" = none
  n_tuple : mg "tuple" = none
  n_zip : mg "zip" = none
  g_Air : mg "Air" = some (.ref (He.ga K "Air"))
  g__law_dice : mg "_law_dice" = some (.ref (He.fAd K ("_law_dice", none)))
  g__law_rate : mg "_law_rate" = some (.ref (He.fAd K ("_law_rate", none)))
  g__law_roll : mg "_law_roll" = some (.ref (He.fAd K ("_law_roll", none)))
  g__law_rounds : mg "_law_rounds" = some (.ref (He.fAd K ("_law_rounds", none)))
  g_rate_of : mg "rate_of" = some (.ref (He.fAd K ("rate_of", none)))
  i_MOST_READINGS : ∃ t, mg "MOST_READINGS" = some (.int 5000 t)
  q_Air : ClsOk (gg K) 0 (He.ga K "Air") ["rooms"]
  mk_Air : Mk K (He.ga K "Air") (He.fAd K ("Air", some "__init__"))
  m_Air_best_room : Meth K (He.ga K "Air") "best_room" (He.fAd K ("Air", some "best_room"))
  m_Air_outside : Meth K (He.ga K "Air") "outside" (He.fAd K ("Air", some "outside"))
  m_Air_read : Meth K (He.ga K "Air") "read" (He.fAd K ("Air", some "read"))
  m_Air_rows_of : Meth K (He.ga K "Air") "rows_of" (He.fAd K ("Air", some "rows_of"))
  m_Air_swing : Meth K (He.ga K "Air") "swing" (He.fAd K ("Air", some "swing"))
  m_Air_wear : Meth K (He.ga K "Air") "wear" (He.fAd K ("Air", some "wear"))
  e_ArchiveError : ExcOk (gg K) mg 0 "ArchiveError" (He.ga K "ArchiveError")
  e_LoanError : ExcOk (gg K) mg 1 "LoanError" (He.ga K "LoanError")
  g__law_told : mg "_law_told" = some (.ref (He.fAd K ("_law_told", none)))
  x_told : Caught (gg K) (He.ga K "LoanError") [1]
  g_LoanError : mg "LoanError" = some (.ref (He.ga K "LoanError"))
abbrev ToldOk (K : PySem.W.Frag) : Prop := ∃ fd, FunD K "_law_told" "_law_told" (defArgs s_law_told) (defBody s_law_told) (defScope s_law_told) [] [] (He.fAd K ("_law_told", none)) fd
theorem sc_law_told : FnScope ["what"] ["what"] (defScope s_law_told) := ⟨rfl, rfl, rfl, by decide +kernel, rfl, by decide +kernel, by decide +kernel⟩
theorem xTo {X : Cx} {E : XK} {ma : EM} {k : Nat} {c : Addr} {params : Arguments} {body : Expr} {scope : Scope} {p2 lpos pos : Pos} (T : TxF X.K X.mg) (D : ToldOk X.K) (TB : LamX.TabB X.base X.mg c (tbA X.K)) (hcode : X.env.code = .ref c) (hq : X.env.qual ++ ("<lambda>" : Str) = lamQ) (hr : Room (k + 2) X.A) (L : LamX.LamS X.env.scope scope) (hdef : defaultsOf params X.env = ([], []))
    (hbind : ∀ (q : Str) (cl : List (Str × Addr)) (pm cv ctv : Value), bindArgs (PySem.W.kla_fn "<lambda>" q params body scope cl pm cv ctv) ⟨[], []⟩ = pure []) (hg : Gl X "_law_told")
    (hbody : ∀ (A : Around) (outer : List PySem.Env) (s : Shared) (H : Hp) (E : XK) (f c' : Addr), Room k (A.deeper (LamX.lamEnv X scope s.heap.objs.size f c')) → PE (LamX.lamCx X A outer s H E scope f c') body (rdE (gg X.K) E ma)) :
    PE X (.Call (.Name "_law_told" p2) [.Lambda params body scope lpos] [] pos) (rdE (gg X.K) E (eTold [1] [76, 111, 97, 110, 69, 114, 114, 111, 114] ma)) := by
  obtain ⟨fd, F⟩ := D
  have hb : Binds X.K fd ["what"] [] := F.bindsN fun _ _ _ _ _ _ us hl => match us, hl with | [_], _ => rfl
  exact gTold (g := gg X.K) (Ng := ["what"]) (e := "LoanError") F (by decide +kernel) hb sc_law_told rfl (.inl rfl) rfl T.g_LoanError (fun _ => rfl) rfl T.x_told hg T.g__law_told TB hcode (by rw [hq]; exact List.mem_singleton.mpr rfl) (fun p hp _ => by rw [hq, List.mem_singleton.mp hp]) hr L hdef hbind hbody
theorem lcB {X : Cx} {k ib iF j0 j1 : Nat} {fv bv ret2 : Str} {scope2 : Scope} {ms : List EM} {p2 p3 p4 p5 p6 p7 p8 p9 pos : Pos} (T : TxF X.K X.mg) (D : ToldOk X.K) (hret2 : ret2 = toS [76, 111, 97, 110, 69, 114, 114, 111, 114]) (calm : X.calm = true) (nod : X.N.Nodup) (hg : scope2.names.lookup ("_law_told" : Str) = some .globalImplicit) (hgR : ∀ C cl, Gl (X.blk X.s_0 X.H_0 scope2 (compEnvC scope2 cl C X.env) []) "_law_told")
    (hr : Room (k + 2) X.A) (ok : BlkOk X.N X.env.scope scope2 [(fv, iF)]) (hN : X.N[iF]? = some fv) (hv : ∀ C cl, (compEnvC scope2 cl C X.env).scope.names.lookup fv = some .local) (hNb : X.N[ib]? = some bv) (hvb : Vis X.env.scope bv)
    (na : ∀ C cl, starEach [.Name fv p3] (compEnvC scope2 cl C X.env) = (false, eval (.Name fv p3) (compEnvC scope2 cl C X.env)) :: starEach [] (compEnvC scope2 cl C X.env) := by intro _ _; rfl) (hpl : ∀ C cl, (backTo pos (starEach [] (compEnvC scope2 cl C X.env))).any (·.1) = false := by intro _ _; rfl)
    (hfd : (fv == ("__debug__" : Str)) = false := by decide +kernel) (hfc : (fv == ("__classdict__" : Str)) = false := by decide +kernel) (hbd : (bv == ("__debug__" : Str)) = false := by decide +kernel) (hbc : (bv == ("__classdict__" : Str)) = false := by decide +kernel) (hs : ∀ z, foldedSetIterable (.Name bv p4) X.env z = pure z := by intro _; rfl) :
    PE X (.ListComp (.Constant (.int 1) j0 p5) [⟨.Name fv p6, .Name bv p4, [.Compare (.Call (.Name "_law_told" p2) [.Name fv p3] [] pos) [.NotEq] [.Constant (.str ret2) j1 p7] p8], 0⟩] scope2 p9) (tBadLc X (gg X.K) k ib iF [1] [76, 111, 97, 110, 69, 114, 114, 111, 114] ms) := by
  obtain ⟨fd, F⟩ := D
  have hb : Binds X.K fd ["what"] [] := F.bindsN fun _ _ _ _ _ _ us hl => match us, hl with | [_], _ => rfl
  exact lcBad (g := gg X.K) (Ng := ["what"]) (e := "LoanError") F (by decide +kernel) hret2 hb sc_law_told rfl (.inl rfl) rfl T.g_LoanError (fun _ => rfl) rfl T.x_told calm nod hg hgR T.g__law_told hr ok hN hv hNb hvb na hpl (by decide +kernel) (by decide +kernel) (by decide +kernel) (by decide +kernel) hfd hfc hbd hbc hs
section
variable {P : Program} {w : World} {K : PySem.W.Frag} {mg : Str → Option Value} {base : Heap}
abbrev N_Air___init__ : List Str := ["self"]
theorem sc_Air___init__ : FnScope ["self"] ["self"] (defScope s_Air___init__) := ⟨rfl, rfl, rfl, by decide +kernel, rfl, by decide +kernel, by decide +kernel⟩
theorem k_Air___init___self : (defScope s_Air___init__).names.lookup ("self" : Str) = some NameKind.local := by decide +kernel
theorem w_Air___init__ {fd : FuncData} (T : TxF K mg) (F : FunD K "__init__" "Air.__init__" (defArgs s_Air___init__) (defBody s_Air___init__) (defScope s_Air___init__) [] [] (He.fAd K ("Air", some "__init__")) fd)   : InitOk P w K mg base (gg K) 0 1 (He.fAd K ("Air", some "__init__")) ["self"] f_Air___init__ := by
  have hb : Binds K fd ["self"] [] := F.bindsN fun _ _ _ _ _ _ us hl => match us, hl with | [_], _ => rfl
  refine ⟨⟨fd, dInit T.q_Air.hc F sc_Air___init__ (by decide) (by decide) fun cdv A outer s H E B hr => ?_, hb⟩⟩
  exact (qOne (gSetFldV (j := 0) T.q_Air rfl rfl (pv 0 (hv := (Or.inl k_Air___init___self))) (xNew yDct0)))
abbrev N_Air_read : List Str := ["self", "room", "hour", "warmth", "wetness", "rows"]
theorem sc_Air_read : FnScope ["self", "room", "hour", "warmth", "wetness", "rows"] ["self", "room", "hour", "warmth", "wetness"] (defScope s_Air_read) := ⟨rfl, rfl, rfl, by decide +kernel, rfl, by decide +kernel, by decide +kernel⟩
theorem k_Air_read_LoanError : (defScope s_Air_read).names.lookup ("LoanError" : Str) = some NameKind.globalImplicit := by decide +kernel
theorem k_Air_read_MOST_READINGS : (defScope s_Air_read).names.lookup ("MOST_READINGS" : Str) = some NameKind.globalImplicit := by decide +kernel
theorem k_Air_read_hour : (defScope s_Air_read).names.lookup ("hour" : Str) = some NameKind.local := by decide +kernel
theorem k_Air_read_len : (defScope s_Air_read).names.lookup ("len" : Str) = some NameKind.globalImplicit := by decide +kernel
theorem k_Air_read_room : (defScope s_Air_read).names.lookup ("room" : Str) = some NameKind.local := by decide +kernel
theorem k_Air_read_rows : (defScope s_Air_read).names.lookup ("rows" : Str) = some NameKind.local := by decide +kernel
theorem k_Air_read_self : (defScope s_Air_read).names.lookup ("self" : Str) = some NameKind.local := by decide +kernel
theorem k_Air_read_warmth : (defScope s_Air_read).names.lookup ("warmth" : Str) = some NameKind.local := by decide +kernel
theorem k_Air_read_wetness : (defScope s_Air_read).names.lookup ("wetness" : Str) = some NameKind.local := by decide +kernel
theorem w_Air_read {fd : FuncData} (T : TxF K mg) (F : FunD K "read" "Air.read" (defArgs s_Air_read) (defBody s_Air_read) (defScope s_Air_read) [] [] (He.fAd K ("Air", some "read")) fd)   : DefOk P w K mg base (gg K) 1 (He.fAd K ("Air", some "read")) ["self", "room", "hour", "warmth", "wetness"] f_Air_read := by
  have hb : Binds K fd ["self", "room", "hour", "warmth", "wetness"] [] := F.bindsN fun _ _ _ _ _ _ us hl => match us, hl with | [_, _, _, _, _], _ => rfl
  refine ⟨⟨fd, dFn F sc_Air_read (by decide) fun cdv A outer s H E B hcd hr => ?_, hb⟩, F.kp⟩
  exact (qSeq (qSet (i := 5) sc_Air_read.nd rfl (Or.inl k_Air_read_rows) (gGet2 hr (gFld T.q_Air rfl (j := 0) rfl (dV 0 (hv := (Or.inl k_Air_read_self)))) (dV 1 (hv := (Or.inl k_Air_read_room))) (xFrz (yLst aN)) ⟨rfl, rfl, rfl, rfl⟩))
 (qSeq (qIf (PW.pt (wOr (PW.pt (wAnd (tNotEq hr rfl (dV 5 (hv := (Or.inl k_Air_read_rows))) (xFrz (yLst aN))) (wAnd1 (tLtE (dV 2 (hv := (Or.inl k_Air_read_hour))) (gSub hr rfl (gSub hr rfl (dV 5 (hv := (Or.inl k_Air_read_rows))) (bNeg dInt)) dInt))))) (wOr (dTnot (tLeLe dInt (dV 4 (hv := (Or.inl k_Air_read_wetness))) dInt)) (wOr1 (dTnot (tLeLe (bSub dInt dInt) (dV 3 (hv := (Or.inl k_Air_read_warmth))) dInt))))))
 (qOne (gRaise T.e_LoanError rfl rfl (takes_of rfl rfl rfl rfl) k_Air_read_LoanError))
 qNil)
 (qSeq (qIf (tGtE (kLen k_Air_read_len T.n_len rfl (aK (dV 5 (hv := (Or.inl k_Air_read_rows))) aN)) (gInt T.i_MOST_READINGS k_Air_read_MOST_READINGS))
 (qOne (gRaise T.e_LoanError rfl rfl (takes_of rfl rfl rfl rfl) k_Air_read_LoanError))
 qNil)
 (qOne (gAppC (gSetd (gFld T.q_Air rfl (j := 0) rfl (dV 0 (hv := (Or.inl k_Air_read_self)))) (dV 1 (hv := (Or.inl k_Air_read_room))) (yLst aN) ⟨rfl, rfl, rfl, rfl⟩) (xTup (aK (dV 2 (hv := (Or.inl k_Air_read_hour))) (aK (dV 3 (hv := (Or.inl k_Air_read_warmth))) (aK (dV 4 (hv := (Or.inl k_Air_read_wetness))) aN)))))))))
abbrev N_Air_rows_of : List Str := ["self", "room"]
theorem sc_Air_rows_of : FnScope ["self", "room"] ["self", "room"] (defScope s_Air_rows_of) := ⟨rfl, rfl, rfl, by decide +kernel, rfl, by decide +kernel, by decide +kernel⟩
theorem k_Air_rows_of_LoanError : (defScope s_Air_rows_of).names.lookup ("LoanError" : Str) = some NameKind.globalImplicit := by decide +kernel
theorem k_Air_rows_of_room : (defScope s_Air_rows_of).names.lookup ("room" : Str) = some NameKind.local := by decide +kernel
theorem k_Air_rows_of_self : (defScope s_Air_rows_of).names.lookup ("self" : Str) = some NameKind.local := by decide +kernel
theorem k_Air_rows_of_tuple : (defScope s_Air_rows_of).names.lookup ("tuple" : Str) = some NameKind.globalImplicit := by decide +kernel
theorem w_Air_rows_of {fd : FuncData} (T : TxF K mg) (F : FunD K "rows_of" "Air.rows_of" (defArgs s_Air_rows_of) (defBody s_Air_rows_of) (defScope s_Air_rows_of) [] [] (He.fAd K ("Air", some "rows_of")) fd)   : DefOk P w K mg base (gg K) 1 (He.fAd K ("Air", some "rows_of")) ["self", "room"] f_Air_rows_of := by
  have hb : Binds K fd ["self", "room"] [] := F.bindsN fun _ _ _ _ _ _ us hl => match us, hl with | [_, _], _ => rfl
  refine ⟨⟨fd, dFn F sc_Air_rows_of (by decide) fun cdv A outer s H E B hcd hr => ?_, hb⟩, F.kp⟩
  exact (qSeq (qIf (tNotIn hr rfl (dV 1 (hv := (Or.inl k_Air_rows_of_room))) (gFld T.q_Air rfl (j := 0) rfl (dV 0 (hv := (Or.inl k_Air_rows_of_self)))))
 (qOne (gRaise T.e_LoanError rfl rfl (takes_of rfl rfl rfl rfl) k_Air_rows_of_LoanError))
 qNil)
 (qOne (qRet (kTuple k_Air_rows_of_tuple T.n_tuple rfl (aK (gSub hr rfl (gFld T.q_Air rfl (j := 0) rfl (dV 0 (hv := (Or.inl k_Air_rows_of_self)))) (dV 1 (hv := (Or.inl k_Air_rows_of_room)))) aN)))))
abbrev N_Air_swing : List Str := ["self", "room", "hours", "rows", "best", "place", "one", "other"]
theorem sc_Air_swing : FnScope ["self", "room", "hours", "rows", "best", "place", "one", "other"] ["self", "room", "hours"] (defScope s_Air_swing) := ⟨rfl, rfl, rfl, by decide +kernel, rfl, by decide +kernel, by decide +kernel⟩
theorem k_Air_swing_LoanError : (defScope s_Air_swing).names.lookup ("LoanError" : Str) = some NameKind.globalImplicit := by decide +kernel
theorem k_Air_swing_abs : (defScope s_Air_swing).names.lookup ("abs" : Str) = some NameKind.globalImplicit := by decide +kernel
theorem k_Air_swing_best : (defScope s_Air_swing).names.lookup ("best" : Str) = some NameKind.local := by decide +kernel
theorem k_Air_swing_enumerate : (defScope s_Air_swing).names.lookup ("enumerate" : Str) = some NameKind.globalImplicit := by decide +kernel
theorem k_Air_swing_hours : (defScope s_Air_swing).names.lookup ("hours" : Str) = some NameKind.local := by decide +kernel
theorem k_Air_swing_max : (defScope s_Air_swing).names.lookup ("max" : Str) = some NameKind.globalImplicit := by decide +kernel
theorem k_Air_swing_one : (defScope s_Air_swing).names.lookup ("one" : Str) = some NameKind.local := by decide +kernel
theorem k_Air_swing_other : (defScope s_Air_swing).names.lookup ("other" : Str) = some NameKind.local := by decide +kernel
theorem k_Air_swing_place : (defScope s_Air_swing).names.lookup ("place" : Str) = some NameKind.local := by decide +kernel
theorem k_Air_swing_room : (defScope s_Air_swing).names.lookup ("room" : Str) = some NameKind.local := by decide +kernel
theorem k_Air_swing_rows : (defScope s_Air_swing).names.lookup ("rows" : Str) = some NameKind.local := by decide +kernel
theorem k_Air_swing_self : (defScope s_Air_swing).names.lookup ("self" : Str) = some NameKind.local := by decide +kernel
theorem k_Air_swing_tuple : (defScope s_Air_swing).names.lookup ("tuple" : Str) = some NameKind.globalImplicit := by decide +kernel
theorem w_Air_swing {fd : FuncData} (T : TxF K mg) (F : FunD K "swing" "Air.swing" (defArgs s_Air_swing) (defBody s_Air_swing) (defScope s_Air_swing) [] [] (He.fAd K ("Air", some "swing")) fd) (d_Air_rows_of : DefOk P w K mg base (gg K) 1 (He.fAd K ("Air", some "rows_of")) ["self", "room"] f_Air_rows_of)  : DefOk P w K mg base (gg K) 2 (He.fAd K ("Air", some "swing")) ["self", "room", "hours"] f_Air_swing := by
  have hb : Binds K fd ["self", "room", "hours"] [] := F.bindsN fun _ _ _ _ _ _ us hl => match us, hl with | [_, _, _], _ => rfl
  refine ⟨⟨fd, dFn F sc_Air_swing (by decide) fun cdv A outer s H E B hcd hr => ?_, hb⟩, F.kp⟩
  exact (qSeq (gPar (i := 3) (j := 4) rfl sc_Air_swing.nd rfl rfl (by decide) k_Air_swing_rows k_Air_swing_best (srcV (gMeth T.q_Air rfl T.m_Air_rows_of d_Air_rows_of (by decide +kernel) hr (by decide) pF (dV 0 (hv := (Or.inl k_Air_swing_self))) (aK (dV 1 (hv := (Or.inl k_Air_swing_room))) aN) (lenS len0) rfl)) (srcV (xFrz (yLst (aK dInt (aK dInt aN))))))
 (qSeq (qIf (tLt (dV 2 (hv := (Or.inl k_Air_swing_hours))) dInt)
 (qOne (gRaise T.e_LoanError rfl rfl (takes_of rfl rfl rfl rfl) k_Air_swing_LoanError))
 qNil)
 (qSeq (qFor (passes_of rfl) rfl (wEn rfl k_Air_swing_enumerate T.n_enumerate (dV 3 (hv := (Or.inl k_Air_swing_rows)))) (pg_tup rfl (pgs_cons (pg_name (i := 5) sc_Air_swing.nd rfl (Or.inl k_Air_swing_place) (.inl rfl)) (pgs_cons (pg_name (i := 6) sc_Air_swing.nd rfl (Or.inl k_Air_swing_one) (.inl rfl)) pgs_nil))) (tgT (tgsC tgN (tgsC tgN tgsN)) rfl)
 (qOne (qFor (passes_of rfl) rfl (wE rfl (xSl rfl (dV 3 (hv := (Or.inl k_Air_swing_rows))) (oSomeP (bAdd (dV 5 (hv := (Or.inl k_Air_swing_place))) dInt)) oNoP)) (pg_name (i := 7) sc_Air_swing.nd rfl (Or.inl k_Air_swing_other) (.inl rfl)) tgN
 (qOne (qIf (tLtE (bSub (gSub hr rfl (dV 7 (hv := (Or.inl k_Air_swing_other))) dInt) (gSub hr rfl (dV 6 (hv := (Or.inl k_Air_swing_one))) dInt)) (dV 2 (hv := (Or.inl k_Air_swing_hours))))
 (qOne (qSet (i := 4) sc_Air_swing.nd rfl (Or.inl k_Air_swing_best) (xFrz (yLst (aK (kMax2 k_Air_swing_max T.n_max rfl (aK (gSub hr rfl (dV 4 (hv := (Or.inl k_Air_swing_best))) dInt) (aK (kAbs k_Air_swing_abs T.n_abs (aK (bSub (gSub hr rfl (dV 7 (hv := (Or.inl k_Air_swing_other))) dInt) (gSub hr rfl (dV 6 (hv := (Or.inl k_Air_swing_one))) dInt)) aN)) aN))) (aK (kMax2 k_Air_swing_max T.n_max rfl (aK (gSub hr rfl (dV 4 (hv := (Or.inl k_Air_swing_best))) dInt) (aK (kAbs k_Air_swing_abs T.n_abs (aK (bSub (gSub hr rfl (dV 7 (hv := (Or.inl k_Air_swing_other))) dInt) (gSub hr rfl (dV 6 (hv := (Or.inl k_Air_swing_one))) dInt)) aN)) aN))) aN))))))
 qNil)))))
 (qOne (qRet (kTuple k_Air_swing_tuple T.n_tuple rfl (aK (dV 4 (hv := (Or.inl k_Air_swing_best))) aN)))))))
abbrev N_Air_outside : List Str := ["self", "room", "warm", "wet", "found", "open_run", "hour", "warmth", "wetness", "bad"]
theorem sc_Air_outside : FnScope ["self", "room", "warm", "wet", "found", "open_run", "hour", "warmth", "wetness", "bad"] ["self", "room", "warm", "wet"] (defScope s_Air_outside) := ⟨rfl, rfl, rfl, by decide +kernel, rfl, by decide +kernel, by decide +kernel⟩
theorem k_Air_outside_bad : (defScope s_Air_outside).names.lookup ("bad" : Str) = some NameKind.local := by decide +kernel
theorem k_Air_outside_found : (defScope s_Air_outside).names.lookup ("found" : Str) = some NameKind.local := by decide +kernel
theorem k_Air_outside_hour : (defScope s_Air_outside).names.lookup ("hour" : Str) = some NameKind.local := by decide +kernel
theorem k_Air_outside_open_run : (defScope s_Air_outside).names.lookup ("open_run" : Str) = some NameKind.local := by decide +kernel
theorem k_Air_outside_room : (defScope s_Air_outside).names.lookup ("room" : Str) = some NameKind.local := by decide +kernel
theorem k_Air_outside_self : (defScope s_Air_outside).names.lookup ("self" : Str) = some NameKind.local := by decide +kernel
theorem k_Air_outside_tuple : (defScope s_Air_outside).names.lookup ("tuple" : Str) = some NameKind.globalImplicit := by decide +kernel
theorem k_Air_outside_warm : (defScope s_Air_outside).names.lookup ("warm" : Str) = some NameKind.local := by decide +kernel
theorem k_Air_outside_warmth : (defScope s_Air_outside).names.lookup ("warmth" : Str) = some NameKind.local := by decide +kernel
theorem k_Air_outside_wet : (defScope s_Air_outside).names.lookup ("wet" : Str) = some NameKind.local := by decide +kernel
theorem k_Air_outside_wetness : (defScope s_Air_outside).names.lookup ("wetness" : Str) = some NameKind.local := by decide +kernel
theorem w_Air_outside {fd : FuncData} (T : TxF K mg) (F : FunD K "outside" "Air.outside" (defArgs s_Air_outside) (defBody s_Air_outside) (defScope s_Air_outside) [] [] (He.fAd K ("Air", some "outside")) fd) (d_Air_rows_of : DefOk P w K mg base (gg K) 1 (He.fAd K ("Air", some "rows_of")) ["self", "room"] f_Air_rows_of)  : DefOk P w K mg base (gg K) 2 (He.fAd K ("Air", some "outside")) ["self", "room", "warm", "wet"] f_Air_outside := by
  have hb : Binds K fd ["self", "room", "warm", "wet"] [] := F.bindsN fun _ _ _ _ _ _ us hl => match us, hl with | [_, _, _, _], _ => rfl
  refine ⟨⟨fd, dFn F sc_Air_outside (by decide) fun cdv A outer s H E B hcd hr => ?_, hb⟩, F.kp⟩
  exact (qSeq (gPar (i := 4) (j := 5) rfl sc_Air_outside.nd rfl rfl (by decide) k_Air_outside_found k_Air_outside_open_run (srcO (yLst aN)) (srcV dNon))
 (qSeq (qFor (passes_of rfl) rfl (wE rfl (gMeth T.q_Air rfl T.m_Air_rows_of d_Air_rows_of (by decide +kernel) hr (by decide) pF (dV 0 (hv := (Or.inl k_Air_outside_self))) (aK (dV 1 (hv := (Or.inl k_Air_outside_room))) aN) (lenS len0) rfl)) (pg_tup rfl (pgs_cons (pg_name (i := 6) sc_Air_outside.nd rfl (Or.inl k_Air_outside_hour) (.inl rfl)) (pgs_cons (pg_name (i := 7) sc_Air_outside.nd rfl (Or.inl k_Air_outside_warmth) (.inl rfl)) (pgs_cons (pg_name (i := 8) sc_Air_outside.nd rfl (Or.inl k_Air_outside_wetness) (.inl rfl)) pgs_nil)))) (tgT (tgsC tgN (tgsC tgN (tgsC tgN tgsN))) rfl)
 (qSeq (qSet (i := 9) sc_Air_outside.nd rfl (Or.inl k_Air_outside_bad) (dOr (dNot (cLeLe (gSub hr rfl (dV 2 (hv := (Or.inl k_Air_outside_warm))) dInt) (dV 7 (hv := (Or.inl k_Air_outside_warmth))) (gSub hr rfl (dV 2 (hv := (Or.inl k_Air_outside_warm))) dInt))) (dOne (dNot (cLeLe (gSub hr rfl (dV 3 (hv := (Or.inl k_Air_outside_wet))) dInt) (dV 8 (hv := (Or.inl k_Air_outside_wetness))) (gSub hr rfl (dV 3 (hv := (Or.inl k_Air_outside_wet))) dInt))))))
 (qOne (qIf (dT (dV 9 (hv := (Or.inl k_Air_outside_bad))))
 (qOne (qSet (i := 5) sc_Air_outside.nd rfl (Or.inl k_Air_outside_open_run) (dIf (tIsNot (dV 5 (hv := (Or.inl k_Air_outside_open_run))) dNon) (xTup (aK (gSub hr rfl (dV 5 (hv := (Or.inl k_Air_outside_open_run))) dInt) (aK (dV 6 (hv := (Or.inl k_Air_outside_hour))) aN))) (xTup (aK (dV 6 (hv := (Or.inl k_Air_outside_hour))) (aK (dV 6 (hv := (Or.inl k_Air_outside_hour))) aN))))))
 (qOne (qIf (tIsNot (dV 5 (hv := (Or.inl k_Air_outside_open_run))) dNon)
 (qSeq (gAppV (i := 4) (pv 4 (hv := (Or.inl k_Air_outside_found))) (dV 5 (hv := (Or.inl k_Air_outside_open_run))))
 (qOne (qSet (i := 5) sc_Air_outside.nd rfl (Or.inl k_Air_outside_open_run) dNon)))
 qNil))))))
 (qOne (qRet (kTuple k_Air_outside_tuple T.n_tuple rfl (aK (xFrz (yCat (dV 4 (hv := (Or.inl k_Air_outside_found))) (dIf (tIsNot (dV 5 (hv := (Or.inl k_Air_outside_open_run))) dNon) (xFrz (yLst (aK (dV 5 (hv := (Or.inl k_Air_outside_open_run))) aN))) (xFrz (yLst aN))))) aN))))))
abbrev N_rate_of : List Str := ["warmth", "wetness", "found", "step"]
theorem sc_rate_of : FnScope ["warmth", "wetness", "found", "step"] ["warmth", "wetness"] (defScope s_rate_of) := ⟨rfl, rfl, rfl, by decide +kernel, rfl, by decide +kernel, by decide +kernel⟩
theorem k_rate_of_found : (defScope s_rate_of).names.lookup ("found" : Str) = some NameKind.local := by decide +kernel
theorem k_rate_of_max : (defScope s_rate_of).names.lookup ("max" : Str) = some NameKind.globalImplicit := by decide +kernel
theorem k_rate_of_range : (defScope s_rate_of).names.lookup ("range" : Str) = some NameKind.globalImplicit := by decide +kernel
theorem k_rate_of_step : (defScope s_rate_of).names.lookup ("step" : Str) = some NameKind.local := by decide +kernel
theorem k_rate_of_warmth : (defScope s_rate_of).names.lookup ("warmth" : Str) = some NameKind.local := by decide +kernel
theorem k_rate_of_wetness : (defScope s_rate_of).names.lookup ("wetness" : Str) = some NameKind.local := by decide +kernel
theorem w_rate_of {fd : FuncData} (T : TxF K mg) (F : FunD K "rate_of" "rate_of" (defArgs s_rate_of) (defBody s_rate_of) (defScope s_rate_of) [] [] (He.fAd K ("rate_of", none)) fd)   : DefOk P w K mg base (gg K) 1 (He.fAd K ("rate_of", none)) ["warmth", "wetness"] f_rate_of := by
  have hb : Binds K fd ["warmth", "wetness"] [] := F.bindsN fun _ _ _ _ _ _ us hl => match us, hl with | [_, _], _ => rfl
  refine ⟨⟨fd, dFn F sc_rate_of (by decide) fun cdv A outer s H E B hcd hr => ?_, hb⟩, F.kp⟩
  exact (qSeq (qSet (i := 2) sc_rate_of.nd rfl (Or.inl k_rate_of_found) dInt)
 (qSeq (qIf (tGt (dV 0 (hv := (Or.inl k_rate_of_warmth))) dInt)
 (qOne (qFor (passes_of rfl) rfl (wR1 k_rate_of_range T.n_range (bFdiv (bAdd (bSub (dV 0 (hv := (Or.inl k_rate_of_warmth))) dInt) dInt) dInt)) (pg_name (i := 3) sc_rate_of.nd rfl (Or.inl k_rate_of_step) (.inl rfl)) tgN
 (qOne (gAug (i := 2) iMul sMul sc_rate_of.nd rfl (Or.inl k_rate_of_found) dInt))))
 (qOne (qFor (passes_of rfl) rfl (wR1 k_rate_of_range T.n_range (bFdiv (bSub dInt (dV 0 (hv := (Or.inl k_rate_of_warmth)))) dInt)) (pg_name (i := 3) sc_rate_of.nd rfl (Or.inl k_rate_of_step) (.inl rfl)) tgN
 (qOne (qSet (i := 2) sc_rate_of.nd rfl (Or.inl k_rate_of_found) (kMax2 k_rate_of_max T.n_max rfl (aK dInt (aK (bFdiv (dV 2 (hv := (Or.inl k_rate_of_found))) dInt) aN))))))))
 (qOne (qRet (dIf (tGt (dV 1 (hv := (Or.inl k_rate_of_wetness))) dInt) (bMul (dV 2 (hv := (Or.inl k_rate_of_found))) dInt) (dV 2 (hv := (Or.inl k_rate_of_found))))))))
abbrev N_Air_wear : List Str := ["self", "room", "rows", "found", "one", "other"]
theorem sc_Air_wear : FnScope ["self", "room", "rows", "found", "one", "other"] ["self", "room"] (defScope s_Air_wear) := ⟨rfl, rfl, rfl, by decide +kernel, rfl, by decide +kernel, by decide +kernel⟩
theorem k_Air_wear_found : (defScope s_Air_wear).names.lookup ("found" : Str) = some NameKind.local := by decide +kernel
theorem k_Air_wear_one : (defScope s_Air_wear).names.lookup ("one" : Str) = some NameKind.local := by decide +kernel
theorem k_Air_wear_other : (defScope s_Air_wear).names.lookup ("other" : Str) = some NameKind.local := by decide +kernel
theorem k_Air_wear_rate_of : (defScope s_Air_wear).names.lookup ("rate_of" : Str) = some NameKind.globalImplicit := by decide +kernel
theorem k_Air_wear_room : (defScope s_Air_wear).names.lookup ("room" : Str) = some NameKind.local := by decide +kernel
theorem k_Air_wear_rows : (defScope s_Air_wear).names.lookup ("rows" : Str) = some NameKind.local := by decide +kernel
theorem k_Air_wear_self : (defScope s_Air_wear).names.lookup ("self" : Str) = some NameKind.local := by decide +kernel
theorem k_Air_wear_zip : (defScope s_Air_wear).names.lookup ("zip" : Str) = some NameKind.globalImplicit := by decide +kernel
theorem w_Air_wear {fd : FuncData} (T : TxF K mg) (F : FunD K "wear" "Air.wear" (defArgs s_Air_wear) (defBody s_Air_wear) (defScope s_Air_wear) [] [] (He.fAd K ("Air", some "wear")) fd) (d_Air_rows_of : DefOk P w K mg base (gg K) 1 (He.fAd K ("Air", some "rows_of")) ["self", "room"] f_Air_rows_of) (d_rate_of : DefOk P w K mg base (gg K) 1 (He.fAd K ("rate_of", none)) ["warmth", "wetness"] f_rate_of)  : DefOk P w K mg base (gg K) 2 (He.fAd K ("Air", some "wear")) ["self", "room"] f_Air_wear := by
  have hb : Binds K fd ["self", "room"] [] := F.bindsN fun _ _ _ _ _ _ us hl => match us, hl with | [_, _], _ => rfl
  refine ⟨⟨fd, dFn F sc_Air_wear (by decide) fun cdv A outer s H E B hcd hr => ?_, hb⟩, F.kp⟩
  exact (qSeq (gPar (i := 2) (j := 3) rfl sc_Air_wear.nd rfl rfl (by decide) k_Air_wear_rows k_Air_wear_found (srcV (gMeth T.q_Air rfl T.m_Air_rows_of d_Air_rows_of (by decide +kernel) hr (by decide) pF (dV 0 (hv := (Or.inl k_Air_wear_self))) (aK (dV 1 (hv := (Or.inl k_Air_wear_room))) aN) (lenS len0) rfl)) (srcV dInt))
 (qSeq (qFor (passes_of rfl) rfl (wZip rfl k_Air_wear_zip T.n_zip (dV 2 (hv := (Or.inl k_Air_wear_rows))) (xSl rfl (dV 2 (hv := (Or.inl k_Air_wear_rows))) (oSomeP dInt) oNoP)) (pg_tup rfl (pgs_cons (pg_name (i := 4) sc_Air_wear.nd rfl (Or.inl k_Air_wear_one) (.inl rfl)) (pgs_cons (pg_name (i := 5) sc_Air_wear.nd rfl (Or.inl k_Air_wear_other) (.inl rfl)) pgs_nil))) (tgT (tgsC tgN (tgsC tgN tgsN)) rfl)
 (qOne (gAug (i := 3) iAdd sAdd sc_Air_wear.nd rfl (Or.inl k_Air_wear_found) (bMul (bSub (gSub hr rfl (dV 5 (hv := (Or.inl k_Air_wear_other))) dInt) (gSub hr rfl (dV 4 (hv := (Or.inl k_Air_wear_one))) dInt)) (gCall d_rate_of hr (by decide) k_Air_wear_rate_of T.g_rate_of pF (aK (gSub hr rfl (dV 4 (hv := (Or.inl k_Air_wear_one))) dInt) (aK (gSub hr rfl (dV 4 (hv := (Or.inl k_Air_wear_one))) dInt) aN)) (lenS (lenS len0)))))))
 (qOne (qRet (dV 3 (hv := (Or.inl k_Air_wear_found)))))))
abbrev N_Air_best_room : List Str := ["self", "names", "best", "name", "rows", "worn", "hours"]
theorem sc_Air_best_room : FnScope ["self", "names", "best", "name", "rows", "worn", "hours"] ["self", "names"] (defScope s_Air_best_room) := ⟨rfl, rfl, rfl, by decide +kernel, rfl, by decide +kernel, by decide +kernel⟩
theorem k_Air_best_room_LoanError : (defScope s_Air_best_room).names.lookup ("LoanError" : Str) = some NameKind.globalImplicit := by decide +kernel
theorem k_Air_best_room_best : (defScope s_Air_best_room).names.lookup ("best" : Str) = some NameKind.local := by decide +kernel
theorem k_Air_best_room_hours : (defScope s_Air_best_room).names.lookup ("hours" : Str) = some NameKind.local := by decide +kernel
theorem k_Air_best_room_len : (defScope s_Air_best_room).names.lookup ("len" : Str) = some NameKind.globalImplicit := by decide +kernel
theorem k_Air_best_room_name : (defScope s_Air_best_room).names.lookup ("name" : Str) = some NameKind.local := by decide +kernel
theorem k_Air_best_room_names : (defScope s_Air_best_room).names.lookup ("names" : Str) = some NameKind.local := by decide +kernel
theorem k_Air_best_room_rows : (defScope s_Air_best_room).names.lookup ("rows" : Str) = some NameKind.local := by decide +kernel
theorem k_Air_best_room_self : (defScope s_Air_best_room).names.lookup ("self" : Str) = some NameKind.local := by decide +kernel
theorem k_Air_best_room_sorted : (defScope s_Air_best_room).names.lookup ("sorted" : Str) = some NameKind.globalImplicit := by decide +kernel
theorem k_Air_best_room_worn : (defScope s_Air_best_room).names.lookup ("worn" : Str) = some NameKind.local := by decide +kernel
theorem w_Air_best_room {fd : FuncData} (T : TxF K mg) (F : FunD K "best_room" "Air.best_room" (defArgs s_Air_best_room) (defBody s_Air_best_room) (defScope s_Air_best_room) [] [] (He.fAd K ("Air", some "best_room")) fd) (d_Air_rows_of : DefOk P w K mg base (gg K) 1 (He.fAd K ("Air", some "rows_of")) ["self", "room"] f_Air_rows_of) (d_Air_wear : DefOk P w K mg base (gg K) 2 (He.fAd K ("Air", some "wear")) ["self", "room"] f_Air_wear)  : DefOk P w K mg base (gg K) 3 (He.fAd K ("Air", some "best_room")) ["self", "names"] f_Air_best_room := by
  have hb : Binds K fd ["self", "names"] [] := F.bindsN fun _ _ _ _ _ _ us hl => match us, hl with | [_, _], _ => rfl
  refine ⟨⟨fd, dFn F sc_Air_best_room (by decide) fun cdv A outer s H E B hcd hr => ?_, hb⟩, F.kp⟩
  exact (qSeq (qSet (i := 2) sc_Air_best_room.nd rfl (Or.inl k_Air_best_room_best) dNon)
 (qSeq (qFor (passes_of rfl) rfl (wE rfl (xFrz (kSorted k_Air_best_room_sorted T.n_sorted rfl rfl (aK (dV 1 (hv := (Or.inl k_Air_best_room_names))) aN)))) (pg_name (i := 3) sc_Air_best_room.nd rfl (Or.inl k_Air_best_room_name) (.inl rfl)) tgN
 (qSeq (qSet (i := 4) sc_Air_best_room.nd rfl (Or.inl k_Air_best_room_rows) (gMeth T.q_Air rfl T.m_Air_rows_of d_Air_rows_of (by decide +kernel) hr (by decide) pF (dV 0 (hv := (Or.inl k_Air_best_room_self))) (aK (dV 3 (hv := (Or.inl k_Air_best_room_name))) aN) (lenS len0) rfl))
 (qOne (qIf (tGt (kLen k_Air_best_room_len T.n_len rfl (aK (dV 4 (hv := (Or.inl k_Air_best_room_rows))) aN)) dInt)
 (qSeq (gPar (i := 5) (j := 6) rfl sc_Air_best_room.nd rfl rfl (by decide) k_Air_best_room_worn k_Air_best_room_hours (srcV (gMeth T.q_Air rfl T.m_Air_wear d_Air_wear (by decide +kernel) hr (by decide) pF (dV 0 (hv := (Or.inl k_Air_best_room_self))) (aK (dV 3 (hv := (Or.inl k_Air_best_room_name))) aN) (lenS len0) rfl)) (srcV (bSub (gSub hr rfl (gSub hr rfl (dV 4 (hv := (Or.inl k_Air_best_room_rows))) (bNeg dInt)) dInt) (gSub hr rfl (gSub hr rfl (dV 4 (hv := (Or.inl k_Air_best_room_rows))) dInt) dInt))))
 (qOne (qIf (PW.pt (wOr (tIs (dV 2 (hv := (Or.inl k_Air_best_room_best))) dNon) (wOr1 (tLt (bMul (dV 5 (hv := (Or.inl k_Air_best_room_worn))) (gSub hr rfl (dV 2 (hv := (Or.inl k_Air_best_room_best))) dInt)) (bMul (gSub hr rfl (dV 2 (hv := (Or.inl k_Air_best_room_best))) dInt) (dV 6 (hv := (Or.inl k_Air_best_room_hours))))))))
 (qOne (qSet (i := 2) sc_Air_best_room.nd rfl (Or.inl k_Air_best_room_best) (xTup (aK (dV 5 (hv := (Or.inl k_Air_best_room_worn))) (aK (dV 6 (hv := (Or.inl k_Air_best_room_hours))) (aK (dV 3 (hv := (Or.inl k_Air_best_room_name))) aN))))))
 qNil)))
 qNil))))
 (qSeq (qIf (tIs (dV 2 (hv := (Or.inl k_Air_best_room_best))) dNon)
 (qOne (gRaise T.e_LoanError rfl rfl (takes_of rfl rfl rfl rfl) k_Air_best_room_LoanError))
 qNil)
 (qOne (qRet (gSub hr rfl (dV 2 (hv := (Or.inl k_Air_best_room_best))) dInt))))))
abbrev N_law_dice : List Str := ["cell"]
theorem sc_law_dice : FnScope ["cell"] ["cell"] (defScope s_law_dice) := ⟨rfl, rfl, rfl, by decide +kernel, rfl, by decide +kernel, by decide +kernel⟩
theorem k_law_dice_abs : (defScope s_law_dice).names.lookup ("abs" : Str) = some NameKind.globalImplicit := by decide +kernel
theorem k_law_dice_cell : (defScope s_law_dice).names.lookup ("cell" : Str) = some NameKind.local := by decide +kernel
theorem k_law_dice_int : (defScope s_law_dice).names.lookup ("int" : Str) = some NameKind.globalImplicit := by decide +kernel
theorem w_law_dice {fd : FuncData} (T : TxF K mg) (F : FunD K "_law_dice" "_law_dice" (defArgs s_law_dice) (defBody s_law_dice) (defScope s_law_dice) [] [] (He.fAd K ("_law_dice", none)) fd)   : DefOk P w K mg base (gg K) 1 (He.fAd K ("_law_dice", none)) ["cell"] f_law_dice := by
  have hb : Binds K fd ["cell"] [] := F.bindsN fun _ _ _ _ _ _ us hl => match us, hl with | [_], _ => rfl
  refine ⟨⟨fd, dFn F sc_law_dice (by decide) fun cdv A outer s H E B hcd hr => ?_, hb⟩, F.kp⟩
  exact (qSeq (qIf (tLtLt (bSub dInt dInt) (dV 0 (hv := (Or.inl k_law_dice_cell))) dInt)
 (qOne (qRet (xNew (yLst (aK (kAbs k_law_dice_abs T.n_abs (aK (dV 0 (hv := (Or.inl k_law_dice_cell))) aN)) (aK dInt (aK dInt aN)))))))
 qNil)
 (qOne (qRet (xNew (yLst (aK (dV 0 (hv := (Or.inl k_law_dice_cell))) (aK (bAdd dInt (bMod (kInt k_law_dice_int T.n_int (aK (dV 0 (hv := (Or.inl k_law_dice_cell))) aN)) dInt)) (aK (kInt k_law_dice_int T.n_int (aK (cGtE (dV 0 (hv := (Or.inl k_law_dice_cell))) (bPow dInt dInt)) aN)) aN))))))))
abbrev N_law_roll : List Str := ["dice", "many", "found"]
theorem sc_law_roll : FnScope ["dice", "many", "found"] ["dice", "many"] (defScope s_law_roll) := ⟨rfl, rfl, rfl, by decide +kernel, rfl, by decide +kernel, by decide +kernel⟩
theorem k_law_roll_dice : (defScope s_law_roll).names.lookup ("dice" : Str) = some NameKind.local := by decide +kernel
theorem k_law_roll_found : (defScope s_law_roll).names.lookup ("found" : Str) = some NameKind.local := by decide +kernel
theorem k_law_roll_int : (defScope s_law_roll).names.lookup ("int" : Str) = some NameKind.globalImplicit := by decide +kernel
theorem k_law_roll_many : (defScope s_law_roll).names.lookup ("many" : Str) = some NameKind.local := by decide +kernel
theorem w_law_roll {fd : FuncData} (T : TxF K mg) (F : FunD K "_law_roll" "_law_roll" (defArgs s_law_roll) (defBody s_law_roll) (defScope s_law_roll) [] [] (He.fAd K ("_law_roll", none)) fd)   : DefOk P w K mg base (gg K) 1 (He.fAd K ("_law_roll", none)) ["dice", "many"] f_law_roll := by
  have hb : Binds K fd ["dice", "many"] [] := F.bindsN fun _ _ _ _ _ _ us hl => match us, hl with | [_, _], _ => rfl
  refine ⟨⟨fd, dFn F sc_law_roll (by decide) fun cdv A outer s H E B hcd hr => ?_, hb⟩, F.kp⟩
  exact (qSeq (qIf (PW.pt (wOr (tEq hr rfl (gSub hr rfl (dV 0 (hv := (Or.inl k_law_roll_dice))) dInt) dInt) (wOr1 (PW.pt (wAnd (tEq hr rfl (gSub hr rfl (dV 0 (hv := (Or.inl k_law_roll_dice))) dInt) dInt) (wAnd1 (tGt (gSub hr rfl (dV 0 (hv := (Or.inl k_law_roll_dice))) dInt) dInt)))))))
 (qSeq (qSet (i := 2) sc_law_roll.nd rfl (Or.inl k_law_roll_found) (bMod (kInt k_law_roll_int T.n_int (aK (gSub hr rfl (dV 0 (hv := (Or.inl k_law_roll_dice))) dInt) aN)) (dV 1 (hv := (Or.inl k_law_roll_many)))))
 (qSeq (gPutL rfl (dV 0 (hv := (Or.inl k_law_roll_dice))) dInt (bFdiv (gSub hr rfl (dV 0 (hv := (Or.inl k_law_roll_dice))) dInt) (dV 1 (hv := (Or.inl k_law_roll_many)))))
 (qOne (qRet (dV 2 (hv := (Or.inl k_law_roll_found)))))))
 qNil)
 (qSeq (gPutL rfl (dV 0 (hv := (Or.inl k_law_roll_dice))) dInt dInt)
 (qSeq (qIf (tGt (dV 1 (hv := (Or.inl k_law_roll_many))) dInt)
 (qDeads pss_never)
 qNil)
 (qSeq (gPutL rfl (dV 0 (hv := (Or.inl k_law_roll_dice))) dInt (bMod (kInt k_law_roll_int T.n_int (aK (bAdd (bAdd (bMul (gSub hr rfl (dV 0 (hv := (Or.inl k_law_roll_dice))) dInt) dInt) (bMul (gSub hr rfl (dV 0 (hv := (Or.inl k_law_roll_dice))) dInt) dInt)) dInt) aN)) dInt))
 (qSeq (gPutL rfl (dV 0 (hv := (Or.inl k_law_roll_dice))) dInt (bAdd (gSub hr rfl (dV 0 (hv := (Or.inl k_law_roll_dice))) dInt) dInt))
 (qOne (qRet (bMod (kInt k_law_roll_int T.n_int (aK (bFdiv (gSub hr rfl (dV 0 (hv := (Or.inl k_law_roll_dice))) dInt) dInt) aN)) (dV 1 (hv := (Or.inl k_law_roll_many)))))))))))
abbrev N_law_rounds : List Str := ["script", "most", "cells", "cell"]
theorem sc_law_rounds : FnScope ["script", "most", "cells", "cell"] ["script", "most"] (defScope s_law_rounds) := ⟨rfl, rfl, rfl, by decide +kernel, rfl, by decide +kernel, by decide +kernel⟩
theorem k_law_rounds_cells : (defScope s_law_rounds).names.lookup ("cells" : Str) = some NameKind.local := by decide +kernel
theorem k_law_rounds_most : (defScope s_law_rounds).names.lookup ("most" : Str) = some NameKind.local := by decide +kernel
theorem k_law_rounds_script : (defScope s_law_rounds).names.lookup ("script" : Str) = some NameKind.local := by decide +kernel
theorem w_law_rounds {fd : FuncData} (T : TxF K mg) (F : FunD K "_law_rounds" "_law_rounds" (defArgs s_law_rounds) (defBody s_law_rounds) (defScope s_law_rounds) [] [] (He.fAd K ("_law_rounds", none)) fd) (d_law_dice : DefOk P w K mg base (gg K) 1 (He.fAd K ("_law_dice", none)) ["cell"] f_law_dice)  : DefOk P w K mg base (gg K) 2 (He.fAd K ("_law_rounds", none)) ["script", "most"] f_law_rounds := by
  have hb : Binds K fd ["script", "most"] [] := F.bindsN fun _ _ _ _ _ _ us hl => match us, hl with | [_, _], _ => rfl
  refine ⟨⟨fd, dFn F sc_law_rounds (by decide) fun cdv A outer s H E B hcd hr => ?_, hb⟩, F.kp⟩
  exact (qSeq (qSet (i := 2) sc_law_rounds.nd rfl (Or.inl k_law_rounds_cells) (xFrz (ySl rfl (dV 0 (hv := (Or.inl k_law_rounds_script))) oNoP (oSomeP (dV 1 (hv := (Or.inl k_law_rounds_most)))))))
 (qSeq (qIf (tEq hr rfl (dV 2 (hv := (Or.inl k_law_rounds_cells))) (xFrz (yLst aN)))
 (qOne (qSet (i := 2) sc_law_rounds.nd rfl (Or.inl k_law_rounds_cells) (xFrz (yLst (aK dInt aN)))))
 qNil)
 (qOne (qRet (xFrz (yLc0 (E' := fun _ _ _ => False) (own := [("cell", 3)]) rfl sc_law_rounds.nd (wE rfl (dV 2 (hv := (Or.inl k_law_rounds_cells)))) (blkOk_by (N := N_law_rounds) (sc := defScope s_law_rounds) (own := [("cell", 3)]) (by decide +kernel)) (by decide) tgN (fun _ _ _ _ _ => (pg_name (i := 3) sc_law_rounds.nd rfl (Or.inl rfl) (.inr rfl))) (fun _ _ _ _ _ => (gCall d_law_dice hr (by decide) rfl T.g__law_dice (pB rfl rfl) (aK (dV 3 (hv := (Or.inl rfl))) aN) (lenS len0)))))))))
abbrev N_law_rate : List Str := ["warmth", "wetness", "steps", "halves", "rate"]
theorem sc_law_rate : FnScope ["warmth", "wetness", "steps", "halves", "rate"] ["warmth", "wetness"] (defScope s_law_rate) := ⟨rfl, rfl, rfl, by decide +kernel, rfl, by decide +kernel, by decide +kernel⟩
theorem k_law_rate_halves : (defScope s_law_rate).names.lookup ("halves" : Str) = some NameKind.local := by decide +kernel
theorem k_law_rate_max : (defScope s_law_rate).names.lookup ("max" : Str) = some NameKind.globalImplicit := by decide +kernel
theorem k_law_rate_rate : (defScope s_law_rate).names.lookup ("rate" : Str) = some NameKind.local := by decide +kernel
theorem k_law_rate_steps : (defScope s_law_rate).names.lookup ("steps" : Str) = some NameKind.local := by decide +kernel
theorem k_law_rate_warmth : (defScope s_law_rate).names.lookup ("warmth" : Str) = some NameKind.local := by decide +kernel
theorem k_law_rate_wetness : (defScope s_law_rate).names.lookup ("wetness" : Str) = some NameKind.local := by decide +kernel
theorem w_law_rate {fd : FuncData} (T : TxF K mg) (F : FunD K "_law_rate" "_law_rate" (defArgs s_law_rate) (defBody s_law_rate) (defScope s_law_rate) [] [] (He.fAd K ("_law_rate", none)) fd)   : DefOk P w K mg base (gg K) 1 (He.fAd K ("_law_rate", none)) ["warmth", "wetness"] f_law_rate := by
  have hb : Binds K fd ["warmth", "wetness"] [] := F.bindsN fun _ _ _ _ _ _ us hl => match us, hl with | [_, _], _ => rfl
  refine ⟨⟨fd, dFn F sc_law_rate (by decide) fun cdv A outer s H E B hcd hr => ?_, hb⟩, F.kp⟩
  exact (qSeq (qSet (i := 2) sc_law_rate.nd rfl (Or.inl k_law_rate_steps) (dIf (tGt (dV 0 (hv := (Or.inl k_law_rate_warmth))) dInt) (bNeg (bFdiv (bNeg (bSub (dV 0 (hv := (Or.inl k_law_rate_warmth))) dInt)) dInt)) dInt))
 (qSeq (qSet (i := 3) sc_law_rate.nd rfl (Or.inl k_law_rate_halves) (dIf (tLtE (dV 0 (hv := (Or.inl k_law_rate_warmth))) dInt) (bFdiv (bSub dInt (dV 0 (hv := (Or.inl k_law_rate_warmth)))) dInt) dInt))
 (qSeq (qSet (i := 4) sc_law_rate.nd rfl (Or.inl k_law_rate_rate) (dIf (tGt (dV 2 (hv := (Or.inl k_law_rate_steps))) dInt) (bMul dInt (bShl dInt (dV 2 (hv := (Or.inl k_law_rate_steps))))) (kMax2 k_law_rate_max T.n_max rfl (aK dInt (aK (bFdiv dInt (bShl dInt (dV 3 (hv := (Or.inl k_law_rate_halves))))) aN)))))
 (qOne (qRet (bMul (dV 4 (hv := (Or.inl k_law_rate_rate))) (dIf (tGt (dV 1 (hv := (Or.inl k_law_rate_wetness))) dInt) dInt dInt)))))))
abbrev N_law : List Str := ["script", "dice", "air", "own", "step", "room", "rows", "last", "row", "good", "wears", "hours", "pairs", "k", "warm", "wet", "bad", "runs", "start", "here", "worn", "best", "j", "pair", "f"]
theorem sc_law : FnScope ["script", "dice", "air", "own", "step", "room", "rows", "last", "row", "good", "wears", "hours", "pairs", "k", "warm", "wet", "bad", "runs", "start", "here", "worn", "best", "j", "pair", "f"] ["script"] (defScope s_law) := ⟨rfl, rfl, rfl, by decide +kernel, rfl, by decide +kernel, by decide +kernel⟩
theorem k_law_Air : (defScope s_law).names.lookup ("Air" : Str) = some NameKind.globalImplicit := by decide +kernel
theorem k_law_MOST_READINGS : (defScope s_law).names.lookup ("MOST_READINGS" : Str) = some NameKind.globalImplicit := by decide +kernel
theorem k_law__law_rate : (defScope s_law).names.lookup ("_law_rate" : Str) = some NameKind.globalImplicit := by decide +kernel
theorem k_law__law_roll : (defScope s_law).names.lookup ("_law_roll" : Str) = some NameKind.globalImplicit := by decide +kernel
theorem k_law__law_rounds : (defScope s_law).names.lookup ("_law_rounds" : Str) = some NameKind.globalImplicit := by decide +kernel
theorem k_law__law_told : (defScope s_law).names.lookup ("_law_told" : Str) = some NameKind.globalImplicit := by decide +kernel
theorem k_law_air : (defScope s_law).names.lookup ("air" : Str) = some NameKind.cell := by decide +kernel
theorem k_law_bad : (defScope s_law).names.lookup ("bad" : Str) = some NameKind.local := by decide +kernel
theorem k_law_best : (defScope s_law).names.lookup ("best" : Str) = some NameKind.local := by decide +kernel
theorem k_law_dice : (defScope s_law).names.lookup ("dice" : Str) = some NameKind.local := by decide +kernel
theorem k_law_dict : (defScope s_law).names.lookup ("dict" : Str) = some NameKind.globalImplicit := by decide +kernel
theorem k_law_good : (defScope s_law).names.lookup ("good" : Str) = some NameKind.local := by decide +kernel
theorem k_law_here : (defScope s_law).names.lookup ("here" : Str) = some NameKind.local := by decide +kernel
theorem k_law_hours : (defScope s_law).names.lookup ("hours" : Str) = some NameKind.cell := by decide +kernel
theorem k_law_int : (defScope s_law).names.lookup ("int" : Str) = some NameKind.globalImplicit := by decide +kernel
theorem k_law_k : (defScope s_law).names.lookup ("k" : Str) = some NameKind.cell := by decide +kernel
theorem k_law_last : (defScope s_law).names.lookup ("last" : Str) = some NameKind.local := by decide +kernel
theorem k_law_len : (defScope s_law).names.lookup ("len" : Str) = some NameKind.globalImplicit := by decide +kernel
theorem k_law_list : (defScope s_law).names.lookup ("list" : Str) = some NameKind.globalImplicit := by decide +kernel
theorem k_law_max : (defScope s_law).names.lookup ("max" : Str) = some NameKind.globalImplicit := by decide +kernel
theorem k_law_own : (defScope s_law).names.lookup ("own" : Str) = some NameKind.cell := by decide +kernel
theorem k_law_pairs : (defScope s_law).names.lookup ("pairs" : Str) = some NameKind.local := by decide +kernel
theorem k_law_range : (defScope s_law).names.lookup ("range" : Str) = some NameKind.globalImplicit := by decide +kernel
theorem k_law_rate_of : (defScope s_law).names.lookup ("rate_of" : Str) = some NameKind.globalImplicit := by decide +kernel
theorem k_law_room : (defScope s_law).names.lookup ("room" : Str) = some NameKind.cell := by decide +kernel
theorem k_law_row : (defScope s_law).names.lookup ("row" : Str) = some NameKind.cell := by decide +kernel
theorem k_law_rows : (defScope s_law).names.lookup ("rows" : Str) = some NameKind.cell := by decide +kernel
theorem k_law_runs : (defScope s_law).names.lookup ("runs" : Str) = some NameKind.local := by decide +kernel
theorem k_law_script : (defScope s_law).names.lookup ("script" : Str) = some NameKind.local := by decide +kernel
theorem k_law_sorted : (defScope s_law).names.lookup ("sorted" : Str) = some NameKind.globalImplicit := by decide +kernel
theorem k_law_start : (defScope s_law).names.lookup ("start" : Str) = some NameKind.local := by decide +kernel
theorem k_law_step : (defScope s_law).names.lookup ("step" : Str) = some NameKind.local := by decide +kernel
theorem k_law_sum : (defScope s_law).names.lookup ("sum" : Str) = some NameKind.globalImplicit := by decide +kernel
theorem k_law_warm : (defScope s_law).names.lookup ("warm" : Str) = some NameKind.cell := by decide +kernel
theorem k_law_wears : (defScope s_law).names.lookup ("wears" : Str) = some NameKind.local := by decide +kernel
theorem k_law_wet : (defScope s_law).names.lookup ("wet" : Str) = some NameKind.cell := by decide +kernel
theorem k_law_worn : (defScope s_law).names.lookup ("worn" : Str) = some NameKind.local := by decide +kernel
end
end K09
/-! k09: the walk of the law (printed). -/
namespace K09
open PySem PySem.Spec PyProof.Rows L2 Mir
section
variable {P : Program} {w : World} {K : PySem.W.Frag} {mg : Str → Option Value} {base : Heap}
theorem w_law {fd : FuncData} (T : TxF K mg) (F : FunD K "law" "law" (defArgs s_law) (defBody s_law) (defScope s_law) [] [] (He.fAd K ("law", none)) fd) (d_Air___init__ : InitOk P w K mg base (gg K) 0 1 (He.fAd K ("Air", some "__init__")) ["self"] f_Air___init__) (d_Air_read : DefOk P w K mg base (gg K) 1 (He.fAd K ("Air", some "read")) ["self", "room", "hour", "warmth", "wetness"] f_Air_read) (d_Air_rows_of : DefOk P w K mg base (gg K) 1 (He.fAd K ("Air", some "rows_of")) ["self", "room"] f_Air_rows_of) (d_Air_swing : DefOk P w K mg base (gg K) 2 (He.fAd K ("Air", some "swing")) ["self", "room", "hours"] f_Air_swing) (d_Air_outside : DefOk P w K mg base (gg K) 2 (He.fAd K ("Air", some "outside")) ["self", "room", "warm", "wet"] f_Air_outside) (d_rate_of : DefOk P w K mg base (gg K) 1 (He.fAd K ("rate_of", none)) ["warmth", "wetness"] f_rate_of) (d_Air_wear : DefOk P w K mg base (gg K) 2 (He.fAd K ("Air", some "wear")) ["self", "room"] f_Air_wear) (d_Air_best_room : DefOk P w K mg base (gg K) 3 (He.fAd K ("Air", some "best_room")) ["self", "names"] f_Air_best_room) (d_law_roll : DefOk P w K mg base (gg K) 1 (He.fAd K ("_law_roll", none)) ["dice", "many"] f_law_roll) (d_law_rounds : DefOk P w K mg base (gg K) 2 (He.fAd K ("_law_rounds", none)) ["script", "most"] f_law_rounds) (d_law_rate : DefOk P w K mg base (gg K) 1 (He.fAd K ("_law_rate", none)) ["warmth", "wetness"] f_law_rate) {c : Addr} (DT : ToldOk K) (TB : LamX.TabB base mg c (tbA K)) (hc : fd.code = .ref c) : FnOk P w K mg base (L2.CX P w) 7 (He.fAd K ("law", none)) fd ["script"] (spOf (gg K) 1 f_law) := by
  refine dFn F sc_law (by decide) fun cdv A outer s H E B hcd hr => ?_
  exact (qSeq (qFor (passes_of rfl) rfl (wE rfl (gCall d_law_rounds hr (by decide) k_law__law_rounds T.g__law_rounds pF (aK (dV 0 (hv := (Or.inl k_law_script))) (aK dInt aN)) (lenS (lenS len0)))) (pg_name (i := 1) sc_law.nd rfl (Or.inl k_law_dice) (.inl rfl)) tgN
 (qSeq (gUnp (xTup (aK (xNew (gMake0 T.q_Air rfl T.mk_Air d_Air___init__ hr (by decide) k_law_Air T.g_Air pF rfl)) (aK (xFrz yDct0) aN))) (pg_tup rfl (pgs_cons (pg_name (i := 2) sc_law.nd rfl (Or.inr k_law_air) (.inl rfl)) (pgs_cons (pg_name (i := 3) sc_law.nd rfl (Or.inr k_law_own) (.inl rfl)) pgs_nil))) (tgT (tgsC tgN (tgsC tgN tgsN)) rfl))
 (qSeq (qFor (passes_of rfl) rfl (wR1 k_law_range T.n_range (gCall d_law_roll hr (by decide) k_law__law_roll T.g__law_roll pF (aK (dV 1 (hv := (Or.inl k_law_dice))) (aK dInt aN)) (lenS (lenS len0)))) (pg_name (i := 4) sc_law.nd rfl (Or.inl k_law_step) (.inl rfl)) tgN
 (qSeq (gUnp (xTup (aK (gSub hr rfl (dStr [97, 98, 99]) (gCall d_law_roll hr (by decide) k_law__law_roll T.g__law_roll pF (aK (dV 1 (hv := (Or.inl k_law_dice))) (aK dInt aN)) (lenS (lenS len0)))) (aK (xFrz (yLst aN)) aN))) (pg_tup rfl (pgs_cons (pg_name (i := 5) sc_law.nd rfl (Or.inr k_law_room) (.inl rfl)) (pgs_cons (pg_name (i := 6) sc_law.nd rfl (Or.inr k_law_rows) (.inl rfl)) pgs_nil))) (tgT (tgsC tgN (tgsC tgN tgsN)) rfl))
 (qSeq (qSet (i := 6) sc_law.nd rfl (Or.inr k_law_rows) (gGet2 hr (dV 3 (hv := (Or.inr (Or.inl k_law_own)))) (dV 5 (hv := (Or.inr (Or.inl k_law_room)))) (xFrz (yLst aN)) ⟨rfl, rfl, rfl, rfl⟩))
 (qSeq (qSet (i := 7) sc_law.nd rfl (Or.inl k_law_last) (dIf (tNotEq hr rfl (dV 6 (hv := (Or.inr (Or.inl k_law_rows)))) (xFrz (yLst aN))) (gSub hr rfl (gSub hr rfl (dV 6 (hv := (Or.inr (Or.inl k_law_rows)))) (bSub (kLen k_law_len T.n_len rfl (aK (dV 6 (hv := (Or.inr (Or.inl k_law_rows)))) aN)) dInt)) dInt) (gCall d_law_roll hr (by decide) k_law__law_roll T.g__law_roll pF (aK (dV 1 (hv := (Or.inl k_law_dice))) (aK dInt aN)) (lenS (lenS len0)))))
 (qSeq (qSet (i := 8) sc_law.nd rfl (Or.inr k_law_row) (xTup (aK (bSub (bAdd (dV 7 (hv := (Or.inl k_law_last))) (gCall d_law_roll hr (by decide) k_law__law_roll T.g__law_roll pF (aK (dV 1 (hv := (Or.inl k_law_dice))) (aK dInt aN)) (lenS (lenS len0)))) (kInt k_law_int T.n_int (aK (cEq hr rfl (gCall d_law_roll hr (by decide) k_law__law_roll T.g__law_roll pF (aK (dV 1 (hv := (Or.inl k_law_dice))) (aK dInt aN)) (lenS (lenS len0))) dInt) aN))) (aK (bSub (gCall d_law_roll hr (by decide) k_law__law_roll T.g__law_roll pF (aK (dV 1 (hv := (Or.inl k_law_dice))) (aK dInt aN)) (lenS (lenS len0))) dInt) (aK (gCall d_law_roll hr (by decide) k_law__law_roll T.g__law_roll pF (aK (dV 1 (hv := (Or.inl k_law_dice))) (aK dInt aN)) (lenS (lenS len0))) aN)))))
 (qSeq (qSet (i := 9) sc_law.nd rfl (Or.inl k_law_good) (dAnd (cLtE (gSub hr rfl (dV 8 (hv := (Or.inr (Or.inl k_law_row)))) dInt) dInt) (dOne (dOr (cEq hr rfl (dV 6 (hv := (Or.inr (Or.inl k_law_rows)))) (xFrz (yLst aN))) (dOne (cGt (gSub hr rfl (dV 8 (hv := (Or.inr (Or.inl k_law_row)))) dInt) (dV 7 (hv := (Or.inl k_law_last)))))))))
 (qSeq (qIf (tEq hr rfl (cEq hr rfl (xTo T DT TB (hcd.symm.trans hc) rfl hr (LamX.lamS_by (sc := defScope s_law) (by decide +kernel)) rfl (fun _ _ _ _ _ => rfl) k_law__law_told fun A outer s H E f c hr2 => (gMeth T.q_Air rfl T.m_Air_read d_Air_read (by decide +kernel) hr2 (by decide) (pL rfl rfl rfl rfl) (dV 2 (hv := (Or.inr (Or.inr rfl)))) (aK (dV 5 (hv := (Or.inr (Or.inr rfl)))) (aK (gSub hr2 rfl (dV 8 (hv := (Or.inr (Or.inr rfl)))) dInt) (aK (gSub hr2 rfl (dV 8 (hv := (Or.inr (Or.inr rfl)))) dInt) (aK (gSub hr2 rfl (dV 8 (hv := (Or.inr (Or.inr rfl)))) dInt) aN)))) (lenS (lenS (lenS (lenS len0)))) rfl)) (dStr [76, 111, 97, 110, 69, 114, 114, 111, 114])) (dV 9 (hv := (Or.inl k_law_good))))
 (qOne (qRet dBl))
 qNil)
 (qOne (qSet (i := 3) sc_law.nd rfl (Or.inr k_law_own) (xFrz (kDict k_law_dict T.n_dict rfl rfl (aK (xFrz (yCat (xFrz (gItems rfl rfl (dV 3 (hv := (Or.inr (Or.inl k_law_own)))) k_law_list T.n_list)) (xFrz (yRep (xFrz (yLst (aK (xTup (aK (dV 5 (hv := (Or.inr (Or.inl k_law_room)))) (aK (xFrz (yCat (dV 6 (hv := (Or.inr (Or.inl k_law_rows)))) (xFrz (yLst (aK (dV 8 (hv := (Or.inr (Or.inl k_law_row)))) aN))))) aN))) aN))) (kInt k_law_int T.n_int (aK (dV 9 (hv := (Or.inl k_law_good))) aN)))))) aN))))))))))))
 (qSeq (qSet (i := 10) sc_law.nd rfl (Or.inl k_law_wears) (xFrz (yLst aN)))
 (qSeq (qFor (passes_of rfl) rfl (wE rfl (xFrz (kSorted k_law_sorted T.n_sorted rfl rfl (aK (dV 3 (hv := (Or.inr (Or.inl k_law_own)))) aN)))) (pg_name (i := 5) sc_law.nd rfl (Or.inr k_law_room) (.inl rfl)) tgN
 (qSeq (gUnp (xTup (aK (gSub hr rfl (dV 3 (hv := (Or.inr (Or.inl k_law_own)))) (dV 5 (hv := (Or.inr (Or.inl k_law_room))))) (aK (gCall d_law_roll hr (by decide) k_law__law_roll T.g__law_roll pF (aK (dV 1 (hv := (Or.inl k_law_dice))) (aK dInt aN)) (lenS (lenS len0))) aN))) (pg_tup rfl (pgs_cons (pg_name (i := 6) sc_law.nd rfl (Or.inr k_law_rows) (.inl rfl)) (pgs_cons (pg_name (i := 11) sc_law.nd rfl (Or.inr k_law_hours) (.inl rfl)) pgs_nil))) (tgT (tgsC tgN (tgsC tgN tgsN)) rfl))
 (qSeq (qSet (i := 12) sc_law.nd rfl (Or.inl k_law_pairs) (xFrz (yLst aN)))
 (qSeq (qFor (passes_of rfl) rfl (wR1 k_law_range T.n_range (kLen k_law_len T.n_len rfl (aK (dV 6 (hv := (Or.inr (Or.inl k_law_rows)))) aN))) (pg_name (i := 13) sc_law.nd rfl (Or.inr k_law_k) (.inl rfl)) tgN
 (qOne (qSet (i := 12) sc_law.nd rfl (Or.inl k_law_pairs) (xFrz (yCat (dV 12 (hv := (Or.inl k_law_pairs))) (xFrz (yLc1 (E' := fun _ _ _ => False) (own := [("j", 22)]) rfl sc_law.nd (wR2 k_law_range T.n_range (dV 13 (hv := (Or.inr (Or.inl k_law_k)))) (kLen k_law_len T.n_len rfl (aK (dV 6 (hv := (Or.inr (Or.inl k_law_rows)))) aN))) (blkOk_by (N := N_law) (sc := defScope s_law) (own := [("j", 22)]) (by decide +kernel)) (by decide) tgN (fun _ _ _ _ _ => (pg_name (i := 22) sc_law.nd rfl (Or.inl rfl) (.inr rfl))) (fun _ _ _ _ _ => (tLtE (bSub (gSub hr rfl (gSub hr rfl (dV 6 (hv := (Or.inr (Or.inl rfl)))) (dV 22 (hv := (Or.inl rfl)))) dInt) (gSub hr rfl (gSub hr rfl (dV 6 (hv := (Or.inr (Or.inl rfl)))) (dV 13 (hv := (Or.inr (Or.inl rfl))))) dInt)) (dV 11 (hv := (Or.inr (Or.inl rfl)))))) (fun _ _ _ _ _ => (xTup (aK (kAbs rfl T.n_abs (aK (bSub (gSub hr rfl (gSub hr rfl (dV 6 (hv := (Or.inr (Or.inl rfl)))) (dV 22 (hv := (Or.inl rfl)))) dInt) (gSub hr rfl (gSub hr rfl (dV 6 (hv := (Or.inr (Or.inl rfl)))) (dV 13 (hv := (Or.inr (Or.inl rfl))))) dInt)) aN)) (aK (kAbs rfl T.n_abs (aK (bSub (gSub hr rfl (gSub hr rfl (dV 6 (hv := (Or.inr (Or.inl rfl)))) (dV 22 (hv := (Or.inl rfl)))) dInt) (gSub hr rfl (gSub hr rfl (dV 6 (hv := (Or.inr (Or.inl rfl)))) (dV 13 (hv := (Or.inr (Or.inl rfl))))) dInt)) aN)) aN)))))))))))
 (qSeq (qIf (PW.pt (wOr (tNotEq hr rfl (xFrz (kList k_law_list T.n_list rfl (aK (gMeth T.q_Air rfl T.m_Air_rows_of d_Air_rows_of (by decide +kernel) hr (by decide) pF (dV 2 (hv := (Or.inr (Or.inl k_law_air)))) (aK (dV 5 (hv := (Or.inr (Or.inl k_law_room)))) aN) (lenS len0) rfl) aN))) (dV 6 (hv := (Or.inr (Or.inl k_law_rows))))) (wOr1 (tNotEq hr rfl (gMeth T.q_Air rfl T.m_Air_swing d_Air_swing (by decide +kernel) hr (by decide) pF (dV 2 (hv := (Or.inr (Or.inl k_law_air)))) (aK (dV 5 (hv := (Or.inr (Or.inl k_law_room)))) (aK (dV 11 (hv := (Or.inr (Or.inl k_law_hours)))) aN)) (lenS (lenS len0)) rfl) (xTup (aK (kMaxL k_law_max T.n_max rfl rfl (aK (xFrz (yLc0 (E' := fun _ _ _ => False) (own := [("pair", 23)]) rfl sc_law.nd (wE rfl (dV 12 (hv := (Or.inl k_law_pairs)))) (blkOk_by (N := N_law) (sc := defScope s_law) (own := [("pair", 23)]) (by decide +kernel)) (by decide) tgN (fun _ _ _ _ _ => (pg_name (i := 23) sc_law.nd rfl (Or.inl rfl) (.inr rfl))) (fun _ _ _ _ _ => (gSub hr rfl (dV 23 (hv := (Or.inl rfl))) dInt)))) aN)) (aK (kMaxL k_law_max T.n_max rfl rfl (aK (xFrz (yLc0 (E' := fun _ _ _ => False) (own := [("pair", 23)]) rfl sc_law.nd (wE rfl (dV 12 (hv := (Or.inl k_law_pairs)))) (blkOk_by (N := N_law) (sc := defScope s_law) (own := [("pair", 23)]) (by decide +kernel)) (by decide) tgN (fun _ _ _ _ _ => (pg_name (i := 23) sc_law.nd rfl (Or.inl rfl) (.inr rfl))) (fun _ _ _ _ _ => (gSub hr rfl (dV 23 (hv := (Or.inl rfl))) dInt)))) aN)) aN)))))))
 (qOne (qRet dBl))
 qNil)
 (qSeq (gUnp (xTup (aK (xTup (aK (gCall d_law_roll hr (by decide) k_law__law_roll T.g__law_roll pF (aK (dV 1 (hv := (Or.inl k_law_dice))) (aK dInt aN)) (lenS (lenS len0))) (aK (bAdd dInt (gCall d_law_roll hr (by decide) k_law__law_roll T.g__law_roll pF (aK (dV 1 (hv := (Or.inl k_law_dice))) (aK dInt aN)) (lenS (lenS len0)))) aN))) (aK (xTup (aK (gCall d_law_roll hr (by decide) k_law__law_roll T.g__law_roll pF (aK (dV 1 (hv := (Or.inl k_law_dice))) (aK dInt aN)) (lenS (lenS len0))) (aK (bAdd dInt (gCall d_law_roll hr (by decide) k_law__law_roll T.g__law_roll pF (aK (dV 1 (hv := (Or.inl k_law_dice))) (aK dInt aN)) (lenS (lenS len0)))) aN))) aN))) (pg_tup rfl (pgs_cons (pg_name (i := 14) sc_law.nd rfl (Or.inr k_law_warm) (.inl rfl)) (pgs_cons (pg_name (i := 15) sc_law.nd rfl (Or.inr k_law_wet) (.inl rfl)) pgs_nil))) (tgT (tgsC tgN (tgsC tgN tgsN)) rfl))
 (qSeq (qSetLc0 (E' := fun _ _ _ => False) (i := 16) (own := [("row", 8)]) rfl sc_law.nd rfl k_law_bad rfl (wE rfl (dV 6 (hv := (Or.inr (Or.inl k_law_rows))))) (blkOk_by (N := N_law) (sc := defScope s_law) (own := [("row", 8)]) (by decide +kernel)) (by decide) tgN (fun _ _ _ _ _ => (pg_name (i := 8) sc_law.nd rfl (Or.inl rfl) (.inr rfl))) (fun _ _ _ _ _ => (dNot (dAnd (cLeLe (gSub hr rfl (dV 14 (hv := (Or.inr (Or.inl rfl)))) dInt) (gSub hr rfl (dV 8 (hv := (Or.inl rfl))) dInt) (gSub hr rfl (dV 14 (hv := (Or.inr (Or.inl rfl)))) dInt)) (dOne (cLeLe (gSub hr rfl (dV 15 (hv := (Or.inr (Or.inl rfl)))) dInt) (gSub hr rfl (dV 8 (hv := (Or.inl rfl))) dInt) (gSub hr rfl (dV 15 (hv := (Or.inr (Or.inl rfl)))) dInt)))))))
 (qSeq (gPar (i := 17) (j := 18) rfl sc_law.nd rfl rfl (by decide) k_law_runs k_law_start (srcV (xFrz (yLst aN))) (srcV dNon))
 (qSeq (qFor (passes_of rfl) rfl (wR1 k_law_range T.n_range (bAdd (kLen k_law_len T.n_len rfl (aK (dV 6 (hv := (Or.inr (Or.inl k_law_rows)))) aN)) dInt)) (pg_name (i := 13) sc_law.nd rfl (Or.inr k_law_k) (.inl rfl)) tgN
 (qSeq (qSet (i := 19) sc_law.nd rfl (Or.inl k_law_here) (dAnd (cLt (dV 13 (hv := (Or.inr (Or.inl k_law_k)))) (kLen k_law_len T.n_len rfl (aK (dV 6 (hv := (Or.inr (Or.inl k_law_rows)))) aN))) (dOne (gSub hr rfl (dV 16 (hv := (Or.inl k_law_bad))) (dV 13 (hv := (Or.inr (Or.inl k_law_k))))))))
 (qSeq (qIf (PW.pt (wAnd (dT (dV 19 (hv := (Or.inl k_law_here)))) (wAnd1 (tIs (dV 18 (hv := (Or.inl k_law_start))) dNon))))
 (qOne (qSet (i := 18) sc_law.nd rfl (Or.inl k_law_start) (dV 13 (hv := (Or.inr (Or.inl k_law_k))))))
 qNil)
 (qOne (qIf (PW.pt (wAnd (dTnot (dT (dV 19 (hv := (Or.inl k_law_here))))) (wAnd1 (tIsNot (dV 18 (hv := (Or.inl k_law_start))) dNon))))
 (qOne (gPar (i := 17) (j := 18) rfl sc_law.nd rfl rfl (by decide) k_law_runs k_law_start (srcV (xFrz (yCat (dV 17 (hv := (Or.inl k_law_runs))) (xFrz (yLst (aK (xTup (aK (gSub hr rfl (gSub hr rfl (dV 6 (hv := (Or.inr (Or.inl k_law_rows)))) (dV 18 (hv := (Or.inl k_law_start)))) dInt) (aK (gSub hr rfl (gSub hr rfl (dV 6 (hv := (Or.inr (Or.inl k_law_rows)))) (bSub (dV 13 (hv := (Or.inr (Or.inl k_law_k)))) dInt)) dInt) aN))) aN)))))) (srcV dNon)))
 qNil)))))
 (qSeq (qIf (tNotEq hr rfl (xFrz (kList k_law_list T.n_list rfl (aK (gMeth T.q_Air rfl T.m_Air_outside d_Air_outside (by decide +kernel) hr (by decide) pF (dV 2 (hv := (Or.inr (Or.inl k_law_air)))) (aK (dV 5 (hv := (Or.inr (Or.inl k_law_room)))) (aK (dV 14 (hv := (Or.inr (Or.inl k_law_warm)))) (aK (dV 15 (hv := (Or.inr (Or.inl k_law_wet)))) aN))) (lenS (lenS (lenS len0))) rfl) aN))) (dV 17 (hv := (Or.inl k_law_runs))))
 (qOne (qRet dBl))
 qNil)
 (qSeq (qSet (i := 20) sc_law.nd rfl (Or.inl k_law_worn) (kSum k_law_sum T.n_sum rfl rfl (aK (xFrz (yLc0 (E' := fun _ _ _ => False) (own := [("k", 13)]) rfl sc_law.nd (wR1 k_law_range T.n_range (bSub (kLen k_law_len T.n_len rfl (aK (dV 6 (hv := (Or.inr (Or.inl k_law_rows)))) aN)) dInt)) (blkOk_by (N := N_law) (sc := defScope s_law) (own := [("k", 13)]) (by decide +kernel)) (by decide) tgN (fun _ _ _ _ _ => (pg_name (i := 13) sc_law.nd rfl (Or.inl rfl) (.inr rfl))) (fun _ _ _ _ _ => (bMul (bSub (gSub hr rfl (gSub hr rfl (dV 6 (hv := (Or.inr (Or.inl rfl)))) (bAdd (dV 13 (hv := (Or.inl rfl))) dInt)) dInt) (gSub hr rfl (gSub hr rfl (dV 6 (hv := (Or.inr (Or.inl rfl)))) (dV 13 (hv := (Or.inl rfl)))) dInt)) (gCall d_law_rate hr (by decide) rfl T.g__law_rate (pB rfl rfl) (aK (gSub hr rfl (gSub hr rfl (dV 6 (hv := (Or.inr (Or.inl rfl)))) (dV 13 (hv := (Or.inl rfl)))) dInt) (aK (gSub hr rfl (gSub hr rfl (dV 6 (hv := (Or.inr (Or.inl rfl)))) (dV 13 (hv := (Or.inl rfl)))) dInt) aN)) (lenS (lenS len0))))))) aN)))
 (qSeq (qIf (PW.pt (wOr (tNotEq hr rfl (gMeth T.q_Air rfl T.m_Air_wear d_Air_wear (by decide +kernel) hr (by decide) pF (dV 2 (hv := (Or.inr (Or.inl k_law_air)))) (aK (dV 5 (hv := (Or.inr (Or.inl k_law_room)))) aN) (lenS len0) rfl) (dV 20 (hv := (Or.inl k_law_worn)))) (wOr1 (tNotEq hr rfl (gCall d_rate_of hr (by decide) k_law_rate_of T.g_rate_of pF (aK (gSub hr rfl (gSub hr rfl (dV 6 (hv := (Or.inr (Or.inl k_law_rows)))) dInt) dInt) (aK (gSub hr rfl (gSub hr rfl (dV 6 (hv := (Or.inr (Or.inl k_law_rows)))) dInt) dInt) aN)) (lenS (lenS len0))) (gCall d_law_rate hr (by decide) k_law__law_rate T.g__law_rate pF (aK (gSub hr rfl (gSub hr rfl (dV 6 (hv := (Or.inr (Or.inl k_law_rows)))) dInt) dInt) (aK (gSub hr rfl (gSub hr rfl (dV 6 (hv := (Or.inr (Or.inl k_law_rows)))) dInt) dInt) aN)) (lenS (lenS len0)))))))
 (qOne (qRet dBl))
 qNil)
 (qOne (qSet (i := 10) sc_law.nd rfl (Or.inl k_law_wears) (xFrz (yCat (dV 10 (hv := (Or.inl k_law_wears))) (xFrz (yRep (xFrz (yLst (aK (xTup (aK (dV 5 (hv := (Or.inr (Or.inl k_law_room)))) (aK (dV 20 (hv := (Or.inl k_law_worn))) (aK (bSub (gSub hr rfl (gSub hr rfl (dV 6 (hv := (Or.inr (Or.inl k_law_rows)))) (bSub (kLen k_law_len T.n_len rfl (aK (dV 6 (hv := (Or.inr (Or.inl k_law_rows)))) aN)) dInt)) dInt) (gSub hr rfl (gSub hr rfl (dV 6 (hv := (Or.inr (Or.inl k_law_rows)))) dInt) dInt)) aN)))) aN))) (kInt k_law_int T.n_int (aK (cGt (kLen k_law_len T.n_len rfl (aK (dV 6 (hv := (Or.inr (Or.inl k_law_rows)))) aN)) dInt) aN))))))))))))))))))))
 (qSeq (qSet (i := 21) sc_law.nd rfl (Or.inl k_law_best) dNon)
 (qSeq (qFor (passes_of rfl) rfl (wE rfl (dV 10 (hv := (Or.inl k_law_wears)))) (pg_tup rfl (pgs_cons (pg_name (i := 5) sc_law.nd rfl (Or.inr k_law_room) (.inl rfl)) (pgs_cons (pg_name (i := 20) sc_law.nd rfl (Or.inl k_law_worn) (.inl rfl)) (pgs_cons (pg_name (i := 11) sc_law.nd rfl (Or.inr k_law_hours) (.inl rfl)) pgs_nil)))) (tgT (tgsC tgN (tgsC tgN (tgsC tgN tgsN))) rfl)
 (qOne (qIf (PW.pt (wOr (tIs (dV 21 (hv := (Or.inl k_law_best))) dNon) (wOr1 (tLt (bMul (dV 20 (hv := (Or.inl k_law_worn))) (gSub hr rfl (dV 21 (hv := (Or.inl k_law_best))) dInt)) (bMul (gSub hr rfl (dV 21 (hv := (Or.inl k_law_best))) dInt) (dV 11 (hv := (Or.inr (Or.inl k_law_hours)))))))))
 (qOne (qSet (i := 21) sc_law.nd rfl (Or.inl k_law_best) (xTup (aK (dV 5 (hv := (Or.inr (Or.inl k_law_room)))) (aK (dV 20 (hv := (Or.inl k_law_worn))) (aK (dV 11 (hv := (Or.inr (Or.inl k_law_hours)))) aN))))))
 qNil)))
 (qOne (qIf (tNotEq hr rfl (xTo T DT TB (hcd.symm.trans hc) rfl hr (LamX.lamS_by (sc := defScope s_law) (by decide +kernel)) rfl (fun _ _ _ _ _ => rfl) k_law__law_told fun A outer s H E f c hr2 => (gMeth T.q_Air rfl T.m_Air_best_room d_Air_best_room (by decide +kernel) hr2 (by decide) (pL rfl rfl rfl rfl) (dV 2 (hv := (Or.inr (Or.inr rfl)))) (aK (xFrz (yRev rfl (xFrz (kSorted rfl T.n_sorted rfl rfl (aK (dV 3 (hv := (Or.inr (Or.inr rfl)))) aN))))) aN) (lenS len0) rfl)) (dIf (tIsNot (dV 21 (hv := (Or.inl k_law_best))) dNon) (gSub hr rfl (dV 21 (hv := (Or.inl k_law_best))) dInt) (dStr [76, 111, 97, 110, 69, 114, 114, 111, 114])))
 (qOne (qRet dBl))
 qNil)))))))))
 (qSeq (qSet (i := 2) sc_law.nd rfl (Or.inr k_law_air) (xNew (gMake0 T.q_Air rfl T.mk_Air d_Air___init__ hr (by decide) k_law_Air T.g_Air pF rfl)))
 (qSeq (qExpr (gMeth T.q_Air rfl T.m_Air_read d_Air_read (by decide +kernel) hr (by decide) pF (dV 2 (hv := (Or.inr (Or.inl k_law_air)))) (aK (dStr [97]) (aK dInt (aK dInt (aK dInt aN)))) (lenS (lenS (lenS (lenS len0)))) rfl))
 (pssBad (k := 4) (bv := "bad") TB (hcd.symm.trans hc) (List.mem_singleton.mpr rfl) (fun p hp _ => by rw [List.mem_singleton.mp hp]; rfl) rfl sc_law.nd rfl (Or.inl k_law_bad) rfl (by decide) (by rfl) (.cons ⟨_, _, _, _, rfl, ⟨LamX.lamS_by (sc := defScope s_law) (by decide +kernel), rfl, fun _ _ _ _ _ => rfl, fun A outer s H E f c hr2 => (gMeth T.q_Air rfl T.m_Air_read d_Air_read (by decide +kernel) hr2 (by decide) (pL rfl rfl rfl rfl) (dV 2 (hv := (Or.inr (Or.inr rfl)))) (aK (dStr [97]) (aK dInt (aK dInt (aK dInt aN)))) (lenS (lenS (lenS (lenS len0)))) rfl)⟩⟩
 (.cons ⟨_, _, _, _, rfl, ⟨LamX.lamS_by (sc := defScope s_law) (by decide +kernel), rfl, fun _ _ _ _ _ => rfl, fun A outer s H E f c hr2 => (gMeth T.q_Air rfl T.m_Air_read d_Air_read (by decide +kernel) hr2 (by decide) (pL rfl rfl rfl rfl) (dV 2 (hv := (Or.inr (Or.inr rfl)))) (aK (dStr [97]) (aK dInt (aK dInt (aK dInt aN)))) (lenS (lenS (lenS (lenS len0)))) rfl)⟩⟩
 (.cons ⟨_, _, _, _, rfl, ⟨LamX.lamS_by (sc := defScope s_law) (by decide +kernel), rfl, fun _ _ _ _ _ => rfl, fun A outer s H E f c hr2 => (gMeth T.q_Air rfl T.m_Air_read d_Air_read (by decide +kernel) hr2 (by decide) (pL rfl rfl rfl rfl) (dV 2 (hv := (Or.inr (Or.inr rfl)))) (aK (dStr [97]) (aK dInt (aK (bNeg dInt) (aK dInt aN)))) (lenS (lenS (lenS (lenS len0)))) rfl)⟩⟩
 (.cons ⟨_, _, _, _, rfl, ⟨LamX.lamS_by (sc := defScope s_law) (by decide +kernel), rfl, fun _ _ _ _ _ => rfl, fun A outer s H E f c hr2 => (gMeth T.q_Air rfl T.m_Air_read d_Air_read (by decide +kernel) hr2 (by decide) (pL rfl rfl rfl rfl) (dV 2 (hv := (Or.inr (Or.inr rfl)))) (aK (dStr [97]) (aK dInt (aK dInt (aK (bNeg dInt) aN)))) (lenS (lenS (lenS (lenS len0)))) rfl)⟩⟩
 (.cons ⟨_, _, _, _, rfl, ⟨LamX.lamS_by (sc := defScope s_law) (by decide +kernel), rfl, fun _ _ _ _ _ => rfl, fun A outer s H E f c hr2 => (gMeth T.q_Air rfl T.m_Air_rows_of d_Air_rows_of (by decide +kernel) hr2 (by decide) (pL rfl rfl rfl rfl) (dV 2 (hv := (Or.inr (Or.inr rfl)))) (aK (dStr [98]) aN) (lenS len0) rfl)⟩⟩
 (.cons ⟨_, _, _, _, rfl, ⟨LamX.lamS_by (sc := defScope s_law) (by decide +kernel), rfl, fun _ _ _ _ _ => rfl, fun A outer s H E f c hr2 => (gMeth T.q_Air rfl T.m_Air_swing d_Air_swing (by decide +kernel) hr2 (by decide) (pL rfl rfl rfl rfl) (dV 2 (hv := (Or.inr (Or.inr rfl)))) (aK (dStr [97]) (aK (bNeg dInt) aN)) (lenS (lenS len0)) rfl)⟩⟩
 (.cons ⟨_, _, _, _, rfl, ⟨LamX.lamS_by (sc := defScope s_law) (by decide +kernel), rfl, fun _ _ _ _ _ => rfl, fun A outer s H E f c hr2 => (gMeth T.q_Air rfl T.m_Air_swing d_Air_swing (by decide +kernel) hr2 (by decide) (pL rfl rfl rfl rfl) (dV 2 (hv := (Or.inr (Or.inr rfl)))) (aK (dStr [98]) (aK dInt aN)) (lenS (lenS len0)) rfl)⟩⟩
 (.cons ⟨_, _, _, _, rfl, ⟨LamX.lamS_by (sc := defScope s_law) (by decide +kernel), rfl, fun _ _ _ _ _ => rfl, fun A outer s H E f c hr2 => (gMeth T.q_Air rfl T.m_Air_outside d_Air_outside (by decide +kernel) hr2 (by decide) (pL rfl rfl rfl rfl) (dV 2 (hv := (Or.inr (Or.inr rfl)))) (aK (dStr [98]) (aK (xTup (aK dInt (aK dInt aN))) (aK (xTup (aK dInt (aK dInt aN))) aN))) (lenS (lenS (lenS len0))) rfl)⟩⟩
 (.cons ⟨_, _, _, _, rfl, ⟨LamX.lamS_by (sc := defScope s_law) (by decide +kernel), rfl, fun _ _ _ _ _ => rfl, fun A outer s H E f c hr2 => (gMeth T.q_Air rfl T.m_Air_wear d_Air_wear (by decide +kernel) hr2 (by decide) (pL rfl rfl rfl rfl) (dV 2 (hv := (Or.inr (Or.inr rfl)))) (aK (dStr [98]) aN) (lenS len0) rfl)⟩⟩
 (.cons ⟨_, _, _, _, rfl, ⟨LamX.lamS_by (sc := defScope s_law) (by decide +kernel), rfl, fun _ _ _ _ _ => rfl, fun A outer s H E f c hr2 => (gMeth T.q_Air rfl T.m_Air_best_room d_Air_best_room (by decide +kernel) hr2 (by decide) (pL rfl rfl rfl rfl) (dV 2 (hv := (Or.inr (Or.inr rfl)))) (aK (xFrz (yLst (aK (dStr [97]) aN))) aN) (lenS len0) rfl)⟩⟩
 (.cons ⟨_, _, _, _, rfl, ⟨LamX.lamS_by (sc := defScope s_law) (by decide +kernel), rfl, fun _ _ _ _ _ => rfl, fun A outer s H E f c hr2 => (gMeth T.q_Air rfl T.m_Air_best_room d_Air_best_room (by decide +kernel) hr2 (by decide) (pL rfl rfl rfl rfl) (dV 2 (hv := (Or.inr (Or.inr rfl)))) (aK (xFrz (yLst aN)) aN) (lenS len0) rfl)⟩⟩
 (.cons ⟨_, _, _, _, rfl, ⟨LamX.lamS_by (sc := defScope s_law) (by decide +kernel), rfl, fun _ _ _ _ _ => rfl, fun A outer s H E f c hr2 => (gMeth T.q_Air rfl T.m_Air_best_room d_Air_best_room (by decide +kernel) hr2 (by decide) (pL rfl rfl rfl rfl) (dV 2 (hv := (Or.inr (Or.inr rfl)))) (aK (xFrz (yLst (aK (dStr [98]) aN))) aN) (lenS len0) rfl)⟩⟩
 .nil)))))))))))) fun fs => (badRet hr rfl (lcB (k := 4) (ib := 16) (iF := 24) T DT (by decide +kernel) rfl sc_law.nd rfl (fun _ _ => rfl) hr (blkOk_by (N := N_law) (sc := defScope s_law) (own := [("f", 24)]) (by decide +kernel)) rfl (fun _ _ => rfl) rfl (Or.inl k_law_bad)) (dAnd (cEq hr rfl (xFrz (yLst (aK (gCall d_rate_of hr (by decide) k_law_rate_of T.g_rate_of (pL rfl rfl rfl rfl) (aK dInt (aK dInt aN)) (lenS (lenS len0))) (aK (gCall d_rate_of hr (by decide) k_law_rate_of T.g_rate_of (pL rfl rfl rfl rfl) (aK dInt (aK dInt aN)) (lenS (lenS len0))) (aK (gCall d_rate_of hr (by decide) k_law_rate_of T.g_rate_of (pL rfl rfl rfl rfl) (aK dInt (aK dInt aN)) (lenS (lenS len0))) (aK (gCall d_rate_of hr (by decide) k_law_rate_of T.g_rate_of (pL rfl rfl rfl rfl) (aK (bNeg dInt) (aK dInt aN)) (lenS (lenS len0))) aN)))))) (xFrz (yLst (aK dInt (aK dInt (aK dInt (aK dInt aN))))))) (dAnd (cEq hr rfl (gInt T.i_MOST_READINGS k_law_MOST_READINGS) dInt) (dOne (cEq hr rfl (gMeth T.q_Air rfl T.m_Air_wear d_Air_wear (by decide +kernel) hr (by decide) (pL rfl rfl rfl rfl) (dV 2 (hv := (Or.inr (Or.inl k_law_air)))) (aK (dStr [97]) aN) (lenS len0) rfl) dInt)))))))))
end
end K09
/-! P1: plain laws of loops and comprehensions of mirrors. -/
namespace Mir
theorem forLoop_fold {α : Type} {tg : Tg} {body : SM} (env : α → Env) (sto : α → St) (F : α → D → α) (P : α → Prop) : ∀ (ds : List D) (a : α), P a →
    (∀ a d, P a → d ∈ ds → ∃ r1, bindT tg d (env a) = some r1 ∧ (body r1 (sto a) = .nx (env (F a d)) (sto (F a d)) ∨ body r1 (sto a) = .ct (env (F a d)) (sto (F a d))) ∧ P (F a d)) →
    forLoop tg body .free ds (env a) (sto a) = .nx (env (ds.foldl F a)) (sto (ds.foldl F a)) ∧ P (ds.foldl F a)
  | [], a, hp, _ => ⟨rfl, hp⟩
  | d :: ds, a, hp, h => by
    obtain ⟨r1, h1, h2, h3⟩ := h a d hp List.mem_cons_self
    have ih := forLoop_fold env sto F P ds (F a d) h3 fun a d hp hd => h a d hp (List.mem_cons_of_mem _ hd)
    refine ⟨?_, ih.2⟩
    rw [List.foldl_cons, ← ih.1]
    unfold forLoop
    rw [h1]
    rcases h2 with h2 | h2
    · dsimp only
      rw [h2]
      cases ds <;> simp [Watch.ok, forLoop]
    · dsimp only
      rw [h2]
      cases ds <;> simp [Watch.ok, forLoop]
/-- a loop over data that stays, by a relation: F tells what a turn makes of what is known -/
theorem forLoop_rel {α : Type} {tg : Tg} {body : SM} (R : α → Env → St → Prop) (F : α → D → α) : ∀ (ds : List D) (a : α) (r : Env) (s : St), R a r s →
    (∀ a r s d, d ∈ ds → R a r s → ∃ r1 r2 s2, bindT tg d r = some r1 ∧ (body r1 s = .nx r2 s2 ∨ body r1 s = .ct r2 s2) ∧ R (F a d) r2 s2) →
    ∃ r2 s2, forLoop tg body .free ds r s = .nx r2 s2 ∧ R (ds.foldl F a) r2 s2
  | [], a, r, s, h, _ => ⟨r, s, rfl, h⟩
  | d :: ds, a, r, s, h, k => by
    obtain ⟨r1, r2, s2, h1, h2, h3⟩ := k a r s d List.mem_cons_self h
    obtain ⟨r4, s4, h4, h5⟩ := forLoop_rel R F ds (F a d) r2 s2 h3 fun a r s d hd => k a r s d (List.mem_cons_of_mem _ hd)
    refine ⟨r4, s4, ?_, h5⟩
    unfold forLoop
    rw [h1]
    rcases h2 with h2 | h2
    · dsimp only
      rw [h2]
      exact (if_pos (show Watch.free.ok s2 = true from rfl)).trans h4
    · dsimp only
      rw [h2]
      exact (if_pos (show Watch.free.ok s2 = true from rfl)).trans h4
theorem lcLoop_map {tg : Tg} {t : TM} {e : EM} {vs : List Nat} {r : Env} {s : St} (c : D → Bool) (v : D → D) : ∀ (ds acc : List D), (∀ d ∈ ds, ∃ r1, bindT tg d (wipeE vs r) = some r1 ∧ t r1 s = .ok (c d) s ∧ (c d = true → e r1 s = .ok (.val (v d)) s)) → acc.length + ds.length ≤ lim →
    lcLoop tg t e vs .free r ds acc s = .ok (acc ++ (ds.filter c).map v) s
  | [], acc, _, _ => by simp [lcLoop]
  | d :: ds, acc, h, hl => by
    obtain ⟨r1, h1, h2, h3⟩ := h d List.mem_cons_self
    have hl' : acc.length + (ds.length + 1) ≤ lim := hl
    have rest := fun acc' hl => lcLoop_map c v ds acc' (fun d hd => h d (List.mem_cons_of_mem _ hd)) hl
    unfold lcLoop
    rw [h1]
    dsimp only
    rw [h2]
    cases hc : c d with
    | true =>
      dsimp only
      rw [h3 hc]
      dsimp only
      rw [if_pos ⟨rfl, by omega⟩, rest (acc ++ [v d]) (by simp; omega)]
      simp [hc]
    | false =>
      dsimp only
      rw [if_pos (show Watch.free.ok s = true from rfl), rest acc (by omega)]
      simp [hc]
/-! ### one step -/
theorem seq_nx {a b : SM} {r r1 : Env} {s s1 : St} (h : a r s = .nx r1 s1) : sSeq a b r s = b r1 s1 := by unfold sSeq; rw [h]
theorem seq_rt {a b : SM} {r : Env} {s s1 : St} {d : D} (h : a r s = .rt d s1) : sSeq a b r s = .rt d s1 := by unfold sSeq; rw [h]
theorem seq_exc {a b : SM} {r r1 : Env} {s s1 : St} {e : Nat} (h : a r s = .exc e r1 s1) : sSeq a b r s = .exc e r1 s1 := by unfold sSeq; rw [h]
theorem if_t {t : TM} {a b : SM} {r : Env} {s s1 : St} (h : t r s = .ok true s1) : sIf t a b r s = a r s1 := by unfold sIf sBind; rw [h]; rfl
theorem if_f {t : TM} {a b : SM} {r : Env} {s s1 : St} (h : t r s = .ok false s1) : sIf t a b r s = b r s1 := by unfold sIf sBind; rw [h]; rfl
theorem set_v {i : Nat} {e : EM} {r : Env} {s s1 : St} {d : D} (h : e r s = .ok (.val d) s1) (hi : i < r.length) : sSet i e r s = .nx (r.set i (.val d)) s1 := by unfold sSet sBind; rw [h]; exact if_pos hi
theorem fn_rt {n np : Nat} {body : SM} {ds : List D} {s s1 : St} {d : D} (hl : ds.length = np) (h : body (ds.map Slot.val ++ List.replicate (n - np) Slot.no) s = .rt d s1) : fn n np body ds s = .ok d s1 := by unfold fn; rw [if_pos hl, h]
theorem fn_exc {n np : Nat} {body : SM} {ds : List D} {r : Env} {s s1 : St} {e : Nat} (hl : ds.length = np) (h : body (ds.map Slot.val ++ List.replicate (n - np) Slot.no) s = .exc e r s1) : fn n np body ds s = .exc e s1 := by unfold fn; rw [if_pos hl, h]
theorem fn_nx {n np : Nat} {body : SM} {ds : List D} {r : Env} {s s1 : St} (hl : ds.length = np) (h : body (ds.map Slot.val ++ List.replicate (n - np) Slot.no) s = .nx r s1) : fn n np body ds s = .ok .non s1 := by unfold fn; rw [if_pos hl, h]
theorem or_f {a b : TM} {r : Env} {s s1 : St} (h : a r s = .ok false s1) : Mir.tOr a b r s = b r s1 := by unfold Mir.tOr; rw [h]; rfl
theorem or_t {a b : TM} {r : Env} {s s1 : St} (h : a r s = .ok true s1) : Mir.tOr a b r s = .ok true s1 := by unfold Mir.tOr; rw [h]; rfl
theorem and_f {a b : TM} {r : Env} {s s1 : St} (h : a r s = .ok false s1) : Mir.tAnd a b r s = .ok false s1 := by unfold Mir.tAnd; rw [h]; rfl
theorem and_t {a b : TM} {r : Env} {s s1 : St} (h : a r s = .ok true s1) : Mir.tAnd a b r s = b r s1 := by unfold Mir.tAnd; rw [h]; rfl
/-- .. over f's images -/
theorem forLoop_map {α β : Type} {tg : Tg} {body : SM} (f : β → D) (R : α → Env → St → Prop) (G : α → β → α) : ∀ (l : List β) (a : α) (r : Env) (s : St), R a r s →
    (∀ a r s z, z ∈ l → R a r s → ∃ r1 r2 s2, bindT tg (f z) r = some r1 ∧ (body r1 s = .nx r2 s2 ∨ body r1 s = .ct r2 s2) ∧ R (G a z) r2 s2) →
    ∃ r2 s2, forLoop tg body .free (l.map f) r s = .nx r2 s2 ∧ R (l.foldl G a) r2 s2
  | [], a, r, s, h, _ => ⟨r, s, rfl, h⟩
  | z :: l, a, r, s, h, k => by
    obtain ⟨r1, r2, s2, h1, h2, h3⟩ := k a r s z List.mem_cons_self h
    obtain ⟨r4, s4, h4, h5⟩ := forLoop_map f R G l (G a z) r2 s2 h3 fun a r s z hz => k a r s z (List.mem_cons_of_mem _ hz)
    refine ⟨r4, s4, ?_, h5⟩
    rw [List.map_cons]
    unfold forLoop
    rw [h1]
    rcases h2 with h2 | h2
    · dsimp only
      rw [h2]
      exact (if_pos (show Watch.free.ok s2 = true from rfl)).trans h4
    · dsimp only
      rw [h2]
      exact (if_pos (show Watch.free.ok s2 = true from rfl)).trans h4
end Mir
/-! P2: k09, plain: rate_of. -/
namespace K09
open Mir
def upI (n : Nat) : Int := (List.range n).foldl (fun a _ => a * 2) 64
def dnI (n : Nat) : Int := (List.range n).foldl (fun a _ => if a / 2 > 1 then a / 2 else 1) 64
def rateI (w m : Int) : Int := (fun f => if 60 < m then f * 2 else f) (if 150 < w then upI ((w - 150 + 49) / 50).toNat else dnI ((150 - w) / 50).toNat)
theorem rangeD_len (j : Int) : rangeD 0 j = (List.range j.toNat).map fun (k : Nat) => D.int (0 + (k : Int)) := by unfold rangeD; simp
theorem foldl_map_range {α : Type} (F : α → D → α) (n : Nat) (a : α) (f : Nat → D) : ((List.range n).map f).foldl F a = (List.range n).foldl (fun a k => F a (f k)) a := by rw [List.foldl_map]
theorem small2 (i : Int) : (small64 i = true ∨ small64 2 = true) := .inr rfl
theorem foldl_rng {α : Type} (G : α → α) (n : Nat) (a : α) (f : Nat → D) : ((List.range n).map f).foldl (fun a _ => G a) a = (List.range n).foldl (fun a _ => G a) a := by rw [List.foldl_map]
theorem up_loop (w m : Int) (st : St) (n : Nat) (f : Int) (x : Slot) : ∃ x', forLoop (.nm 3) (sAug 2 oMul (eC (.int 2))) .free ((List.range n).map fun (k : Nat) => D.int (0 + (k : Int))) [.val (.int w), .val (.int m), .val (.int f), x] st = .nx [.val (.int w), .val (.int m), .val (.int ((List.range n).foldl (fun a _ => a * 2) f)), x'] st := by
  obtain ⟨r, s, h, x', rfl, rfl⟩ := forLoop_rel (tg := .nm 3) (body := sAug 2 oMul (eC (.int 2))) (fun (a : Int) r s => ∃ x, r = [.val (.int w), .val (.int m), .val (.int a), x] ∧ s = st) (fun a _ => a * 2) ((List.range n).map fun (k : Nat) => D.int (0 + (k : Int))) f _ st ⟨x, rfl, rfl⟩ (fun a r s d _ h => by
    obtain ⟨x, rfl, rfl⟩ := h
    exact ⟨_, [.val (.int w), .val (.int m), .val (.int (a * 2)), .val d], s, rfl, .inl (by simp [sAug, sBind, eC, oMul, small2]), _, rfl, rfl⟩)
  rw [foldl_rng (fun a : Int => a * 2)] at h
  exact ⟨x', h⟩
theorem dn_loop (w m : Int) (st : St) (n : Nat) (f : Int) (x : Slot) : ∃ x', forLoop (.nm 3) (sSet 2 (eOpN oMax2 (aCons (eC (.int 1)) (aCons (eOp2 oFdiv (eV 2) (eC (.int 2))) aNil)))) .free ((List.range n).map fun (k : Nat) => D.int (0 + (k : Int))) [.val (.int w), .val (.int m), .val (.int f), x] st = .nx [.val (.int w), .val (.int m), .val (.int ((List.range n).foldl (fun a _ => if a / 2 > 1 then a / 2 else 1) f)), x'] st := by
  obtain ⟨r, s, h, x', rfl, rfl⟩ := forLoop_rel (tg := .nm 3) (body := sSet 2 (eOpN oMax2 (aCons (eC (.int 1)) (aCons (eOp2 oFdiv (eV 2) (eC (.int 2))) aNil)))) (fun (a : Int) r s => ∃ x, r = [.val (.int w), .val (.int m), .val (.int a), x] ∧ s = st) (fun a _ => if a / 2 > 1 then a / 2 else 1) ((List.range n).map fun (k : Nat) => D.int (0 + (k : Int))) f _ st ⟨x, rfl, rfl⟩ (fun a r s d _ h => by
    obtain ⟨x, rfl, rfl⟩ := h
    exact ⟨_, _, _, rfl, .inl rfl, _, rfl, rfl⟩)
  rw [foldl_rng (fun a : Int => if a / 2 > 1 then a / 2 else 1)] at h
  exact ⟨x', h⟩
theorem rate_of_eq (w m : Int) (st : St) (hw : -1000 ≤ w ∧ w ≤ 1000) : f_rate_of [.int w, .int m] st = .ok (.int (rateI w m)) st := by
  have last : ∀ (f : Int) (x : Slot), sRet (eIf (tE (eOp2 oGt (eV 1) (eC (.int 60)))) (eOp2 oMul (eV 2) (eC (.int 2))) (eV 2)) [.val (.int w), .val (.int m), .val (.int f), x] st = .rt (.int (if 60 < m then f * 2 else f)) st := fun f x => by
    by_cases h : 60 < m <;> simp [sRet, sBind, eIf, tE, eOp2, eV, eC, oGt, oCmp, orBad, Out.bind, h, oMul, small2]
  refine fn_rt rfl ?_
  refine (seq_nx (set_v (d := .int 64) rfl (by show 2 < 4; omega))).trans ?_
  unfold rateI
  by_cases h : 150 < w
  · obtain ⟨x', hx⟩ := up_loop w m st ((w - 150 + 49) / 50).toNat 64 .no
    have hb : -(2 ^ 62) ≤ (w - 150 + 49) / 50 ∧ (w - 150 + 49) / 50 < 2 ^ 62 := by omega
    have hl := last (upI ((w - 150 + 49) / 50).toNat) x'
    have hx2 : sFor (Mir.iRng1 (eOp2 oFdiv (eOp2 oAdd (eOp2 oSub (eV 0) (eC (.int 150))) (eC (.int 49))) (eC (.int 50)))) (.nm 3) (sAug 2 oMul (eC (.int 2))) [.val (.int w), .val (.int m), .val (.int 64), .no] st = .nx [.val (.int w), .val (.int m), .val (.int (upI ((w - 150 + 49) / 50).toNat)), x'] st := by
      have hi : Mir.iRng1 (eOp2 oFdiv (eOp2 oAdd (eOp2 oSub (eV 0) (eC (.int 150))) (eC (.int 49))) (eC (.int 50))) [.val (.int w), .val (.int m), .val (.int 64), .no] st = .ok (rangeD 0 ((w - 150 + 49) / 50), .free) st := by
        simp only [Mir.iRng1, eOp2, eV, eC, oSub, oAdd, oFdiv, orBad, Out.bind, List.getElem?_cons_zero, Option.map_some]
        exact if_pos hb
      unfold sFor
      rw [hi, rangeD_len]
      exact hx
    have ht : tE (eOp2 oGt (eV 0) (eC (.int 150))) [.val (.int w), .val (.int m), .val (.int 64), .no] st = .ok true st := by
      simp [tE, eOp2, eV, eC, oGt, oCmp, orBad, Out.bind, h]
    rw [if_pos h]
    exact (seq_nx ((if_t ht).trans hx2)).trans hl
  · obtain ⟨x', hx⟩ := dn_loop w m st ((150 - w) / 50).toNat 64 .no
    have hb : -(2 ^ 62) ≤ (150 - w) / 50 ∧ (150 - w) / 50 < 2 ^ 62 := by omega
    have hl := last (dnI ((150 - w) / 50).toNat) x'
    have hx2 : sFor (Mir.iRng1 (eOp2 oFdiv (eOp2 oSub (eC (.int 150)) (eV 0)) (eC (.int 50)))) (.nm 3) (sSet 2 (eOpN oMax2 (aCons (eC (.int 1)) (aCons (eOp2 oFdiv (eV 2) (eC (.int 2))) aNil)))) [.val (.int w), .val (.int m), .val (.int 64), .no] st = .nx [.val (.int w), .val (.int m), .val (.int (dnI ((150 - w) / 50).toNat)), x'] st := by
      have hi : Mir.iRng1 (eOp2 oFdiv (eOp2 oSub (eC (.int 150)) (eV 0)) (eC (.int 50))) [.val (.int w), .val (.int m), .val (.int 64), .no] st = .ok (rangeD 0 ((150 - w) / 50), .free) st := by
        simp only [Mir.iRng1, eOp2, eV, eC, oSub, oAdd, oFdiv, orBad, Out.bind, List.getElem?_cons_zero, Option.map_some]
        exact if_pos hb
      unfold sFor
      rw [hi, rangeD_len]
      exact hx
    have ht : tE (eOp2 oGt (eV 0) (eC (.int 150))) [.val (.int w), .val (.int m), .val (.int 64), .no] st = .ok false st := by
      simp [tE, eOp2, eV, eC, oGt, oCmp, orBad, Out.bind, h]
    rw [if_neg h]
    exact (seq_nx ((if_f ht).trans hx2)).trans hl
def rateL (w m : Int) : Int := (if (if 150 < w then -(-(w - 150) / 50) else 0) > 0 then 64 * (1 * 2 ^ (if 150 < w then -(-(w - 150) / 50) else 0).toNat) else (if (64 : Int) / (1 * 2 ^ (if w ≤ 150 then (150 - w) / 50 else 0).toNat) > 1 then 64 / (1 * 2 ^ (if w ≤ 150 then (150 - w) / 50 else 0).toNat) else 1)) * (if 60 < m then 2 else 1)
theorem rate_same (w m : Int) (hw : -60 ≤ w ∧ w ≤ 460) : rateI w m = rateL w m := by
  have all : ((List.range 521).all fun i => decide (rateI ((i : Int) - 60) 0 = rateL ((i : Int) - 60) 0) && decide (rateI ((i : Int) - 60) 61 = rateL ((i : Int) - 60) 61)) = true := by decide +kernel
  have one := List.all_eq_true.mp all (w + 60).toNat (List.mem_range.mpr (by omega))
  have e : (((w + 60).toNat : Nat) : Int) - 60 = w := by omega
  rw [e] at one
  simp only [Bool.and_eq_true, decide_eq_true_eq] at one
  by_cases h : 60 < m
  · have := one.2
    simp only [rateI, rateL, h, if_true, show (60 : Int) < 61 by decide] at this ⊢
    exact this
  · have := one.1
    simp only [rateI, rateL, h, if_false, show ¬ (60 : Int) < 0 by decide] at this ⊢
    exact this
theorem law_rate_eq (w m : Int) (st : St) (hw : -60 ≤ w ∧ w ≤ 460) : f_law_rate [.int w, .int m] st = .ok (.int (rateL w m)) st := by
  refine fn_rt rfl ?_
  have b1 : ((-(-(w - 150) / 50)).toNat : Int) ≤ 1000 := by omega
  have b2 : (((150 - w) / 50).toNat : Int) ≤ 1000 := by omega
  have h1 : eIf (tE (eOp2 oGt (eV 0) (eC (.int 150)))) (eOp1 oNeg (eOp2 oFdiv (eOp1 oNeg (eOp2 oSub (eV 0) (eC (.int 150)))) (eC (.int 50)))) (eC (.int 0)) [.val (.int w), .val (.int m), .no, .no, .no] st = .ok (.val (.int (if 150 < w then -(-(w - 150) / 50) else 0))) st := by
    by_cases h : 150 < w <;> simp [eIf, tE, eOp2, eOp1, eV, eC, oGt, oCmp, orBad, Out.bind, h, oFdiv, oNeg, oSub]
  refine (seq_nx (set_v h1 (by show 2 < 5; omega))).trans ?_
  have bs : 0 ≤ (if 150 < w then -(-(w - 150) / 50) else 0) ∧ (if 150 < w then -(-(w - 150) / 50) else 0) ≤ 10 := by split <;> omega
  have bh : 0 ≤ (if w ≤ 150 then (150 - w) / 50 else 0) ∧ (if w ≤ 150 then (150 - w) / 50 else 0) ≤ 10 := by split <;> omega
  unfold rateL
  generalize (if 150 < w then -(-(w - 150) / 50) else 0) = sp at bs ⊢
  have h2 : eIf (tE (eOp2 oLe (eV 0) (eC (.int 150)))) (eOp2 oFdiv (eOp2 oSub (eC (.int 150)) (eV 0)) (eC (.int 50))) (eC (.int 0)) [.val (.int w), .val (.int m), .val (.int sp), .no, .no] st = .ok (.val (.int (if w ≤ 150 then (150 - w) / 50 else 0))) st := by
    by_cases h : w ≤ 150 <;> simp [eIf, tE, eOp2, eOp1, eV, eC, oLe, oCmp, orBad, Out.bind, h, oFdiv, oNeg, oSub]
  refine (seq_nx (set_v h2 (by show 3 < 5; omega))).trans ?_
  generalize (if w ≤ 150 then (150 - w) / 50 else 0) = hv at bh ⊢
  have p1 : (0:Int) < 2 ^ hv.toNat := Int.pow_pos (by omega)
  have p2 : (2:Int) ^ hv.toNat ≤ 2 ^ 10 := by
    have : hv.toNat ≤ 10 := by omega
    exact_mod_cast Nat.pow_le_pow_right (by omega) this
  have sh : ∀ (x : Int), 0 ≤ x ∧ x ≤ 10 → oShl st (.val (.int 1)) (.val (.int x)) = some (.int (1 * 2 ^ x.toNat)) := fun x hx => if_pos ⟨hx.1, by omega, by decide⟩
  have h3 : eIf (tE (eOp2 oGt (eV 2) (eC (.int 0)))) (eOp2 oMul (eC (.int 64)) (eOp2 oShl (eC (.int 1)) (eV 2))) (eOpN oMax2 (aCons (eC (.int 1)) (aCons (eOp2 oFdiv (eC (.int 64)) (eOp2 oShl (eC (.int 1)) (eV 3))) aNil))) [.val (.int w), .val (.int m), .val (.int sp), .val (.int hv), .no] st = .ok (.val (.int (if sp > 0 then 64 * (1 * 2 ^ sp.toNat) else if (64 : Int) / (1 * 2 ^ hv.toNat) > 1 then 64 / (1 * 2 ^ hv.toNat) else 1))) st := by
    by_cases h : 0 < sp
    · simp [eIf, tE, eOp2, eV, eC, oGt, oCmp, orBad, Out.bind, h, sh sp bs, oMul, show small64 64 = true from rfl]
    · have c : 0 < (1 : Int) * 2 ^ hv.toNat ∧ (1 : Int) * 2 ^ hv.toNat < 1073741824 := by omega
      have f : oFdiv st (.val (.int 64)) (.val (.int (1 * 2 ^ hv.toNat))) = some (.int (64 / (1 * 2 ^ hv.toNat))) := if_pos c
      simp only [eIf, tE, eOp2, eV, eC, oGt, oCmp, orBad, Out.bind, eOpN, aCons, aNil, List.getElem?_cons_succ, List.getElem?_cons_zero, Option.map_some, sh hv bh, f, oMax2]
      have hf : ∀ z : Int, (if sp > 0 then 64 * (1 * 2 ^ sp.toNat) else z) = z := fun z => if_neg h
      rw [hf]
      simp only [decide_eq_true_eq, h, decide_false, if_false, Bool.false_eq_true]
  refine (seq_nx (set_v h3 (by show 4 < 5; omega))).trans ?_
  generalize (if sp > 0 then 64 * (1 * 2 ^ sp.toNat) else if (64 : Int) / (1 * 2 ^ hv.toNat) > 1 then 64 / (1 * 2 ^ hv.toNat) else 1) = f
  by_cases h : 60 < m <;> simp [sRet, sBind, eIf, tE, eOp2, eV, eC, oGt, oCmp, orBad, Out.bind, h, oMul, small2, show small64 1 = true from rfl]
end K09
/-! P3: k09, plain: the air's rooms. -/
namespace K09
open Mir
/-- an Air stands at a, its dict at b, which holds ps -/
structure AirAt (st : St) (a b : Nat) (ps : List (D × D)) : Prop where
  ins : st[a]? = some (.ins 0 [.ref b])
  dct : st[b]? = some (.dct 0 ps)
theorem AirAt.fld {st : St} {a b : Nat} {ps : List (D × D)} (h : AirAt st a b ps) {r : Env} (h0 : r[0]? = some (.val (.ref a))) : eFld 0 0 (eV 0) r st = .ok (.val (.ref b)) st := by
  simp [eFld, eV, h0, Out.bind, insOf, h.ins, orBad]
theorem AirAt.dctOf {st : St} {a b : Nat} {ps : List (D × D)} (h : AirAt st a b ps) : dctOf st (.val (.ref b)) = some (0, ps) := by
  simp [Mir.dctOf, h.dct]
theorem hasD_look (ps : List (D × D)) (k : D) : hasD ps k = (lookD ps k).isSome := by
  unfold hasD lookD
  rw [Option.isSome_map]
  induction ps with
  | nil => rfl
  | cons p ps ih =>
    by_cases h : p.1 = k <;> simp [h, ih]
theorem rows_of_ok {st : St} {a b n : Nat} {ps : List (D × D)} {x : Tx} {xs : List D} (h : AirAt st a b ps) (hl : lookD ps (.str x) = some (.ref n)) (hn : st[n]? = some (.lst xs)) : f_Air_rows_of [.ref a, .str x] st = .ok (.tup xs) st := by
  refine fn_rt rfl ?_
  have hf := h.fld (r := [.val (.ref a), .val (.str x)]) rfl
  have ht : tE (eOp2 oNotIn (eV 1) (eFld 0 0 (eV 0))) [.val (.ref a), .val (.str x)] st = .ok false st := by
    simp [tE, eOp2, eV, Out.bind, orBad, oNotIn, inD, hf, h.dctOf, kOk, flatK, hasD_look, hl]
  refine (seq_nx (if_f ht)).trans ?_
  simp [sRet, sBind, eOpN, aCons, aNil, eOp2, eV, Out.bind, orBad, oGet, hf, h.dctOf, kOk, flatK, hl, oTuple, tupOf, listOf, hn]
theorem rows_of_no {st : St} {a b : Nat} {ps : List (D × D)} {x : Tx} (h : AirAt st a b ps) (hl : lookD ps (.str x) = none) : f_Air_rows_of [.ref a, .str x] st = .exc 1 st := by
  refine fn_exc (r := [.val (.ref a), .val (.str x)]) rfl ?_
  have hf := h.fld (r := [.val (.ref a), .val (.str x)]) rfl
  have ht : tE (eOp2 oNotIn (eV 1) (eFld 0 0 (eV 0))) [.val (.ref a), .val (.str x)] st = .ok true st := by
    simp [tE, eOp2, eV, Out.bind, orBad, oNotIn, inD, hf, h.dctOf, kOk, flatK, hasD_look, hl]
  exact seq_exc ((if_t ht).trans rfl)
/-! ### rows -/
abbrev Row := Int × Int × Int
def rowD (x : Row) : D := .tup [.int x.1, .int x.2.1, .int x.2.2]
theorem shap_row (k : Nat) (x : Row) : shap (k + 2) (rowD x) = true := by simp [rowD, shap, shapL, lim]
theorem shap_rows (k : Nat) : ∀ l : List Row, shapL (k + 2) (l.map rowD) = true
  | [] => rfl
  | x :: l => by simp [shapL, shap_row, shap_rows k l]
theorem ne_nil {st : St} {x : Opd} {l : List Row} (hx : look st x = some (.lst (l.map rowD))) (hl : l.length ≤ lim) : oNe st x (.val (.lst [])) = some (.bl (!l.isEmpty)) := by
  have h0 : look st (.val (.lst [])) = some (.lst []) := rfl
  have h1 : shap 20 (.lst (l.map rowD)) = true := by simp [shap, shap_rows, hl]
  have h2 : shap 20 (.lst []) = true := by decide
  unfold oNe eqD
  rw [hx, h0]
  simp only [scalD, Bool.false_eq_true, if_false, h1, h2, and_self, if_true]
  cases l <;> simp [eqv, eqvL]
theorem last_row {l : List Row} {x : Row} (h : l.getLast? = some x) : atD (l.map rowD) (-1) = some (rowD x) := by
  have hl : 0 < l.length := by cases l <;> simp_all
  unfold atD ixD
  have : ¬ (0 : Int) ≤ -1 := by omega
  simp only [this, if_false, List.length_map]
  have h2 : (0 : Int) ≤ (l.length : Int) + -1 := by omega
  have h3 : ((l.length : Int) + -1).toNat = l.length - 1 := by omega
  simp only [h2, if_true, h3, Option.bind_some, List.getElem?_map]
  rw [List.getLast?_eq_getElem?] at h
  rw [h]
  rfl
/-- a reading that is taken behind rows -/
def goodR (rows : List Row) (x : Row) : Bool := (match rows.getLast? with | none => true | some y => decide (y.1 < x.1)) && (decide (0 ≤ x.2.2 ∧ x.2.2 ≤ 100) && decide (-400 ≤ x.2.1 ∧ x.2.1 ≤ 600))
theorem read_test {st : St} {a b : Nat} {x : Tx} {o : D} {l : List Row} {y : Row} (hx : look st (.val o) = some (.lst (l.map rowD))) (hq : seqOf st (.val o) = some (l.map rowD)) (hd : dctOf st (.val o) = none) (hs : ∀ z, o ≠ .str z) (hl : l.length ≤ lim) :
    Mir.tOr (Mir.tAnd (tE (eOp2 oNe (eV 5) (eFrz (nLst aNil)))) (tE (eOp2 oLe (eV 2) (eOp2 oGet (eOp2 oGet (eV 5) (eOp1 oNeg (eC (.int 1)))) (eC (.int 0)))))) (Mir.tOr (Mir.tNot (tE (eChain oLe oLe (eC (.int 0)) (eV 4) (eC (.int 100))))) (Mir.tNot (tE (eChain oLe oLe (eOp2 oSub (eC (.int 0)) (eC (.int 400))) (eV 3) (eC (.int 600))))))
      [.val (.ref a), .val (.str x), .val (.int y.1), .val (.int y.2.1), .val (.int y.2.2), .val o] st = .ok (!goodR l y) st := by
  have hA : tE (eOp2 oNe (eV 5) (eFrz (nLst aNil))) [.val (.ref a), .val (.str x), .val (.int y.1), .val (.int y.2.1), .val (.int y.2.2), .val o] st = .ok (!l.isEmpty) st := by
    simp [tE, eOp2, eV, eFrz, nLst, aNil, Out.bind, valsOf, orBad, Cell.frz, ne_nil hx hl]
  have hC : Mir.tOr (Mir.tNot (tE (eChain oLe oLe (eC (.int 0)) (eV 4) (eC (.int 100))))) (Mir.tNot (tE (eChain oLe oLe (eOp2 oSub (eC (.int 0)) (eC (.int 400))) (eV 3) (eC (.int 600))))) [.val (.ref a), .val (.str x), .val (.int y.1), .val (.int y.2.1), .val (.int y.2.2), .val o] st = .ok (!(decide (0 ≤ y.2.2 ∧ y.2.2 ≤ 100) && decide (-400 ≤ y.2.1 ∧ y.2.1 ≤ 600))) st := by
    by_cases h1 : 0 ≤ y.2.2 <;> by_cases h2 : y.2.2 ≤ 100 <;> by_cases h3 : -400 ≤ y.2.1 <;> by_cases h4 : y.2.1 ≤ 600 <;>
      simp [Mir.tOr, Mir.tNot, tE, eChain, eOp2, eV, eC, oLe, oCmp, oSub, orBad, Out.bind, h1, h2, h3, h4]
  cases hg : l.getLast? with
  | none =>
    have hl0 : l = [] := List.getLast?_eq_none_iff.mp hg
    subst hl0
    refine (or_f (and_f hA)).trans (hC.trans ?_)
    simp [goodR]
  | some z =>
    have hne : l.isEmpty = false := by cases l <;> simp_all
    have hix : oGet st (.val o) (.val (.int (-1))) = some (rowD z) := by
      unfold oGet
      rw [hd]
      unfold oIx
      cases o <;> simp_all [last_row hg]
    have hB : tE (eOp2 oLe (eV 2) (eOp2 oGet (eOp2 oGet (eV 5) (eOp1 oNeg (eC (.int 1)))) (eC (.int 0)))) [.val (.ref a), .val (.str x), .val (.int y.1), .val (.int y.2.1), .val (.int y.2.2), .val o] st = .ok (decide (y.1 ≤ z.1)) st := by
      have h0 : oGet st (.val (rowD z)) (.val (.int 0)) = some (.int z.1) := by simp [oGet, dctOf, rowD, oIx, seqOf, atD, ixD]
      simp [tE, eOp2, eOp1, eV, eC, oNeg, orBad, Out.bind, hix, h0, oLe, oCmp]
    rw [hne] at hA
    by_cases c : y.1 ≤ z.1
    · refine (or_t ((and_t hA).trans (hB.trans (by rw [decide_eq_true c])))).trans ?_
      simp [goodR, hg, Int.not_lt.mpr c]
    · refine (or_f ((and_t hA).trans (hB.trans (by rw [decide_eq_false c])))).trans (hC.trans ?_)
      simp [goodR, hg, Int.not_le.mp c]
theorem read_no {st : St} {a b : Nat} {ps : List (D × D)} {x : Tx} {l : List Row} {y : Row} (h : AirAt st a b ps) (hr : (lookD ps (.str x) = none ∧ l = []) ∨ ∃ n, lookD ps (.str x) = some (.ref n) ∧ st[n]? = some (.lst (l.map rowD))) (hl : l.length ≤ lim) (hg : goodR l y = false) : f_Air_read [.ref a, .str x, .int y.1, .int y.2.1, .int y.2.2] st = .exc 1 st := by
  obtain ⟨o, h1, h2, h3, h4, h5⟩ : ∃ o, (lookD ps (.str x)).getD (.lst []) = o ∧ look st (.val o) = some (.lst (l.map rowD)) ∧ seqOf st (.val o) = some (l.map rowD) ∧ dctOf st (.val o) = none ∧ ∀ z, o ≠ .str z := by
    rcases hr with ⟨e, rfl⟩ | ⟨n, e, f⟩
    · exact ⟨.lst [], by rw [e]; rfl, rfl, rfl, rfl, fun z q => by cases q⟩
    · exact ⟨.ref n, by rw [e]; rfl, by simp [look, f], by simp [seqOf, listOf, f], by simp [dctOf, f], fun z q => by cases q⟩
  have hget : eGet2 (eFld 0 0 (eV 0)) (eV 1) (eFrz (nLst aNil)) [.val (.ref a), .val (.str x), .val (.int y.1), .val (.int y.2.1), .val (.int y.2.2), .no] st = .ok (.val o) st := by
    simp [eGet2, h.fld (r := [.val (.ref a), .val (.str x), .val (.int y.1), .val (.int y.2.1), .val (.int y.2.2), .no]) rfl, Out.bind, h.dctOf, eV, eFrz, nLst, aNil, valsOf, orBad, Cell.frz, getK, kOk, flatK, h1]
  refine fn_exc (r := [.val (.ref a), .val (.str x), .val (.int y.1), .val (.int y.2.1), .val (.int y.2.2), .val o]) rfl ?_
  refine (seq_nx (set_v hget (by show 5 < 6; omega))).trans ?_
  have ht := read_test (a := a) (b := b) (x := x) (y := y) h2 h3 h4 h5 hl
  rw [hg] at ht
  exact seq_exc ((if_t ht).trans rfl)
/-- a reading is taken: the rooms behind it -/
def readSt (st : St) (b : Nat) (ps : List (D × D)) (x : Tx) (y : Row) : St := match lookD ps (.str x) with
  | some (.ref n) => (match st[n]? with
    | some (.lst xs) => st.set n (.lst (xs ++ [rowD y]))
    | _ => st)
  | _ => (st.set b (.dct 0 (putD ps (.str x) (.ref st.length)))) ++ [.lst [rowD y]]
theorem read_ok {st : St} {a b : Nat} {ps : List (D × D)} {x : Tx} {l : List Row} {y : Row} (h : AirAt st a b ps) (hr : (lookD ps (.str x) = none ∧ l = []) ∨ ∃ n, lookD ps (.str x) = some (.ref n) ∧ st[n]? = some (.lst (l.map rowD))) (hl : l.length < 5000) (hp : ps.length < lim) (hg : goodR l y = true) : f_Air_read [.ref a, .str x, .int y.1, .int y.2.1, .int y.2.2] st = .ok .non (readSt st b ps x y) := by
  obtain ⟨o, h1, h2, h3, h4, h5⟩ : ∃ o, (lookD ps (.str x)).getD (.lst []) = o ∧ look st (.val o) = some (.lst (l.map rowD)) ∧ seqOf st (.val o) = some (l.map rowD) ∧ dctOf st (.val o) = none ∧ ∀ z, o ≠ .str z := by
    rcases hr with ⟨e, rfl⟩ | ⟨n, e, f⟩
    · exact ⟨.lst [], by rw [e]; rfl, rfl, rfl, rfl, fun z q => by cases q⟩
    · exact ⟨.ref n, by rw [e]; rfl, by simp [look, f], by simp [seqOf, listOf, f], by simp [dctOf, f], fun z q => by cases q⟩
  have hget : eGet2 (eFld 0 0 (eV 0)) (eV 1) (eFrz (nLst aNil)) [.val (.ref a), .val (.str x), .val (.int y.1), .val (.int y.2.1), .val (.int y.2.2), .no] st = .ok (.val o) st := by
    simp [eGet2, h.fld (r := [.val (.ref a), .val (.str x), .val (.int y.1), .val (.int y.2.1), .val (.int y.2.2), .no]) rfl, Out.bind, h.dctOf, eV, eFrz, nLst, aNil, valsOf, orBad, Cell.frz, getK, kOk, flatK, h1]
  have hll : l.length ≤ lim := by unfold lim; omega
  have ht := read_test (a := a) (b := b) (x := x) (y := y) h2 h3 h4 h5 hll
  rw [hg] at ht
  have hlen : tE (eOp2 oGe (eOpN oLen (aCons (eV 5) aNil)) (eC (.int 5000))) [.val (.ref a), .val (.str x), .val (.int y.1), .val (.int y.2.1), .val (.int y.2.2), .val o] st = .ok false st := by
    have : oLen st [.val o] = some (.int (l.length : Int)) := by
      unfold oLen
      cases o <;> simp_all
    simp [tE, eOp2, eOpN, aCons, aNil, eV, eC, Out.bind, orBad, this, oGe, oCmp]
    omega
  have app : sAppC (eSetDN (eFld 0 0 (eV 0)) (eV 1) (nLst aNil)) (eTup (aCons (eV 2) (aCons (eV 3) (aCons (eV 4) aNil)))) [.val (.ref a), .val (.str x), .val (.int y.1), .val (.int y.2.1), .val (.int y.2.2), .val o] st = .nx [.val (.ref a), .val (.str x), .val (.int y.1), .val (.int y.2.1), .val (.int y.2.2), .val o] (readSt st b ps x y) := by
    have hf := h.fld (r := [.val (.ref a), .val (.str x), .val (.int y.1), .val (.int y.2.1), .val (.int y.2.2), .val o]) rfl
    have hb : b < st.length := (List.getElem?_eq_some_iff.mp h.dct).1
    have tup : ∀ s : St, eTup (aCons (eV 2) (aCons (eV 3) (aCons (eV 4) aNil))) [.val (.ref a), .val (.str x), .val (.int y.1), .val (.int y.2.1), .val (.int y.2.2), .val o] s = .ok (.val (rowD y)) s := fun s => by
      simp [eTup, aCons, aNil, eV, Out.bind, valsOf, lim, rowD]
    rcases hr with ⟨e, rfl⟩ | ⟨n, e, f⟩
    · have hs : eSetDN (eFld 0 0 (eV 0)) (eV 1) (nLst aNil) [.val (.ref a), .val (.str x), .val (.int y.1), .val (.int y.2.1), .val (.int y.2.2), .val o] st = .ok (.val (.ref st.length)) ((st.set b (.dct 0 (putD ps (.str x) (.ref st.length)))) ++ [.lst []]) := by
        simp [eSetDN, hf, Out.bind, h.dctOf, eV, nLst, aNil, valsOf, lim, setDN, h.dct, flatK, e]
        simp [lim] at hp
        simp [hp, List.set_append, hb]
      have hn : ((st.set b (.dct 0 (putD ps (.str x) (.ref st.length)))) ++ [Cell.lst []])[st.length]? = some (.lst []) := by
        rw [List.getElem?_append_right (by simp)]
        simp
      unfold sAppC sBind
      rw [hs]
      simp only [hn, tup]
      simp [lim, readSt, e, List.set_append]
    · have hs : eSetDN (eFld 0 0 (eV 0)) (eV 1) (nLst aNil) [.val (.ref a), .val (.str x), .val (.int y.1), .val (.int y.2.1), .val (.int y.2.2), .val o] st = .ok (.val (.ref n)) st := by
        simp [eSetDN, hf, Out.bind, h.dctOf, eV, nLst, aNil, valsOf, lim, setDN, h.dct, flatK, e]
        simp [lim] at hp
        exact hp
      unfold sAppC sBind
      rw [hs]
      simp only [f, tup]
      have : l.length < lim := by unfold lim; omega
      simp [readSt, e, f, this]
  exact fn_nx rfl ((seq_nx (set_v hget (by show 5 < 6; omega))).trans ((seq_nx ((if_f ht).trans rfl)).trans ((seq_nx ((if_f hlen).trans rfl)).trans app)))
end K09
/-! P4: k09, plain: wear. -/
namespace K09
open Mir
theorem cut1 {α : Type} (l : List α) : cutD l (some 1) none = l.drop 1 := by
  unfold cutD sIxD
  cases l with
  | nil => rfl
  | cons a l =>
    have : ¬ (1 : Int) < 0 := by omega
    simp only [this, if_false]
    show List.take _ (List.drop (min 1 (l.length + 1)) (a :: l)) = l
    rw [show min 1 (l.length + 1) = 1 by omega]
    simp
theorem zip_rows (l k : List Row) : zipD (l.map rowD) (k.map rowD) = (l.zip k).map fun p => .tup [rowD p.1, rowD p.2] := by
  induction l generalizing k with
  | nil => cases k <;> rfl
  | cons a l ih => cases k with
    | nil => rfl
    | cons b k => simp [zipD, ih]
def wearI (l : List Row) : Int := (l.zip (l.drop 1)).foldl (fun a p => a + (p.2.1 - p.1.1) * rateI p.1.2.1 p.1.2.2) 0
def InR (x : Row) : Prop := -60 ≤ x.2.1 ∧ x.2.1 ≤ 460
theorem rate_small (w m : Int) (hw : -60 ≤ w ∧ w ≤ 460) : small64 (rateI w m) = true := by
  have all : ((List.range 521).all fun i => small64 (rateI ((i : Int) - 60) 0) && small64 (rateI ((i : Int) - 60) 61)) = true := by decide +kernel
  have one := List.all_eq_true.mp all (w + 60).toNat (List.mem_range.mpr (by omega))
  have e : (((w + 60).toNat : Nat) : Int) - 60 = w := by omega
  rw [e] at one
  simp only [Bool.and_eq_true] at one
  by_cases h : 60 < m
  · have := one.2
    simp only [rateI, h, if_true, show (60 : Int) < 61 by decide] at this ⊢
    exact this
  · have := one.1
    simp only [rateI, h, if_false, show ¬ (60 : Int) < 0 by decide] at this ⊢
    exact this
theorem zip_mem {x y : Row} {l : List Row} (h : (x, y) ∈ l.zip (l.drop 1)) : x ∈ l ∧ y ∈ l := ⟨(List.of_mem_zip h).1, List.mem_of_mem_drop (List.of_mem_zip h).2⟩
theorem get_row (st : St) (y : Row) : oGet st (.val (rowD y)) (.val (.int 0)) = some (.int y.1) ∧ oGet st (.val (rowD y)) (.val (.int 1)) = some (.int y.2.1) ∧ oGet st (.val (rowD y)) (.val (.int 2)) = some (.int y.2.2) := by
  refine ⟨?_, ?_, ?_⟩ <;> simp [oGet, dctOf, rowD, oIx, seqOf, atD, ixD]
theorem wear_ok {st : St} {a b : Nat} {ps : List (D × D)} {x : Tx} {l : List Row} (h : AirAt st a b ps) (hrow : f_Air_rows_of [.ref a, .str x] st = .ok (.tup (l.map rowD)) st) (hin : ∀ y ∈ l, InR y) : f_Air_wear [.ref a, .str x] st = .ok (.int (wearI l)) st := by
  refine fn_rt rfl ?_
  have h1 : sPar 2 3 (.v (eMeth 0 f_Air_rows_of (eV 0) (aCons (eV 1) aNil))) (.v (eC (.int 0))) [.val (.ref a), .val (.str x), .no, .no, .no, .no] st = .nx [.val (.ref a), .val (.str x), .val (.tup (l.map rowD)), .val (.int 0), .no, .no] st := by
    simp [sPar, Src.run, eMeth, eV, eC, aCons, aNil, Out.bind, insOf, h.ins, valsOf, hrow, sBind]
  refine (seq_nx h1).trans ?_
  obtain ⟨r2, s2, h2, ⟨u, v, hr⟩, es⟩ := forLoop_map (tg := .tp [.nm 4, .nm 5]) (body := sAug 3 oAdd (eOp2 oMul (eOp2 oSub (eOp2 oGet (eV 5) (eC (.int 0))) (eOp2 oGet (eV 4) (eC (.int 0)))) (eCall f_rate_of (aCons (eOp2 oGet (eV 4) (eC (.int 1))) (aCons (eOp2 oGet (eV 4) (eC (.int 2))) aNil)))))
    (fun p : Row × Row => D.tup [rowD p.1, rowD p.2]) (fun (z : Int) r s => (∃ u v, r = [.val (.ref a), .val (.str x), .val (.tup (l.map rowD)), .val (.int z), u, v]) ∧ s = st) (fun a p => a + (p.2.1 - p.1.1) * rateI p.1.2.1 p.1.2.2) (l.zip (l.drop 1)) 0 [.val (.ref a), .val (.str x), .val (.tup (l.map rowD)), .val (.int 0), .no, .no] st ⟨⟨_, _, rfl⟩, rfl⟩ (fun z r s p hp hR => by
      obtain ⟨⟨u, v, rfl⟩, rfl⟩ := hR
      have hi := hin _ (zip_mem hp).1
      refine ⟨[.val (.ref a), .val (.str x), .val (.tup (l.map rowD)), .val (.int z), .val (rowD p.1), .val (rowD p.2)], [.val (.ref a), .val (.str x), .val (.tup (l.map rowD)), .val (.int (z + (p.2.1 - p.1.1) * rateI p.1.2.1 p.1.2.2)), .val (rowD p.1), .val (rowD p.2)], s, rfl, .inl ?_, ⟨_, _, rfl⟩, rfl⟩
      obtain ⟨g0, g1, g2⟩ := get_row s p.1
      obtain ⟨k0, _, _⟩ := get_row s p.2
      have hrate := rate_of_eq p.1.2.1 p.1.2.2 s (by unfold InR at hi; omega)
      simp [sAug, sBind, eOp2, eCall, aCons, aNil, eV, eC, Out.bind, orBad, valsOf, g0, g1, g2, k0, oSub, oMul, oAdd, hrate, rate_small _ p.1.2.2 hi])
  have hz : Mir.iZip (eV 2) (eSl (eV 2) (oSome (eC (.int 1))) oNo) [.val (.ref a), .val (.str x), .val (.tup (l.map rowD)), .val (.int 0), .no, .no] st = .ok ((l.zip (l.drop 1)).map fun p => D.tup [rowD p.1, rowD p.2], .free) st := by
    have e : cutD (l.map rowD) (some 1) none = (l.drop 1).map rowD := (cut1 _).trans List.map_drop.symm
    have z := zip_rows l (l.drop 1)
    simp only [Mir.iZip, eSl, eV, eC, oSome, oNo, Out.bind, orBad, cutE, e, z, List.getElem?_cons_succ, List.getElem?_cons_zero, Option.map_some]
  rw [es] at h2
  have hfor : sFor (Mir.iZip (eV 2) (eSl (eV 2) (oSome (eC (.int 1))) oNo)) (.tp [.nm 4, .nm 5]) (sAug 3 oAdd (eOp2 oMul (eOp2 oSub (eOp2 oGet (eV 5) (eC (.int 0))) (eOp2 oGet (eV 4) (eC (.int 0)))) (eCall f_rate_of (aCons (eOp2 oGet (eV 4) (eC (.int 1))) (aCons (eOp2 oGet (eV 4) (eC (.int 2))) aNil))))) [.val (.ref a), .val (.str x), .val (.tup (l.map rowD)), .val (.int 0), .no, .no] st = .nx r2 st := by
    unfold sFor sBind
    rw [hz]
    exact h2
  subst hr
  exact (seq_nx hfor).trans (by simp [sRet, sBind, eV, wearI])
end K09
/-! P0: rules by which simp runs a mirror. -/
namespace Mir
def slotO (o : Option Slot) (s : St) : Out Opd := match o with
  | some (.val d) => .ok (.val d) s
  | some (.own c) => .ok (.bor c) s
  | _ => .bad
@[simp] theorem slotO_val (d : D) (s : St) : slotO (some (.val d)) s = .ok (.val d) s := rfl
@[simp] theorem slotO_own (c : Cell) (s : St) : slotO (some (.own c)) s = .ok (.bor c) s := rfl
@[simp] theorem eC_ap (d : D) (r : Env) (s : St) : eC d r s = .ok (.val d) s := rfl
@[simp] theorem eV_ap (i : Nat) (r : Env) (s : St) : eV i r s = slotO r[i]? s := by unfold eV slotO; rfl
@[simp] theorem bindok {α β : Type} (a : α) (s : St) (k : α → St → Out β) : (Out.ok a s).bind k = k a s := by simp only [Out.bind]
@[simp] theorem bindexc {α β : Type} (e : Nat) (s : St) (k : α → St → Out β) : (Out.exc e s).bind k = .exc e s := rfl
@[simp] theorem bindbad {α β : Type} (k : α → St → Out β) : (Out.bad : Out α).bind k = .bad := rfl
@[simp] theorem orBad_some {α : Type} (a : α) (s : St) : orBad s (some a) = .ok a s := rfl
@[simp] theorem orBad_none {α : Type} (s : St) : orBad s (none : Option α) = .bad := rfl
def op1K (f : Op1) (x : Opd) (s1 : St) : Out Opd := orBad s1 ((f s1 x).map Opd.val)
@[simp] theorem op1K_ap (f : Op1) (x : Opd) (s1 : St) : op1K f x s1 = orBad s1 ((f s1 x).map Opd.val) := by simp only [op1K]
def op2B (f : Op2) (x : Opd) (y : Opd) (s2 : St) : Out Opd := orBad s2 ((f s2 x y).map Opd.val)
@[simp] theorem op2B_ap (f : Op2) (x : Opd) (y : Opd) (s2 : St) : op2B f x y s2 = orBad s2 ((f s2 x y).map Opd.val) := by simp only [op2B]
def op2A (f : Op2) (b : EM) (r : Env) (x : Opd) (s1 : St) : Out Opd := (b r s1).bind (op2B f x)
@[simp] theorem op2A_ap (f : Op2) (b : EM) (r : Env) (x : Opd) (s1 : St) : op2A f b r x s1 = (b r s1).bind (op2B f x) := by simp only [op2A]
def acB (x : Opd) (xs : List Opd) (s2 : St) : Out (List Opd) := .ok (x :: xs) s2
@[simp] theorem acB_ap (x : Opd) (xs : List Opd) (s2 : St) : acB x xs s2 = .ok (x :: xs) s2 := by simp only [acB]
def acA (as : AM) (r : Env) (x : Opd) (s1 : St) : Out (List Opd) := (as r s1).bind (acB x)
@[simp] theorem acA_ap (as : AM) (r : Env) (x : Opd) (s1 : St) : acA as r x s1 = (as r s1).bind (acB x) := by simp only [acA]
def opnK (f : OpN) (xs : List Opd) (s1 : St) : Out Opd := orBad s1 ((f s1 xs).map Opd.val)
@[simp] theorem opnK_ap (f : OpN) (xs : List Opd) (s1 : St) : opnK f xs s1 = orBad s1 ((f s1 xs).map Opd.val) := by simp only [opnK]
def eifK (a b : EM) (r : Env) (c : Bool) (s1 : St) : Out Opd := if c = true then a r s1 else b r s1
@[simp] theorem eifK_ap (a b : EM) (r : Env) (c : Bool) (s1 : St) : eifK a b r c s1 = if c = true then a r s1 else b r s1 := by simp only [eifK]
def valK (d : D) (s2 : St) : Out Opd := .ok (.val d) s2
@[simp] theorem valK_ap (d : D) (s2 : St) : valK d s2 = .ok (.val d) s2 := by simp only [valK]
def frK (c : Cell) (s1 : St) : Out Opd := orBad s1 (c.frz.map Opd.val)
@[simp] theorem frK_ap (c : Cell) (s1 : St) : frK c s1 = orBad s1 (c.frz.map Opd.val) := by simp only [frK]
def nwK (c : Cell) (s1 : St) : Out Opd := .ok (.val (.ref s1.length)) (s1 ++ [c])
@[simp] theorem nwK_ap (c : Cell) (s1 : St) : nwK c s1 = .ok (.val (.ref s1.length)) (s1 ++ [c]) := by simp only [nwK]
def truK (x : Opd) (s1 : St) : Out Bool := orBad s1 (truth s1 x)
@[simp] theorem truK_ap (x : Opd) (s1 : St) : truK x s1 = orBad s1 (truth s1 x) := by simp only [truK]
def taK (b : TM) (r : Env) (x : Bool) (s1 : St) : Out Bool := if x = true then b r s1 else .ok false s1
@[simp] theorem taK_ap (b : TM) (r : Env) (x : Bool) (s1 : St) : taK b r x s1 = if x = true then b r s1 else .ok false s1 := by simp only [taK]
def toK (b : TM) (r : Env) (x : Bool) (s1 : St) : Out Bool := if x = true then .ok true s1 else b r s1
@[simp] theorem toK_ap (b : TM) (r : Env) (x : Bool) (s1 : St) : toK b r x s1 = if x = true then .ok true s1 else b r s1 := by simp only [toK]
def tnK (x : Bool) (s1 : St) : Out Bool := .ok (!x) s1
@[simp] theorem tnK_ap (x : Bool) (s1 : St) : tnK x s1 = .ok (!x) s1 := by simp only [tnK]
def ieK (x : Opd) (s1 : St) : Out (List D × Watch) := orBad s1 (itemsOf s1 x)
@[simp] theorem ieK_ap (x : Opd) (s1 : St) : ieK x s1 = orBad s1 (itemsOf s1 x) := by simp only [ieK]
def ienK (x : Opd) (s1 : St) : Out (List D × Watch) := orBad s1 (enumOf s1 x)
@[simp] theorem ienK_ap (x : Opd) (s1 : St) : ienK x s1 = orBad s1 (enumOf s1 x) := by simp only [ienK]
def no1K (f : St → Opd → Option Cell) (x : Opd) (s1 : St) : Out Cell := orBad s1 (f s1 x)
@[simp] theorem no1K_ap (f : St → Opd → Option Cell) (x : Opd) (s1 : St) : no1K f x s1 = orBad s1 (f s1 x) := by simp only [no1K]
def no2B (f : St → Opd → Opd → Option Cell) (x : Opd) (y : Opd) (s2 : St) : Out Cell := orBad s2 (f s2 x y)
@[simp] theorem no2B_ap (f : St → Opd → Opd → Option Cell) (x : Opd) (y : Opd) (s2 : St) : no2B f x y s2 = orBad s2 (f s2 x y) := by simp only [no2B]
def no2A (f : St → Opd → Opd → Option Cell) (b : EM) (r : Env) (x : Opd) (s1 : St) : Out Cell := (b r s1).bind (no2B f x)
@[simp] theorem no2A_ap (f : St → Opd → Opd → Option Cell) (b : EM) (r : Env) (x : Opd) (s1 : St) : no2A f b r x s1 = (b r s1).bind (no2B f x) := by simp only [no2A]
def nonK (f : NpN) (xs : List Opd) (s1 : St) : Out Cell := orBad s1 (f s1 xs)
@[simp] theorem nonK_ap (f : NpN) (xs : List Opd) (s1 : St) : nonK f xs s1 = orBad s1 (f s1 xs) := by simp only [nonK]
@[simp] theorem eOp1_ap (f : Op1) (a : EM) (r : Env) (s : St) : eOp1 f a r s = (a r s).bind (op1K f) := rfl
@[simp] theorem eOp2_ap (f : Op2) (a b : EM) (r : Env) (s : St) : eOp2 f a b r s = (a r s).bind (op2A f b r) := rfl
def chainK (f g : Op2) (c : EM) (r : Env) (x y : Opd) (s2 : St) (o : Option D) : Out Opd := match o with
  | some (.bl true) => (c r s2).bind (op2B g y)
  | some (.bl false) => .ok (.val (.bl false)) s2
  | _ => .bad
def chB (f g : Op2) (c : EM) (r : Env) (x : Opd) (y : Opd) (s2 : St) : Out Opd := chainK f g c r x y s2 (f s2 x y)
@[simp] theorem chB_ap (f g : Op2) (c : EM) (r : Env) (x : Opd) (y : Opd) (s2 : St) : chB f g c r x y s2 = chainK f g c r x y s2 (f s2 x y) := by simp only [chB]
def chA (f g : Op2) (b c : EM) (r : Env) (x : Opd) (s1 : St) : Out Opd := (b r s1).bind (chB f g c r x)
@[simp] theorem chA_ap (f g : Op2) (b c : EM) (r : Env) (x : Opd) (s1 : St) : chA f g b c r x s1 = (b r s1).bind (chB f g c r x) := by simp only [chA]
@[simp] theorem eChain_ap (f g : Op2) (a b c : EM) (r : Env) (s : St) : eChain f g a b c r s = (a r s).bind (chA f g b c r) := rfl
/-- both tests are of ints that are at hand -/
@[simp] theorem aNil_ap (r : Env) (s : St) : aNil r s = .ok [] s := rfl
@[simp] theorem aCons_ap (a : EM) (as : AM) (r : Env) (s : St) : aCons a as r s = (a r s).bind (acA as r) := rfl
@[simp] theorem eOpN_ap (f : OpN) (as : AM) (r : Env) (s : St) : eOpN f as r s = (as r s).bind (opnK f) := rfl
def andK (b : EM) (r : Env) (x : Opd) (s1 : St) : Out Opd := match x with
  | .val (.bl true) => b r s1
  | .val (.bl false) => .ok (.val (.bl false)) s1
  | _ => .bad
def orK (b : EM) (r : Env) (x : Opd) (s1 : St) : Out Opd := match x with
  | .val (.bl true) => .ok (.val (.bl true)) s1
  | .val (.bl false) => b r s1
  | _ => .bad
def notK (x : Opd) (s1 : St) : Out Opd := match x with
  | .val (.bl b) => .ok (.val (.bl (!b))) s1
  | _ => .bad
@[simp] theorem eAnd_ap (a b : EM) (r : Env) (s : St) : eAnd a b r s = (a r s).bind (andK b r) := rfl
@[simp] theorem eOr_ap (a b : EM) (r : Env) (s : St) : eOr a b r s = (a r s).bind (orK b r) := rfl
@[simp] theorem eNot_ap (a : EM) (r : Env) (s : St) : eNot a r s = (a r s).bind notK := rfl
@[simp] theorem andK_t (b : EM) (r : Env) (s : St) : andK b r (.val (.bl true)) s = b r s := rfl
@[simp] theorem andK_f (b : EM) (r : Env) (s : St) : andK b r (.val (.bl false)) s = .ok (.val (.bl false)) s := rfl
@[simp] theorem orK_t (b : EM) (r : Env) (s : St) : orK b r (.val (.bl true)) s = .ok (.val (.bl true)) s := rfl
@[simp] theorem orK_f (b : EM) (r : Env) (s : St) : orK b r (.val (.bl false)) s = b r s := rfl
@[simp] theorem notK_b (b : Bool) (s : St) : notK (.val (.bl b)) s = .ok (.val (.bl (!b))) s := rfl
theorem andK_sym (b : EM) (r : Env) (c : Bool) (s : St) : andK b r (.val (.bl c)) s = if c = true then b r s else .ok (.val (.bl false)) s := by cases c <;> rfl
theorem orK_sym (b : EM) (r : Env) (c : Bool) (s : St) : orK b r (.val (.bl c)) s = if c = true then .ok (.val (.bl true)) s else b r s := by cases c <;> rfl
/-- a value that both ways have -/
theorem andK_val (b : EM) (r : Env) (c : Bool) (d : Bool) (s : St) (h : c = true → b r s = .ok (.val (.bl d)) s) : andK b r (.val (.bl c)) s = .ok (.val (.bl (c && d))) s := by cases c <;> simp_all
theorem orK_val (b : EM) (r : Env) (c : Bool) (d : Bool) (s : St) (h : c = false → b r s = .ok (.val (.bl d)) s) : orK b r (.val (.bl c)) s = .ok (.val (.bl (c || d))) s := by cases c <;> simp_all
@[simp] theorem eIf_ap (t : TM) (a b : EM) (r : Env) (s : St) : eIf t a b r s = (t r s).bind (eifK a b r) := rfl
@[simp] theorem valsOf_nil : valsOf [] = some [] := rfl
@[simp] theorem valsOf_cons (d : D) (xs : List Opd) : valsOf (.val d :: xs) = (valsOf xs).map (d :: ·) := rfl
def tupK (s1 : St) (o : Option (List D)) : Out Opd := match o with
  | some ds => if ds.length ≤ lim then .ok (.val (.tup ds)) s1 else .bad
  | none => .bad
@[simp] theorem tupK_some (s : St) (ds : List D) : tupK s (some ds) = if ds.length ≤ lim then .ok (.val (.tup ds)) s else .bad := rfl
def etK (xs : List Opd) (s1 : St) : Out Opd := tupK s1 (valsOf xs)
@[simp] theorem etK_ap (xs : List Opd) (s1 : St) : etK xs s1 = tupK s1 (valsOf xs) := by simp only [etK]
@[simp] theorem eTup_ap (as : AM) (r : Env) (s : St) : eTup as r s = (as r s).bind etK := rfl
def callK (f : FM) (s1 : St) (o : Option (List D)) : Out Opd := match o with
  | some ds => (f ds s1).bind fun d s2 => .ok (.val d) s2
  | none => .bad
@[simp] theorem callK_some (f : FM) (s : St) (ds : List D) : callK f s (some ds) = (f ds s).bind valK := rfl
def ecK (f : FM) (xs : List Opd) (s1 : St) : Out Opd := callK f s1 (valsOf xs)
@[simp] theorem ecK_ap (f : FM) (xs : List Opd) (s1 : St) : ecK f xs s1 = callK f s1 (valsOf xs) := by simp only [ecK]
@[simp] theorem eCall_ap (f : FM) (as : AM) (r : Env) (s : St) : eCall f as r s = (as r s).bind (ecK f) := rfl
def methK (c : Nat) (f : FM) (as : AM) (r : Env) (s1 : St) (x : Opd) (o : Option (Nat × List D)) : Out Opd := match x, o with
  | .val d, some (c', _) => if c' = c then (as r s1).bind fun xs s2 => match valsOf xs with
      | some ds => (f (d :: ds) s2).bind fun e s3 => .ok (.val e) s3
      | none => .bad
    else .bad
  | _, _ => .bad
theorem callK_cons (f : FM) (d : D) (o : Option (List D)) (s2 : St) : (match o with
      | some ds => (f (d :: ds) s2).bind fun e s3 => .ok (Opd.val e) s3
      | none => .bad) = callK f s2 (o.map (d :: ·)) := by cases o <;> rfl
def mtB (f : FM) (d : D) (xs : List Opd) (s2 : St) : Out Opd := callK f s2 ((valsOf xs).map (d :: ·))
@[simp] theorem mtB_ap (f : FM) (d : D) (xs : List Opd) (s2 : St) : mtB f d xs s2 = callK f s2 ((valsOf xs).map (d :: ·)) := by simp only [mtB]
@[simp] theorem methK_some (c : Nat) (f : FM) (as : AM) (r : Env) (s : St) (d : D) (fs : List D) : methK c f as r s (.val d) (some (c, fs)) = (as r s).bind (mtB f d) := by
  unfold methK
  dsimp only
  rw [if_pos rfl]
  congr 1
  funext xs s2
  exact callK_cons f d _ s2
def mtA (c : Nat) (f : FM) (as : AM) (r : Env) (x : Opd) (s1 : St) : Out Opd := methK c f as r s1 x (insOf s1 x)
@[simp] theorem mtA_ap (c : Nat) (f : FM) (as : AM) (r : Env) (x : Opd) (s1 : St) : mtA c f as r x s1 = methK c f as r s1 x (insOf s1 x) := by simp only [mtA]
@[simp] theorem eMeth_ap (c : Nat) (f : FM) (o : EM) (as : AM) (r : Env) (s : St) : eMeth c f o as r s = (o r s).bind (mtA c f as r) := rfl
def fldK (c j : Nat) (s1 : St) (o : Option (Nat × List D)) : Out Opd := match o with
  | some (c', fs) => if c' = c then orBad s1 ((fs[j]?).map Opd.val) else .bad
  | none => .bad
@[simp] theorem fldK_some (c j : Nat) (s : St) (fs : List D) : fldK c j s (some (c, fs)) = orBad s ((fs[j]?).map Opd.val) := by simp [fldK]
def fdA (c j : Nat) (x : Opd) (s1 : St) : Out Opd := fldK c j s1 (insOf s1 x)
@[simp] theorem fdA_ap (c j : Nat) (x : Opd) (s1 : St) : fdA c j x s1 = fldK c j s1 (insOf s1 x) := by simp only [fdA]
@[simp] theorem eFld_ap (c j : Nat) (o : EM) (r : Env) (s : St) : eFld c j o r s = (o r s).bind (fdA c j) := rfl
def insK : Option Cell → Option (Nat × List D)
  | some (.ins c fs) => some (c, fs)
  | _ => none
@[simp] theorem insK_some (c : Nat) (fs : List D) : insK (some (.ins c fs)) = some (c, fs) := rfl
@[simp] theorem insOf_ref (s : St) (n : Nat) : insOf s (.val (.ref n)) = insK s[n]? := rfl
@[simp] theorem insOf_obj (s : St) (c : Nat) (fs : List D) : insOf s (.val (.obj c fs)) = some (c, fs) := rfl
@[simp] theorem insOf_bor (s : St) (c : Nat) (fs : List D) : insOf s (.bor (.ins c fs)) = some (c, fs) := rfl
def lstK (s1 : St) (o : Option (List D)) : Out Cell := match o with
  | some ds => if ds.length ≤ lim then .ok (.lst ds) s1 else .bad
  | none => .bad
@[simp] theorem lstK_some (s : St) (ds : List D) : lstK s (some ds) = if ds.length ≤ lim then .ok (.lst ds) s else .bad := rfl
def nlK (xs : List Opd) (s1 : St) : Out Cell := lstK s1 (valsOf xs)
@[simp] theorem nlK_ap (xs : List Opd) (s1 : St) : nlK xs s1 = lstK s1 (valsOf xs) := by simp only [nlK]
@[simp] theorem nLst_ap (as : AM) (r : Env) (s : St) : nLst as r s = (as r s).bind nlK := rfl
@[simp] theorem nDct0_ap (t : Nat) (r : Env) (s : St) : nDct0 t r s = .ok (.dct t []) s := rfl
@[simp] theorem nOp1_ap (f : St → Opd → Option Cell) (a : EM) (r : Env) (s : St) : nOp1 f a r s = (a r s).bind (no1K f) := rfl
@[simp] theorem nOp2_ap (f : St → Opd → Opd → Option Cell) (a b : EM) (r : Env) (s : St) : nOp2 f a b r s = (a r s).bind (no2A f b r) := rfl
@[simp] theorem nOpN_ap (f : NpN) (as : AM) (r : Env) (s : St) : nOpN f as r s = (as r s).bind (nonK f) := rfl
@[simp] theorem frz_lst (xs : List D) : (Cell.lst xs).frz = some (.lst xs) := rfl
@[simp] theorem frz_dct (t : Nat) (ps : List (D × D)) : (Cell.dct t ps).frz = some (.dct t ps) := rfl
@[simp] theorem frz_ins (c : Nat) (fs : List D) : (Cell.ins c fs).frz = some (.obj c fs) := rfl
@[simp] theorem eFrz_ap (n : NM) (r : Env) (s : St) : eFrz n r s = (n r s).bind frK := rfl
@[simp] theorem eNew_ap (n : NM) (r : Env) (s : St) : eNew n r s = (n r s).bind nwK := rfl
def teK (x : Opd) (s1 : St) : Out Bool := match x with
  | .val (.bl b) => .ok b s1
  | _ => .bad
@[simp] theorem teK_bl (b : Bool) (s : St) : teK (.val (.bl b)) s = .ok b s := rfl
@[simp] theorem tE_ap (a : EM) (r : Env) (s : St) : tE a r s = (a r s).bind teK := rfl
@[simp] theorem tTru_ap (a : EM) (r : Env) (s : St) : tTru a r s = (a r s).bind truK := rfl
@[simp] theorem tAnd_ap (a b : TM) (r : Env) (s : St) : Mir.tAnd a b r s = (a r s).bind (taK b r) := rfl
@[simp] theorem tOr_ap (a b : TM) (r : Env) (s : St) : Mir.tOr a b r s = (a r s).bind (toK b r) := rfl
@[simp] theorem tNot_ap (a : TM) (r : Env) (s : St) : Mir.tNot a r s = (a r s).bind tnK := rfl
@[simp] theorem tYes_ap (r : Env) (s : St) : Mir.tYes r s = .ok true s := rfl
@[simp] theorem iE_ap (a : EM) (r : Env) (s : St) : iE a r s = (a r s).bind ieK := rfl
@[simp] theorem iEnum_ap (a : EM) (r : Env) (s : St) : Mir.iEnum a r s = (a r s).bind ienK := rfl
@[simp] theorem items_lst (s : St) (xs : List D) : itemsOf s (.val (.lst xs)) = some (xs, .free) := rfl
@[simp] theorem items_tup (s : St) (xs : List D) : itemsOf s (.val (.tup xs)) = some (xs, .free) := rfl
@[simp] theorem enum_lst (s : St) (xs : List D) : enumOf s (.val (.lst xs)) = some (enumD 0 xs, .free) := rfl
@[simp] theorem enum_tup (s : St) (xs : List D) : enumOf s (.val (.tup xs)) = some (enumD 0 xs, .free) := rfl
def rng1K (x : Opd) (s1 : St) : Out (List D × Watch) := match x with
  | .val (.int j) => if -(2 ^ 62) ≤ j ∧ j < 2 ^ 62 then .ok (rangeD 0 j, .free) s1 else .bad
  | _ => .bad
def rng2K (x y : Opd) (s2 : St) : Out (List D × Watch) := match x, y with
  | .val (.int i), .val (.int j) => if -(2 ^ 62) ≤ i ∧ i < 2 ^ 62 ∧ -(2 ^ 62) ≤ j ∧ j < 2 ^ 62 then .ok (rangeD i j, .free) s2 else .bad
  | _, _ => .bad
def rgB (x : Opd) (y : Opd) (s2 : St) : Out (List D × Watch) := rng2K x y s2
@[simp] theorem rgB_ap (x : Opd) (y : Opd) (s2 : St) : rgB x y s2 = rng2K x y s2 := by simp only [rgB]
def rgA (b : EM) (r : Env) (x : Opd) (s1 : St) : Out (List D × Watch) := (b r s1).bind (rgB x)
@[simp] theorem rgA_ap (b : EM) (r : Env) (x : Opd) (s1 : St) : rgA b r x s1 = (b r s1).bind (rgB x) := by simp only [rgA]
@[simp] theorem iRng1_ap (a : EM) (r : Env) (s : St) : Mir.iRng1 a r s = (a r s).bind rng1K := by unfold Mir.iRng1 rng1K; rfl
@[simp] theorem iRng2_ap (a b : EM) (r : Env) (s : St) : Mir.iRng2 a b r s = (a r s).bind (rgA b r) := by unfold Mir.iRng2 rgA rgB rng2K; rfl
theorem rng1K_int {j : Int} (s : St) (h : -(2 ^ 62) ≤ j ∧ j < 2 ^ 62) : rng1K (.val (.int j)) s = .ok (rangeD 0 j, .free) s := if_pos h
theorem rng2K_int {i j : Int} (s : St) (h : -(2 ^ 62) ≤ i ∧ i < 2 ^ 62 ∧ -(2 ^ 62) ≤ j ∧ j < 2 ^ 62) : rng2K (.val (.int i)) (.val (.int j)) s = .ok (rangeD i j, .free) s := if_pos h
@[simp] theorem wok_free (s : St) : Watch.free.ok s = true := rfl
def nlcK (tg : Tg) (t : TM) (e : EM) (vs : List Nat) (r : Env) (p : List D × Watch) (s1 : St) : Out Cell := if p.2.ok s1 = true then lcRes (lcLoop tg t e vs p.2 r p.1 [] s1) else .bad
@[simp] theorem nlcK_ap (tg : Tg) (t : TM) (e : EM) (vs : List Nat) (r : Env) (p : List D × Watch) (s1 : St) : nlcK tg t e vs r p s1 = if p.2.ok s1 = true then lcRes (lcLoop tg t e vs p.2 r p.1 [] s1) else .bad := by simp only [nlcK]
@[simp] theorem nLc_ap (it : IM) (tg : Tg) (t : TM) (e : EM) (vs : List Nat) (r : Env) (s : St) : nLc it tg t e vs r s = (it r s).bind (nlcK tg t e vs r) := rfl
@[simp] theorem lcRes_ok (xs : List D) (s : St) : lcRes (.ok xs s) = .ok (.lst xs) s := rfl
/-! statements -/
@[simp] theorem sNext_ap (r : Env) (s : St) : sNext r s = .nx r s := rfl
def seqK (o : SOut) (b : SM) : SOut := match o with
  | .nx r1 s1 => b r1 s1
  | o => o
@[simp] theorem seqK_nx (r : Env) (s : St) (b : SM) : seqK (.nx r s) b = b r s := rfl
@[simp] theorem seqK_rt (d : D) (s : St) (b : SM) : seqK (.rt d s) b = .rt d s := rfl
@[simp] theorem seqK_exc (e : Nat) (r : Env) (s : St) (b : SM) : seqK (.exc e r s) b = .exc e r s := rfl
@[simp] theorem seqK_bk (r : Env) (s : St) (b : SM) : seqK (.bk r s) b = .bk r s := rfl
@[simp] theorem seqK_ct (r : Env) (s : St) (b : SM) : seqK (.ct r s) b = .ct r s := rfl
@[simp] theorem sSeq_ap (a b : SM) (r : Env) (s : St) : sSeq a b r s = seqK (a r s) b := by unfold sSeq seqK; rfl
@[simp] theorem sBind_ok {α : Type} (r : Env) (a : α) (s : St) (k : α → St → SOut) : sBind r (.ok a s) k = k a s := by simp only [sBind]
@[simp] theorem sBind_exc {α : Type} (r : Env) (e : Nat) (s : St) (k : α → St → SOut) : sBind r (.exc e s) k = .exc e r s := rfl
@[simp] theorem sBind_bad {α : Type} (r : Env) (k : α → St → SOut) : sBind r .bad k = .bad := rfl
def setK (i : Nat) (r : Env) (x : Opd) (s1 : St) : SOut := match x with
  | .val d => if i < r.length then .nx (r.set i (.val d)) s1 else .bad
  | .bor _ => .bad
@[simp] theorem setK_val (i : Nat) (r : Env) (d : D) (s : St) : setK i r (.val d) s = if i < r.length then .nx (r.set i (.val d)) s else .bad := rfl
@[simp] theorem sSet_ap (i : Nat) (e : EM) (r : Env) (s : St) : sSet i e r s = sBind r (e r s) (setK i r) := rfl
@[simp] theorem noIns_lst (xs : List D) : (Cell.lst xs).noIns = true := rfl
@[simp] theorem noIns_dct (t : Nat) (ps : List (D × D)) : (Cell.dct t ps).noIns = true := rfl
def ownK (i : Nat) (r : Env) (c : Cell) (s1 : St) : SOut := if i < r.length ∧ c.noIns = true then .nx (r.set i (.own c)) s1 else .bad
@[simp] theorem ownK_ap (i : Nat) (r : Env) (c : Cell) (s1 : St) : ownK i r c s1 = if i < r.length ∧ c.noIns = true then .nx (r.set i (.own c)) s1 else .bad := by simp only [ownK]
@[simp] theorem sOwn_ap (i : Nat) (n : NM) (r : Env) (s : St) : sOwn i n r s = sBind r (n r s) (ownK i r) := rfl
def unpK (r : Env) (s1 : St) (o : Option Env) : SOut := match o with
    | some r1 => .nx r1 s1
    | none => .bad
@[simp] theorem unpK_some (r r1 : Env) (s : St) : unpK r s (some r1) = .nx r1 s := rfl
def unpV (tg : Tg) (r : Env) (x : Opd) (s1 : St) : SOut := match x with
  | .val d => unpK r s1 (bindT tg d r)
  | .bor _ => .bad
@[simp] theorem unpV_val (tg : Tg) (r : Env) (d : D) (s : St) : unpV tg r (.val d) s = unpK r s (bindT tg d r) := rfl
@[simp] theorem sUnp_ap (tg : Tg) (e : EM) (r : Env) (s : St) : sUnp tg e r s = sBind r (e r s) (unpV tg r) := by
  unfold sUnp sBind
  cases e r s <;> rfl
def srcW (x : Opd) (s1 : St) : Out Slot := match x with
    | .val d => .ok (.val d) s1
    | .bor _ => .bad
@[simp] theorem srcV_val (d : D) (s : St) : srcW (.val d) s = .ok (.val d) s := rfl
@[simp] theorem src_v (e : EM) (r : Env) (s : St) : (Src.v e).run r s = (e r s).bind srcW := rfl
def sroK (c : Cell) (s1 : St) : Out Slot := if c.noIns = true then .ok (.own c) s1 else .bad
@[simp] theorem sroK_ap (c : Cell) (s1 : St) : sroK c s1 = if c.noIns = true then .ok (.own c) s1 else .bad := by simp only [sroK]
@[simp] theorem src_o (n : NM) (r : Env) (s : St) : (Src.o n).run r s = (n r s).bind sroK := rfl
def parB (i j : Nat) (r : Env) (x : Slot) (y : Slot) (s2 : St) : SOut := if i < r.length ∧ j < r.length ∧ i ≠ j then .nx ((r.set i x).set j y) s2 else .bad
@[simp] theorem parB_ap (i j : Nat) (r : Env) (x : Slot) (y : Slot) (s2 : St) : parB i j r x y s2 = if i < r.length ∧ j < r.length ∧ i ≠ j then .nx ((r.set i x).set j y) s2 else .bad := by simp only [parB]
def parA (i j : Nat) (b : Src) (r : Env) (x : Slot) (s1 : St) : SOut := sBind r (b.run r s1) (parB i j r x)
@[simp] theorem parA_ap (i j : Nat) (b : Src) (r : Env) (x : Slot) (s1 : St) : parA i j b r x s1 = sBind r (b.run r s1) (parB i j r x) := by simp only [parA]
@[simp] theorem sPar_ap (i j : Nat) (a b : Src) (r : Env) (s : St) : sPar i j a b r s = sBind r (a.run r s) (parA i j b r) := rfl
def sifK (a b : SM) (r : Env) (c : Bool) (s1 : St) : SOut := if c = true then a r s1 else b r s1
@[simp] theorem sifK_ap (a b : SM) (r : Env) (c : Bool) (s1 : St) : sifK a b r c s1 = if c = true then a r s1 else b r s1 := by simp only [sifK]
@[simp] theorem sIf_ap (t : TM) (a b : SM) (r : Env) (s : St) : sIf t a b r s = sBind r (t r s) (sifK a b r) := rfl
def retK (x : Opd) (s1 : St) : SOut := match x with
  | .val d => .rt d s1
  | .bor _ => .bad
@[simp] theorem retK_val (d : D) (s : St) : retK (.val d) s = .rt d s := rfl
@[simp] theorem sRet_ap (e : EM) (r : Env) (s : St) : sRet e r s = sBind r (e r s) retK := rfl
def retvK (s : St) (o : Option Slot) : SOut := match o with
  | some (.val d) => .rt d s
  | some (.own c) => match c.frz with
    | some d => .rt d s
    | none => .bad
  | _ => .bad
@[simp] theorem retvK_val (d : D) (s : St) : retvK s (some (.val d)) = .rt d s := rfl
@[simp] theorem retvK_lst (d : List D) (s : St) : retvK s (some (.own (.lst d))) = .rt (.lst d) s := rfl
@[simp] theorem retvK_dct (t : Nat) (d : List (D × D)) (s : St) : retvK s (some (.own (.dct t d))) = .rt (.dct t d) s := rfl
@[simp] theorem sRetV_ap (i : Nat) (r : Env) (s : St) : sRetV i r s = retvK s r[i]? := by unfold sRetV retvK; rfl
@[simp] theorem sRetN_ap (r : Env) (s : St) : sRetN r s = .rt .non s := rfl
def sexK (r : Env) (x : Opd) (s1 : St) : SOut := .nx r s1
@[simp] theorem sexK_ap (r : Env) (x : Opd) (s1 : St) : sexK r x s1 = .nx r s1 := by simp only [sexK]
@[simp] theorem sExpr_ap (e : EM) (r : Env) (s : St) : sExpr e r s = sBind r (e r s) (sexK r) := rfl
@[simp] theorem sRaise_ap (e : Nat) (r : Env) (s : St) : sRaise e r s = .exc e r s := rfl
@[simp] theorem sBreak_ap (r : Env) (s : St) : sBreak r s = .bk r s := rfl
@[simp] theorem sCont_ap (r : Env) (s : St) : sCont r s = .ct r s := rfl
def sfK (tg : Tg) (body : SM) (r : Env) (p : List D × Watch) (s1 : St) : SOut := if p.2.ok s1 = true then forLoop tg body p.2 p.1 r s1 else .bad
@[simp] theorem sfK_ap (tg : Tg) (body : SM) (r : Env) (p : List D × Watch) (s1 : St) : sfK tg body r p s1 = if p.2.ok s1 = true then forLoop tg body p.2 p.1 r s1 else .bad := by simp only [sfK]
@[simp] theorem sFor_ap (it : IM) (tg : Tg) (body : SM) (r : Env) (s : St) : sFor it tg body r s = sBind r (it r s) (sfK tg body r) := rfl
def augK (i : Nat) (f : Op2) (r : Env) (d : D) (x : Opd) (s1 : St) : SOut := match f s1 (.val d) x with
    | some v => .nx (r.set i (.val v)) s1
    | none => .bad
def augS (i : Nat) (f : Op2) (e : EM) (r : Env) (s : St) (o : Option Slot) : SOut := match o with
  | some (.val d) => sBind r (e r s) (augK i f r d)
  | _ => .bad
@[simp] theorem sAug_ap (i : Nat) (f : Op2) (e : EM) (r : Env) (s : St) : sAug i f e r s = augS i f e r s r[i]? := by unfold sAug augS; rfl
@[simp] theorem augS_val (i : Nat) (f : Op2) (e : EM) (r : Env) (s : St) (d : D) : augS i f e r s (some (.val d)) = sBind r (e r s) (augK i f r d) := rfl
theorem augK_some {i : Nat} {f : Op2} {r : Env} {d v : D} {x : Opd} {s : St} (h : f s (.val d) x = some v) : augK i f r d x s = .nx (r.set i (.val v)) s := by unfold augK; rw [h]
def appV2 (i : Nat) (r : Env) (s1 : St) (x : Opd) (o : Option Slot) : SOut := match x, o with
    | .val d, some (.own (.lst xs)) => if xs.length < lim then .nx (r.set i (.own (.lst (xs ++ [d])))) s1 else .bad
    | _, _ => .bad
def apK (i : Nat) (r : Env) (x : Opd) (s1 : St) : SOut := appV2 i r s1 x r[i]?
@[simp] theorem apK_ap (i : Nat) (r : Env) (x : Opd) (s1 : St) : apK i r x s1 = appV2 i r s1 x r[i]? := by simp only [apK]
def appV1 (i : Nat) (e : EM) (r : Env) (s : St) (o : Option Slot) : SOut := match o with
  | some (.own (.lst _)) => sBind r (e r s) (apK i r)
  | _ => .bad
@[simp] theorem sAppV_ap (i : Nat) (e : EM) (r : Env) (s : St) : sAppV i e r s = appV1 i e r s r[i]? := by unfold sAppV appV1; rfl
@[simp] theorem appV1_lst (i : Nat) (e : EM) (r : Env) (s : St) (xs : List D) : appV1 i e r s (some (.own (.lst xs))) = sBind r (e r s) (apK i r) := rfl
@[simp] theorem appV2_lst (i : Nat) (r : Env) (s : St) (d : D) (xs : List D) : appV2 i r s (.val d) (some (.own (.lst xs))) = if xs.length < lim then .nx (r.set i (.own (.lst (xs ++ [d])))) s else .bad := rfl
@[simp] theorem bindT_nm (i : Nat) (d : D) (r : Env) : bindT (.nm i) d r = if i < r.length then some (r.set i (.val d)) else none := rfl
@[simp] theorem bindT_tup (ts : List Tg) (ds : List D) (r : Env) : bindT (.tp ts) (.tup ds) r = bindTs ts ds r := rfl
@[simp] theorem bindTs_nil (r : Env) : bindTs [] [] r = some r := rfl
def btK (ts : List Tg) (ds : List D) (o : Option Env) : Option Env := match o with
    | some r' => bindTs ts ds r'
    | none => none
@[simp] theorem btK_some (ts : List Tg) (ds : List D) (r : Env) : btK ts ds (some r) = bindTs ts ds r := rfl
@[simp] theorem bindTs_cons (t : Tg) (ts : List Tg) (d : D) (ds : List D) (r : Env) : bindTs (t :: ts) (d :: ds) r = btK ts ds (bindT t d r) := by
  cases h : bindT t d r <;> simp [bindTs, h, btK]
@[simp] theorem wipe_nil (r : Env) : wipeE [] r = r := rfl
@[simp] theorem wipe_cons (v : Nat) (vs : List Nat) (r : Env) : wipeE (v :: vs) r = (wipeE vs r).set v .no := rfl
/-! operations on ints -/
@[simp] theorem oAdd_int (s : St) (i j : Int) : oAdd s (.val (.int i)) (.val (.int j)) = some (.int (i + j)) := rfl
@[simp] theorem oSub_int (s : St) (i j : Int) : oSub s (.val (.int i)) (.val (.int j)) = some (.int (i - j)) := rfl
@[simp] theorem oNeg_int (s : St) (i : Int) : oNeg s (.val (.int i)) = some (.int (-i)) := rfl
@[simp] theorem oLt_int (s : St) (i j : Int) : oLt s (.val (.int i)) (.val (.int j)) = some (.bl (decide (i < j))) := rfl
@[simp] theorem oLe_int (s : St) (i j : Int) : oLe s (.val (.int i)) (.val (.int j)) = some (.bl (decide (i ≤ j))) := rfl
@[simp] theorem oGt_int (s : St) (i j : Int) : oGt s (.val (.int i)) (.val (.int j)) = some (.bl (decide (j < i))) := rfl
@[simp] theorem oGe_int (s : St) (i j : Int) : oGe s (.val (.int i)) (.val (.int j)) = some (.bl (decide (j ≤ i))) := rfl
@[simp] theorem oEq_int (s : St) (i j : Int) : oEq s (.val (.int i)) (.val (.int j)) = some (.bl (decide (i = j))) := by simp [oEq, eqD, look, scalD]
@[simp] theorem oNe_int (s : St) (i j : Int) : oNe s (.val (.int i)) (.val (.int j)) = some (.bl (!decide (i = j))) := by simp [oNe, eqD, look, scalD]
@[simp] theorem oEq_bl (s : St) (i j : Bool) : oEq s (.val (.bl i)) (.val (.bl j)) = some (.bl (decide (i = j))) := by simp [oEq, eqD, look, scalD]
@[simp] theorem oNe_bl (s : St) (i j : Bool) : oNe s (.val (.bl i)) (.val (.bl j)) = some (.bl (!decide (i = j))) := by simp [oNe, eqD, look, scalD]
@[simp] theorem oEq_str (s : St) (i j : Tx) : oEq s (.val (.str i)) (.val (.str j)) = some (.bl (decide (i = j))) := by simp [oEq, eqD, look, scalD]
@[simp] theorem oNe_str (s : St) (i j : Tx) : oNe s (.val (.str i)) (.val (.str j)) = some (.bl (!decide (i = j))) := by simp [oNe, eqD, look, scalD]
@[simp] theorem oAbs_int (s : St) (i : Int) : oAbs s [.val (.int i)] = some (.int (if i < 0 then -i else i)) := rfl
@[simp] theorem oMax2_int (s : St) (i j : Int) : oMax2 s [.val (.int i), .val (.int j)] = some (.int (if j > i then j else i)) := rfl
@[simp] theorem oMin2_int (s : St) (i j : Int) : oMin2 s [.val (.int i), .val (.int j)] = some (.int (if j < i then j else i)) := rfl
@[simp] theorem oInt_int (s : St) (i : Int) : oInt s [.val (.int i)] = some (.int i) := rfl
@[simp] theorem oInt_bl (s : St) (k : Bool) : oInt s [.val (.bl k)] = some (.int (if k then 1 else 0)) := rfl
@[simp] theorem oIsN_non (s : St) : oIsN s (.val .non) (.val .non) = some (.bl true) := rfl
@[simp] theorem oIsN_tup (s : St) (xs : List D) : oIsN s (.val (.tup xs)) (.val .non) = some (.bl false) := rfl
@[simp] theorem oIsN_int (s : St) (i : Int) : oIsN s (.val (.int i)) (.val .non) = some (.bl false) := rfl
@[simp] theorem oNotN_non (s : St) : oNotN s (.val .non) (.val .non) = some (.bl false) := rfl
@[simp] theorem oNotN_tup (s : St) (xs : List D) : oNotN s (.val (.tup xs)) (.val .non) = some (.bl true) := rfl
@[simp] theorem oNotN_int (s : St) (i : Int) : oNotN s (.val (.int i)) (.val .non) = some (.bl true) := rfl
@[simp] theorem oMod_int {s : St} {i j : Int} (h : 0 < j) : oMod s (.val (.int i)) (.val (.int j)) = some (.int (i % j)) := if_pos h
@[simp] theorem oFdiv_int {s : St} {i j : Int} (h : 0 < j ∧ j < 1073741824) : oFdiv s (.val (.int i)) (.val (.int j)) = some (.int (i / j)) := if_pos h
@[simp] theorem chainK_t (f g : Op2) (c : EM) (r : Env) (x y : Opd) (s : St) : chainK f g c r x y s (some (.bl true)) = (c r s).bind (op2B g y) := rfl
@[simp] theorem chainK_f (f g : Op2) (c : EM) (r : Env) (x y : Opd) (s : St) : chainK f g c r x y s (some (.bl false)) = .ok (.val (.bl false)) s := rfl
theorem chain_int {f g : Op2} {a b c : EM} {r : Env} {s : St} {x y z : Opd} {p q : Bool} (ha : a r s = .ok x s) (hb : b r s = .ok y s) (hf : f s x y = some (.bl p)) (hc : c r s = .ok z s) (hg : g s y z = some (.bl q)) : eChain f g a b c r s = .ok (.val (.bl (p && q))) s := by
  rw [eChain_ap, ha, bindok, chA_ap, hb, bindok, chB_ap, hf]
  cases p
  · rfl
  · rw [chainK_t, hc, bindok, op2B_ap, hg]; rfl
end Mir
/-! P5: k09, plain: swing, outside. -/
namespace Mir
theorem for_nil {tg : Tg} {body : SM} {w : Watch} {r : Env} {s : St} : forLoop tg body w [] r s = .nx r s := rfl
theorem for_cons {tg : Tg} {body : SM} {d : D} {ds : List D} {r r1 r2 : Env} {s s2 : St} (h1 : bindT tg d r = some r1) (h2 : body r1 s = .nx r2 s2) : forLoop tg body .free (d :: ds) r s = forLoop tg body .free ds r2 s2 := by
  conv => lhs; unfold forLoop
  rw [h1]
  dsimp only
  rw [h2]
  exact if_pos rfl
theorem cut_from {α : Type} (l : List α) (k : Nat) (i : Int) (h : i = (k : Int)) : cutD l (some i) none = l.drop k := by
  subst h
  unfold cutD sIxD
  have : ¬ ((k : Int) < 0) := by omega
  simp only [this, if_false, Int.toNat_natCast]
  rw [List.take_of_length_le (by simp)]
  by_cases hk : k ≤ l.length
  · rw [Nat.min_eq_left hk]
  · rw [Nat.min_eq_right (by omega), List.drop_length, List.drop_eq_nil_of_le (by omega)]
end Mir
namespace K09
open Mir
def ab (i : Int) : Int := if i < 0 then -i else i
def mx (a b : Int) : Int := if b > a then b else a
def swG (H : Int) (x : Row) (b : Int × Int) (y : Row) : Int × Int := if y.1 - x.1 ≤ H then (mx b.1 (ab (y.2.1 - x.2.1)), mx b.2 (ab (y.2.2 - x.2.2))) else b
def swingI (H : Int) : List Row → Int × Int → Int × Int
  | [], b => b
  | x :: t, b => swingI H t (t.foldl (swG H x) b)
def b_sw_in : SM := (sIf (tE (eOp2 oLe (eOp2 oSub (eOp2 oGet (eV 7) (eC (.int 0))) (eOp2 oGet (eV 6) (eC (.int 0)))) (eV 2)))
 (sSet 4 (eFrz (nLst (aCons (eOpN oMax2 (aCons (eOp2 oGet (eV 4) (eC (.int 0))) (aCons (eOpN oAbs (aCons (eOp2 oSub (eOp2 oGet (eV 7) (eC (.int 1))) (eOp2 oGet (eV 6) (eC (.int 1)))) aNil)) aNil))) (aCons (eOpN oMax2 (aCons (eOp2 oGet (eV 4) (eC (.int 1))) (aCons (eOpN oAbs (aCons (eOp2 oSub (eOp2 oGet (eV 7) (eC (.int 2))) (eOp2 oGet (eV 6) (eC (.int 2)))) aNil)) aNil))) aNil)))))
 sNext)
@[simp] theorem row_g0 (st : St) (y : Row) : oGet st (.val (rowD y)) (.val (.int 0)) = some (.int y.1) := (get_row st y).1
@[simp] theorem row_g1 (st : St) (y : Row) : oGet st (.val (rowD y)) (.val (.int 1)) = some (.int y.2.1) := (get_row st y).2.1
@[simp] theorem row_g2 (st : St) (y : Row) : oGet st (.val (rowD y)) (.val (.int 2)) = some (.int y.2.2) := (get_row st y).2.2
@[simp] theorem l2_g0 (st : St) (a b : D) : oGet st (.val (.lst [a, b])) (.val (.int 0)) = some a := by simp [oGet, dctOf, oIx, seqOf, listOf, atD, ixD]
@[simp] theorem l2_g1 (st : St) (a b : D) : oGet st (.val (.lst [a, b])) (.val (.int 1)) = some b := by simp [oGet, dctOf, oIx, seqOf, listOf, atD, ixD]
@[simp] theorem t2_g0 (st : St) (a b : D) : oGet st (.val (.tup [a, b])) (.val (.int 0)) = some a := by simp [oGet, dctOf, oIx, seqOf, listOf, atD, ixD]
@[simp] theorem t2_g1 (st : St) (a b : D) : oGet st (.val (.tup [a, b])) (.val (.int 1)) = some b := by simp [oGet, dctOf, oIx, seqOf, listOf, atD, ixD]
theorem sw_in {a : Nat} {x : Tx} {H : Int} {R : D} {st : St} {one : Row} {u : Slot} : ∀ (t : List Row) (b : Int × Int) (v : Slot), ∃ v', forLoop (.nm 7) b_sw_in .free (t.map rowD) [.val (.ref a), .val (.str x), .val (.int H), .val R, .val (.lst [.int b.1, .int b.2]), u, .val (rowD one), v] st =
    .nx [.val (.ref a), .val (.str x), .val (.int H), .val R, .val (.lst [.int (t.foldl (swG H one) b).1, .int (t.foldl (swG H one) b).2]), u, .val (rowD one), v'] st
  | [], b, v => ⟨v, rfl⟩
  | y :: t, b, v => by
    obtain ⟨v', ih⟩ := sw_in (a := a) (x := x) (H := H) (R := R) (st := st) (one := one) (u := u) t (swG H one b y) (.val (rowD y))
    refine ⟨v', ?_⟩
    rw [List.map_cons, for_cons (r1 := [.val (.ref a), .val (.str x), .val (.int H), .val R, .val (.lst [.int b.1, .int b.2]), u, .val (rowD one), .val (rowD y)]) rfl (r2 := [.val (.ref a), .val (.str x), .val (.int H), .val R, .val (.lst [.int (swG H one b y).1, .int (swG H one b y).2]), u, .val (rowD one), .val (rowD y)]) (s2 := st) ?_]
    · exact ih
    · by_cases h : y.1 - one.1 ≤ H
      · simp [b_sw_in, h, swG, lim, mx, ab]
      · simp [b_sw_in, h, swG]
theorem sw_out {a : Nat} {x : Tx} {H : Int} {st : St} {l : List Row} : ∀ (t : List Row) (k : Nat) (b : Int × Int) (u v w : Slot), l.drop k = t → ∃ u' v' w', forLoop (.tp [.nm 5, .nm 6]) (sFor (iE (eSl (eV 3) (oSome (eOp2 oAdd (eV 5) (eC (.int 1)))) oNo)) (.nm 7) b_sw_in) .free (enumD k (t.map rowD)) [.val (.ref a), .val (.str x), .val (.int H), .val (.tup (l.map rowD)), .val (.lst [.int b.1, .int b.2]), u, v, w] st =
    .nx [.val (.ref a), .val (.str x), .val (.int H), .val (.tup (l.map rowD)), .val (.lst [.int (swingI H t b).1, .int (swingI H t b).2]), u', v', w'] st
  | [], k, b, u, v, w, _ => ⟨u, v, w, rfl⟩
  | y :: t, k, b, u, v, w, hk => by
    have hd : l.drop (k + 1) = t := by
      rw [← List.drop_drop, hk]; rfl
    obtain ⟨w1, h1⟩ := sw_in (a := a) (x := x) (H := H) (R := .tup (l.map rowD)) (st := st) (one := y) (u := .val (.int (k : Int))) t b w
    obtain ⟨u', v', w', ih⟩ := sw_out (a := a) (x := x) (H := H) (st := st) (l := l) t (k + 1) (t.foldl (swG H y) b) (.val (.int (k : Int))) (.val (rowD y)) w1 hd
    refine ⟨u', v', w', ?_⟩
    show forLoop _ _ _ (.tup [.int (k : Int), rowD y] :: enumD (k + 1) (t.map rowD)) _ _ = _
    rw [for_cons (r1 := [.val (.ref a), .val (.str x), .val (.int H), .val (.tup (l.map rowD)), .val (.lst [.int b.1, .int b.2]), .val (.int (k : Int)), .val (rowD y), w]) rfl (r2 := [.val (.ref a), .val (.str x), .val (.int H), .val (.tup (l.map rowD)), .val (.lst [.int (t.foldl (swG H y) b).1, .int (t.foldl (swG H y) b).2]), .val (.int (k : Int)), .val (rowD y), w1]) (s2 := st) ?_]
    · exact ih
    · have hc := cut_from (l.map rowD) (k + 1) ((k : Int) + 1) (by omega)
      rw [← List.map_drop, hd] at hc
      simp [eSl, oSome, oNo, cutE, hc]
      exact h1
theorem swing_ok {st : St} {a b : Nat} {ps : List (D × D)} {x : Tx} {l : List Row} {H : Int} (h : AirAt st a b ps) (hrow : f_Air_rows_of [.ref a, .str x] st = .ok (.tup (l.map rowD)) st) (hH : 0 ≤ H) : f_Air_swing [.ref a, .str x, .int H] st = .ok (.tup [.int (swingI H l (0, 0)).1, .int (swingI H l (0, 0)).2]) st := by
  refine fn_rt rfl ?_
  obtain ⟨u, v, w, hl⟩ := sw_out (a := a) (x := x) (H := H) (st := st) (l := l) l 0 (0, 0) .no .no .no rfl
  unfold b_sw_in at hl
  have hH' : ¬ H < 0 := by omega
  simp [b_Air_swing, h.ins, hrow, lim, hH']
  rw [hl]
  simp [oTuple, tupOf, listOf]
theorem swing_neg {st : St} {a b : Nat} {ps : List (D × D)} {x : Tx} {l : List Row} {H : Int} (h : AirAt st a b ps) (hrow : f_Air_rows_of [.ref a, .str x] st = .ok (.tup (l.map rowD)) st) (hH : H < 0) : f_Air_swing [.ref a, .str x, .int H] st = .exc 1 st := by
  refine fn_exc rfl (r := [.val (.ref a), .val (.str x), .val (.int H), .val (.tup (l.map rowD)), .val (.lst [.int 0, .int 0]), .no, .no, .no]) ?_
  simp [b_Air_swing, h.ins, hrow, lim, hH]
/-! ### outside -/
def isOut (warm wet : Int × Int) (y : Row) : Bool := !(decide (warm.1 ≤ y.2.1) && decide (y.2.1 ≤ warm.2)) || !(decide (wet.1 ≤ y.2.2) && decide (y.2.2 ≤ wet.2))
def outG (warm wet : Int × Int) (p : List (Int × Int) × Option (Int × Int)) (y : Row) : List (Int × Int) × Option (Int × Int) :=
  if isOut warm wet y = true then (p.1, some (match p.2 with | some q => (q.1, y.1) | none => (y.1, y.1)))
  else match p.2 with | some q => (p.1 ++ [q], none) | none => p
def pairD (p : Int × Int) : D := .tup [.int p.1, .int p.2]
def optD : Option (Int × Int) → D
  | some q => pairD q
  | none => .non
def b_out : SM := (sSeq (sSet 9 (eOr (eNot (eChain oLe oLe (eOp2 oGet (eV 2) (eC (.int 0))) (eV 7) (eOp2 oGet (eV 2) (eC (.int 1))))) (eNot (eChain oLe oLe (eOp2 oGet (eV 3) (eC (.int 0))) (eV 8) (eOp2 oGet (eV 3) (eC (.int 1)))))))
 (sIf (tE (eV 9))
 (sSet 5 (eIf (tE (eOp2 oNotN (eV 5) (eC .non))) (eTup (aCons (eOp2 oGet (eV 5) (eC (.int 0))) (aCons (eV 6) aNil))) (eTup (aCons (eV 6) (aCons (eV 6) aNil)))))
 (sIf (tE (eOp2 oNotN (eV 5) (eC .non)))
 (sSeq (sAppV 4 (eV 5))
 (sSet 5 (eC .non)))
 sNext)))
theorem out_bad {A B C Dd : Slot} {warm wet : Int × Int} {y : Row} {st : St} {u : Slot} : eOr (eNot (eChain oLe oLe (eOp2 oGet (eV 2) (eC (.int 0))) (eV 7) (eOp2 oGet (eV 2) (eC (.int 1))))) (eNot (eChain oLe oLe (eOp2 oGet (eV 3) (eC (.int 0))) (eV 8) (eOp2 oGet (eV 3) (eC (.int 1))))) [A, B, .val (pairD warm), .val (pairD wet), C, Dd, .val (.int y.1), .val (.int y.2.1), .val (.int y.2.2), u] st = .ok (.val (.bl (isOut warm wet y))) st := by
  by_cases h1 : warm.1 ≤ y.2.1 <;> by_cases h2 : y.2.1 ≤ warm.2 <;> by_cases h3 : wet.1 ≤ y.2.2 <;> by_cases h4 : y.2.2 ≤ wet.2 <;> simp [pairD, isOut, h1, h2, h3, h4]
theorem outG_len (warm wet : Int × Int) (p : List (Int × Int) × Option (Int × Int)) (y : Row) : (outG warm wet p y).1.length ≤ p.1.length + 1 := by
  unfold outG
  split
  · simp
  · split <;> simp
theorem out_loop {A B : Slot} {warm wet : Int × Int} {st : St} : ∀ (t : List Row) (p : List (Int × Int) × Option (Int × Int)) (u v w z : Slot), p.1.length + t.length < lim → ∃ u' v' w' z', forLoop (.tp [.nm 6, .nm 7, .nm 8]) b_out .free (t.map rowD) [A, B, .val (pairD warm), .val (pairD wet), .own (.lst (p.1.map pairD)), .val (optD p.2), u, v, w, z] st =
    .nx [A, B, .val (pairD warm), .val (pairD wet), .own (.lst ((t.foldl (outG warm wet) p).1.map pairD)), .val (optD (t.foldl (outG warm wet) p).2), u', v', w', z'] st
  | [], p, u, v, w, z, _ => ⟨u, v, w, z, rfl⟩
  | y :: t, p, u, v, w, z, hl => by
    have hl' : p.1.length + (t.length + 1) < lim := hl
    have := outG_len warm wet p y
    obtain ⟨u', v', w', z', ih⟩ := out_loop (A := A) (B := B) (warm := warm) (wet := wet) (st := st) t (outG warm wet p y) (.val (.int y.1)) (.val (.int y.2.1)) (.val (.int y.2.2)) (.val (.bl (isOut warm wet y))) (by omega)
    refine ⟨u', v', w', z', ?_⟩
    rw [List.map_cons, for_cons (r1 := [A, B, .val (pairD warm), .val (pairD wet), .own (.lst (p.1.map pairD)), .val (optD p.2), .val (.int y.1), .val (.int y.2.1), .val (.int y.2.2), z]) (by simp [rowD]) (r2 := [A, B, .val (pairD warm), .val (pairD wet), .own (.lst ((outG warm wet p y).1.map pairD)), .val (optD (outG warm wet p y).2), .val (.int y.1), .val (.int y.2.1), .val (.int y.2.2), .val (.bl (isOut warm wet y))]) (s2 := st) ?_]
    · exact ih
    · obtain ⟨f, o⟩ := p
      have hf : f.length < lim := by simp at hl'; omega
      unfold b_out
      rw [sSeq_ap, sSet_ap, out_bad]
      cases hb : isOut warm wet y <;> cases o <;> simp [outG, hb, optD, pairD, lim]
      · simp [lim] at hf; simp [hf]
theorem outside_ok {st : St} {a b : Nat} {ps : List (D × D)} {x : Tx} {l : List Row} {warm wet : Int × Int} (h : AirAt st a b ps) (hrow : f_Air_rows_of [.ref a, .str x] st = .ok (.tup (l.map rowD)) st) (hl : l.length < 1000) : f_Air_outside [.ref a, .str x, pairD warm, pairD wet] st = .ok (.tup (((l.foldl (outG warm wet) ([], none)).1 ++ (l.foldl (outG warm wet) ([], none)).2.toList).map pairD)) st := by
  refine fn_rt rfl ?_
  obtain ⟨u, v, w, z, hf⟩ := out_loop (A := .val (.ref a)) (B := .val (.str x)) (warm := warm) (wet := wet) (st := st) l ([], none) .no .no .no .no (by simp [lim]; omega)
  have hlen : ∀ (t : List Row) (p : List (Int × Int) × Option (Int × Int)), (t.foldl (outG warm wet) p).1.length ≤ p.1.length + t.length := fun t => by
    induction t with
    | nil => intro p; simp
    | cons y t ih => intro p; have := ih (outG warm wet p y); have := outG_len warm wet p y; simp; omega
  have h2 := hlen l ([], none)
  unfold b_out at hf
  simp [optD] at hf
  simp [b_Air_outside, h.ins, hrow, lim]
  rw [hf]
  generalize l.foldl (outG warm wet) ([], none) = q at h2 ⊢
  obtain ⟨f, o⟩ := q
  have h3 : f.length + 1 ≤ lim := by simp at h2; simp [lim]; omega
  have h4 : f.length ≤ lim := by omega
  cases o <;> simp [optD, pairD, nCat, listOf, h3, h4, oTuple, tupOf, lim]
  · simp [lim] at h4; simp [h4, oTuple, tupOf, listOf]
  · simp [lim] at h3; simp [h3, oTuple, tupOf, listOf]
end K09
/-! P6: k09, plain: what the rooms hold; best_room. -/
namespace Mir
theorem for_exc {tg : Tg} {body : SM} {w : Watch} {d : D} {ds : List D} {r r1 r2 : Env} {s s2 : St} {e : Nat} (h1 : bindT tg d r = some r1) (h2 : body r1 s = .exc e r2 s2) : forLoop tg body w (d :: ds) r s = .exc e r2 s2 := by
  conv => lhs; unfold forLoop
  rw [h1]
  dsimp only
  rw [h2]
/-! sorted texts -/
theorem mem_insT {x y : Tx} : ∀ {l : List Tx}, y ∈ insT x l ↔ y = x ∨ y ∈ l
  | [] => by simp [insT]
  | z :: l => by
    unfold insT
    split
    · simp [mem_insT (l := l)]
      constructor
      · rintro (h | h | h) <;> simp [h]
      · rintro (h | h | h) <;> simp [h]
    · simp
theorem mem_sortT {y : Tx} : ∀ {l : List Tx}, y ∈ sortT l ↔ y ∈ l
  | [] => by simp [sortT]
  | z :: l => by simp [sortT, mem_insT, mem_sortT (l := l)]
theorem insT_len (x : Tx) : ∀ l : List Tx, (insT x l).length = l.length + 1
  | [] => rfl
  | z :: l => by
    unfold insT
    split
    · simp [insT_len x l]
    · simp
theorem sortT_len : ∀ l : List Tx, (sortT l).length = l.length
  | [] => rfl
  | z :: l => by simp [sortT, insT_len, sortT_len l]
theorem txIrr : ∀ x : Tx, ltT x x = false
  | [] => rfl
  | a :: x => by simp [ltT, txIrr x]
theorem txTrans : ∀ {x y z : Tx}, ltT x y = true → ltT y z = true → ltT x z = true
  | [], [], _, h, _ => by simp [ltT] at h
  | [], _ :: _, [], _, h => by simp [ltT] at h
  | [], _ :: _, _ :: _, _, _ => rfl
  | _ :: _, [], _, h, _ => by simp [ltT] at h
  | _ :: _, _ :: _, [], _, h => by simp [ltT] at h
  | a :: x, b :: y, c :: z, h1, h2 => by
    simp only [ltT, Bool.or_eq_true, Bool.and_eq_true, decide_eq_true_eq] at h1 h2 ⊢
    rcases h1 with h1 | ⟨rfl, h1⟩
    · rcases h2 with h2 | ⟨rfl, h2⟩
      · exact .inl (by omega)
      · exact .inl h1
    · rcases h2 with h2 | ⟨rfl, h2⟩
      · exact .inl h2
      · exact .inr ⟨rfl, txTrans h1 h2⟩
theorem txTri : ∀ (x y : Tx), ltT x y = true ∨ x = y ∨ ltT y x = true
  | [], [] => .inr (.inl rfl)
  | [], _ :: _ => .inl rfl
  | _ :: _, [] => .inr (.inr rfl)
  | a :: x, b :: y => by
    simp only [ltT, Bool.or_eq_true, Bool.and_eq_true, decide_eq_true_eq]
    rcases Nat.lt_trichotomy a b with h | rfl | h
    · exact .inl (.inl h)
    · rcases txTri x y with h | rfl | h
      · exact .inl (.inr ⟨rfl, h⟩)
      · exact .inr (.inl rfl)
      · exact .inr (.inr (.inr ⟨rfl, h⟩))
    · exact .inr (.inr (.inl h))
theorem ltT_asym {x y : Tx} (h : ltT x y = true) : ltT y x = false := by
  cases e : ltT y x
  · rfl
  · have := txTrans h e; rw [txIrr] at this; cases this
theorem insT_comm (x y : Tx) : ∀ l : List Tx, insT x (insT y l) = insT y (insT x l)
  | [] => by
    simp only [insT]
    rcases txTri x y with h | rfl | h
    · simp [h, ltT_asym h]
    · rfl
    · simp [h, ltT_asym h]
  | z :: l => by
    have ih := insT_comm x y l
    rcases txTri x y with h | rfl | h
    · by_cases h1 : ltT z x = true
      · have h2 := txTrans h1 h
        simp [insT, h1, h2, ih]
      · by_cases h2 : ltT z y = true
        · simp [insT, h1, h2, h]
        · simp [insT, h1, h2, h, ltT_asym h]
    · rfl
    · by_cases h1 : ltT z y = true
      · have h2 := txTrans h1 h
        simp [insT, h1, h2, ih]
      · by_cases h2 : ltT z x = true
        · simp [insT, h1, h2, h]
        · simp [insT, h1, h2, h, ltT_asym h]
theorem sortT_app (x : Tx) : ∀ l : List Tx, sortT (l ++ [x]) = insT x (sortT l)
  | [] => rfl
  | y :: l => by simp [sortT, sortT_app x l, insT_comm]
theorem sortT_rev : ∀ l : List Tx, sortT l.reverse = sortT l
  | [] => rfl
  | x :: l => by simp [sortT_app, sortT, sortT_rev l]
theorem sortT_idem : ∀ l : List Tx, sortT (sortT l) = sortT l := fun l => by
  have hs : ∀ l : List Tx, (sortT l).Pairwise (fun a b => ltT b a = false) := fun l => by
    induction l with
    | nil => exact .nil
    | cons x l ih =>
      have hi : ∀ (l : List Tx), l.Pairwise (fun a b => ltT b a = false) → (insT x l).Pairwise (fun a b => ltT b a = false) := fun l h => by
        induction h with
        | nil => simp [insT]
        | @cons z l h1 h2 ih2 =>
          unfold insT
          by_cases c : ltT z x = true
          · rw [if_pos c]
            refine .cons (fun w hw => ?_) ih2
            rcases mem_insT.mp hw with rfl | hw
            · exact ltT_asym c
            · exact h1 w hw
          · rw [if_neg c]
            refine .cons (fun w hw => ?_) (.cons h1 h2)
            rcases List.mem_cons.mp hw with rfl | hw
            · simpa using c
            · cases e : ltT w x
              · rfl
              · rcases txTri w z with h | rfl | h
                · rw [h1 w hw] at h; cases h
                · exact absurd e c
                · exact absurd (txTrans h e) c
      exact hi _ ih
  have : ∀ l : List Tx, l.Pairwise (fun a b => ltT b a = false) → sortT l = l := fun l h => by
    induction h with
    | nil => rfl
    | @cons z l h1 h2 ih =>
      rw [sortT, ih]
      cases l with
      | nil => rfl
      | cons y l => simp [insT, h1 y (List.mem_cons_self)]
  exact this _ (hs l)
theorem txsOf_str : ∀ l : List Tx, txsOf (l.map D.str) = some l
  | [] => rfl
  | x :: l => by simp [txsOf, txsOf_str l]
theorem sorted_lst {s : St} {x : Opd} {l : List Tx} (hd : dctOf s x = none) (hx : listOf s x = some (l.map D.str)) (hl : l.length < 64) : nSorted s [x] = some (.lst ((sortT l).map D.str)) := by
  unfold nSorted
  simp only [hd, hx, List.length_map, hl, if_true]
  cases l with
  | nil => rfl
  | cons a l => 
    have := txsOf_str (a :: l)
    rw [List.map_cons] at this
    rw [List.map_cons, intsOf]
    · rw [this]
    · intro i hi; cases hi
theorem sorted_dct {s : St} {x : Opd} {ps : List (D × D)} {l : List Tx} (hd : dctOf s x = some (0, ps)) (hx : ps.map (·.1) = l.map D.str) (hl : l.length < 64) : nSorted s [x] = some (.lst ((sortT l).map D.str)) := by
  unfold nSorted
  simp only [hd, hx, txsOf_str, hl, if_true]
end Mir
namespace K09
open Mir
abbrev Own := List (Tx × List Row)
def psOf (addr : Tx → Nat) (own : Own) : List (D × D) := own.map fun p => (.str p.1, .ref (addr p.1))
structure RoomsAt (a b : Nat) (addr : Tx → Nat) (own : Own) (st : St) : Prop where
  air : AirAt st a b (psOf addr own)
  rows : ∀ p ∈ own, st[addr p.1]? = some (.lst (p.2.map rowD))
  big : ∀ p ∈ own, a < addr p.1 ∧ b < addr p.1
  inj : ∀ p ∈ own, ∀ q ∈ own, addr p.1 = addr q.1 → p.1 = q.1
  nd : (own.map (·.1)).Nodup
  ne : b < a
def rowsIn (own : Own) (x : Tx) : List Row := ((own.find? fun p => decide (p.1 = x)).map (·.2)).getD []
def keys (own : Own) : List Tx := own.map (·.1)
theorem rowsIn_cons (p : Tx × List Row) (own : Own) (x : Tx) : rowsIn (p :: own) x = if p.1 = x then p.2 else rowsIn own x := by
  unfold rowsIn
  by_cases h : p.1 = x <;> simp [List.find?_cons, h]
theorem rowsIn_mem {own : Own} {x : Tx} (h : x ∈ keys own) : (x, rowsIn own x) ∈ own := by
  induction own with
  | nil => simp [keys] at h
  | cons p own ih =>
    rw [rowsIn_cons]
    by_cases c : p.1 = x
    · rw [if_pos c, ← c]; exact List.mem_cons_self
    · rw [if_neg c]
      refine List.mem_cons_of_mem _ (ih ?_)
      simp only [keys, List.map_cons, List.mem_cons] at h
      rcases h with h | h
      · exact absurd h.symm c
      · exact h
theorem rowsIn_of_mem {own : Own} (nd : (own.map (·.1)).Nodup) {p : Tx × List Row} (h : p ∈ own) : rowsIn own p.1 = p.2 := by
  induction own with
  | nil => cases h
  | cons q own ih =>
    rw [rowsIn_cons]
    simp only [List.map_cons, List.nodup_cons] at nd
    rcases List.mem_cons.mp h with rfl | h
    · exact if_pos rfl
    · by_cases c : q.1 = p.1
      · exact absurd (c ▸ List.mem_map_of_mem h : q.1 ∈ own.map (·.1)) nd.1
      · rw [if_neg c]; exact ih nd.2 h
theorem rowsIn_no {own : Own} {x : Tx} (h : x ∉ keys own) : rowsIn own x = [] := by
  unfold rowsIn
  have : own.find? (fun p => decide (p.1 = x)) = none := by
    rw [List.find?_eq_none]
    intro p hp
    simp only [decide_eq_true_eq]
    rintro rfl
    exact h (List.mem_map_of_mem hp)
  rw [this]
  rfl
theorem look_ps_no {own : Own} {addr : Tx → Nat} {x : Tx} (h : x ∉ keys own) : lookD (psOf addr own) (.str x) = none := by
  unfold lookD psOf
  rw [List.find?_map]
  have : own.find? (fun p => decide (p.1 = x)) = none := by
    rw [List.find?_eq_none]
    intro p hp
    simp only [decide_eq_true_eq]
    rintro rfl
    exact h (List.mem_map_of_mem hp)
  have e : ((fun p : D × D => decide (p.1 = D.str x)) ∘ fun p : Tx × List Row => (D.str p.1, D.ref (addr p.1))) = fun p => decide (p.1 = x) := by funext p; simp
  rw [e, this]
  rfl
theorem look_ps_yes {own : Own} {addr : Tx → Nat} {x : Tx} (h : x ∈ keys own) : lookD (psOf addr own) (.str x) = some (.ref (addr x)) := by
  unfold lookD psOf
  rw [List.find?_map]
  have e : ((fun p : D × D => decide (p.1 = D.str x)) ∘ fun p : Tx × List Row => (D.str p.1, D.ref (addr p.1))) = fun p => decide (p.1 = x) := by funext p; simp
  rw [e]
  cases hf : own.find? (fun p => decide (p.1 = x)) with
  | none =>
    rw [List.find?_eq_none] at hf
    obtain ⟨p, hp, rfl⟩ := List.mem_map.mp h
    exact absurd (by simp) (hf p hp)
  | some p =>
    have := List.find?_some hf
    simp only [decide_eq_true_eq] at this
    simp [this]
theorem RoomsAt.yes {a b : Nat} {addr : Tx → Nat} {own : Own} {st : St} (h : RoomsAt a b addr own st) {x : Tx} (hx : x ∈ keys own) : f_Air_rows_of [.ref a, .str x] st = .ok (.tup ((rowsIn own x).map rowD)) st :=
  rows_of_ok h.air (look_ps_yes hx) (h.rows _ (rowsIn_mem hx))
theorem RoomsAt.no {a b : Nat} {addr : Tx → Nat} {own : Own} {st : St} (h : RoomsAt a b addr own st) {x : Tx} (hx : x ∉ keys own) : f_Air_rows_of [.ref a, .str x] st = .exc 1 st :=
  rows_of_no h.air (look_ps_no hx)
theorem RoomsAt.cur {a b : Nat} {addr : Tx → Nat} {own : Own} {st : St} (h : RoomsAt a b addr own st) (x : Tx) : (lookD (psOf addr own) (.str x) = none ∧ rowsIn own x = []) ∨ ∃ n, lookD (psOf addr own) (.str x) = some (.ref n) ∧ st[n]? = some (.lst ((rowsIn own x).map rowD)) := by
  by_cases hx : x ∈ keys own
  · exact .inr ⟨_, look_ps_yes hx, h.rows _ (rowsIn_mem hx)⟩
  · exact .inl ⟨look_ps_no hx, rowsIn_no hx⟩
/-- a reading taken -/
def ownAdd (own : Own) (x : Tx) (y : Row) : Own := if x ∈ keys own then own.map (fun p => if p.1 = x then (p.1, p.2 ++ [y]) else p) else own ++ [(x, [y])]
theorem keys_map (own : Own) (x : Tx) (y : Row) : (own.map (fun p => if p.1 = x then (p.1, p.2 ++ [y]) else p)).map (·.1) = own.map (·.1) := by
  rw [List.map_map]
  apply List.map_congr_left
  intro p _
  simp only [Function.comp]
  split <;> rfl
theorem keys_add_yes {own : Own} {x : Tx} {y : Row} (h : x ∈ keys own) : keys (ownAdd own x y) = keys own := by
  unfold ownAdd
  rw [if_pos h]
  exact keys_map own x y
theorem keys_add_no {own : Own} {x : Tx} {y : Row} (h : x ∉ keys own) : keys (ownAdd own x y) = keys own ++ [x] := by
  unfold ownAdd
  rw [if_neg h]
  simp [keys]
theorem RoomsAt.read {a b : Nat} {addr : Tx → Nat} {own : Own} {st : St} (h : RoomsAt a b addr own st) (x : Tx) (y : Row) (hg : goodR (rowsIn own x) y = true) (hl : (rowsIn own x).length < 5000) (ho : own.length < lim) :
    ∃ addr' st', f_Air_read [.ref a, .str x, .int y.1, .int y.2.1, .int y.2.2] st = .ok .non st' ∧ RoomsAt a b addr' (ownAdd own x y) st' ∧ ∀ i, i < b → st'[i]? = st[i]? := by
  have hr := read_ok (y := y) h.air (h.cur x) hl (by simpa [psOf] using ho) hg
  have ha : a < st.length := (List.getElem?_eq_some_iff.mp h.air.ins).1
  have hb : b < st.length := (List.getElem?_eq_some_iff.mp h.air.dct).1
  have hab := h.ne
  by_cases hx : x ∈ keys own
  · have hst := h.rows _ (rowsIn_mem hx)
    have hn : addr x < st.length := (List.getElem?_eq_some_iff.mp hst).1
    have hbg := h.big _ (rowsIn_mem hx)
    have e : readSt st b (psOf addr own) x y = st.set (addr x) (.lst ((rowsIn own x ++ [y]).map rowD)) := by
      unfold readSt
      rw [look_ps_yes hx]
      simp [hst]
    have hps : psOf addr (ownAdd own x y) = psOf addr own := by
      have := keys_add_yes (y := y) hx
      unfold psOf
      have q : ∀ o : Own, (o.map fun p => (D.str p.1, D.ref (addr p.1))) = (keys o).map fun k => (D.str k, D.ref (addr k)) := fun o => by simp [keys]
      rw [q, q, this]
    refine ⟨addr, _, hr, ?_, ?_⟩
    · rw [e]
      refine ⟨⟨?_, ?_⟩, ?_, ?_, ?_, ?_, h.ne⟩
      · rw [List.getElem?_set_ne (by simp at hbg; omega)]; exact h.air.ins
      · rw [List.getElem?_set_ne (by simp at hbg; omega), hps]; exact h.air.dct
      · intro p hp
        unfold ownAdd at hp
        rw [if_pos hx] at hp
        obtain ⟨q, hq, rfl⟩ := List.mem_map.mp hp
        by_cases c : q.1 = x
        · subst c
          simp only [if_true]
          rw [List.getElem?_set_self hn, rowsIn_of_mem h.nd hq]
        · rw [if_neg c, List.getElem?_set_ne]
          · exact h.rows q hq
          · intro e2
            exact c (h.inj _ (rowsIn_mem hx) _ hq e2).symm
      · intro p hp
        unfold ownAdd at hp
        rw [if_pos hx] at hp
        obtain ⟨q, hq, rfl⟩ := List.mem_map.mp hp
        have := h.big q hq
        split <;> exact this
      · intro p hp q hq
        unfold ownAdd at hp hq
        rw [if_pos hx] at hp hq
        obtain ⟨p', hp', rfl⟩ := List.mem_map.mp hp
        obtain ⟨q', hq', rfl⟩ := List.mem_map.mp hq
        have := h.inj p' hp' q' hq'
        split <;> split <;> exact this
      · have := keys_add_yes (y := y) hx
        unfold keys at this
        rw [this]
        exact h.nd
    · intro i hi
      rw [e, List.getElem?_set_ne (by simp at hbg; omega)]
  · have hln := look_ps_no (addr := addr) hx
    have e : readSt st b (psOf addr own) x y = (st.set b (.dct 0 (psOf addr own ++ [(.str x, .ref st.length)]))) ++ [.lst [rowD y]] := by
      unfold readSt
      rw [hln]
      simp only [putD, hasD_look, hln]
      rfl
    have hown : ∀ p ∈ own, p.1 ≠ x := fun p hp e => hx (e ▸ List.mem_map_of_mem hp)
    have hlt : ∀ p ∈ own, addr p.1 < st.length := fun p hp => (List.getElem?_eq_some_iff.mp (h.rows p hp)).1
    refine ⟨fun z => if z = x then st.length else addr z, _, hr, ?_, ?_⟩
    · rw [e]
      have hadd : ownAdd own x y = own ++ [(x, [y])] := if_neg hx
      have hps : psOf (fun z => if z = x then st.length else addr z) (ownAdd own x y) = psOf addr own ++ [(.str x, .ref st.length)] := by
        rw [hadd]
        unfold psOf
        rw [List.map_append]
        congr 1
        · apply List.map_congr_left
          intro p hp
          simp [hown p hp]
        · simp
      refine ⟨⟨?_, ?_⟩, ?_, ?_, ?_, ?_, h.ne⟩
      · rw [List.getElem?_append_left (by simpa using ha), List.getElem?_set_ne (by omega)]; exact h.air.ins
      · rw [List.getElem?_append_left (by simpa using hb), List.getElem?_set_self hb, hps]
      · intro p hp
        rw [hadd] at hp
        rcases List.mem_append.mp hp with hp | hp
        · have q := hown p hp
          have := hlt p hp
          have g := h.big p hp
          simp only [if_neg q]
          rw [List.getElem?_append_left (by simpa using this), List.getElem?_set_ne (by omega)]
          exact h.rows p hp
        · simp only [List.mem_singleton] at hp
          subst hp
          simp
      · intro p hp
        rw [hadd] at hp
        rcases List.mem_append.mp hp with hp | hp
        · simp only [if_neg (hown p hp)]; exact h.big p hp
        · simp only [List.mem_singleton] at hp
          subst hp
          simp only [if_true]
          omega
      · intro p hp q hq
        rw [hadd] at hp hq
        rcases List.mem_append.mp hp with hp | hp <;> rcases List.mem_append.mp hq with hq | hq
        · simp only [if_neg (hown p hp), if_neg (hown q hq)]; exact h.inj p hp q hq
        · simp only [List.mem_singleton] at hq
          subst hq
          have := hlt p hp
          simp only [if_neg (hown p hp), if_true]; omega
        · simp only [List.mem_singleton] at hp
          subst hp
          have := hlt q hq
          simp only [if_neg (hown q hq), if_true]; omega
        · simp only [List.mem_singleton] at hp hq
          subst hp; subst hq; intro _; rfl
      · have := keys_add_no (y := y) hx
        unfold keys at this
        rw [this, List.nodup_append]
        refine ⟨h.nd, by simp, ?_⟩
        intro z hz w hw e2
        simp only [List.mem_singleton] at hw
        exact hx (by rw [← hw, ← e2]; exact hz)
    · intro i hi
      rw [e, List.getElem?_append_left (by simp; omega), List.getElem?_set_ne (by omega)]
/-- another cell is changed -/
theorem RoomsAt.set {a b : Nat} {addr : Tx → Nat} {own : Own} {st : St} (h : RoomsAt a b addr own st) {i : Nat} (hi : i < b) (c : Cell) : RoomsAt a b addr own (st.set i c) := by
  have := h.ne
  refine ⟨⟨?_, ?_⟩, ?_, h.big, h.inj, h.nd, h.ne⟩
  · rw [List.getElem?_set_ne (by omega)]; exact h.air.ins
  · rw [List.getElem?_set_ne (by omega)]; exact h.air.dct
  · intro p hp
    have := h.big p hp
    rw [List.getElem?_set_ne (by omega)]
    exact h.rows p hp
/-! ### best_room -/
def fst? (l : List Row) : Int := (l.head?.map (·.1)).getD 0
def lst? (l : List Row) : Int := (l.getLast?.map (·.1)).getD 0
def span (l : List Row) : Int := lst? l - fst? l
abbrev Best := Option (Int × Int × Tx)
def brG (own : Own) (b : Best) (x : Tx) : Best := if 1 < (rowsIn own x).length then
    match b with
    | none => some (wearI (rowsIn own x), span (rowsIn own x), x)
    | some q => if wearI (rowsIn own x) * q.2.1 < q.1 * span (rowsIn own x) then some (wearI (rowsIn own x), span (rowsIn own x), x) else b
  else b
def bestD : Best → D
  | none => .non
  | some q => .tup [.int q.1, .int q.2.1, .str q.2.2]
theorem first_row {l : List Row} (h : l ≠ []) : ∃ y, atD (l.map rowD) 0 = some (rowD y) ∧ y.1 = fst? l := by
  cases l with
  | nil => exact absurd rfl h
  | cons y l => exact ⟨y, by simp [atD, ixD], rfl⟩
theorem lastrow {l : List Row} (h : l ≠ []) : ∃ y, atD (l.map rowD) (-1) = some (rowD y) ∧ y.1 = lst? l ∧ l.getLast? = some y := by
  cases hg : l.getLast? with
  | none => exact absurd (List.getLast?_eq_none_iff.mp hg) h
  | some y => exact ⟨y, last_row hg, by simp [lst?, hg], rfl⟩
@[simp] theorem t3_g0 (st : St) (a b c : D) : oGet st (.val (.tup [a, b, c])) (.val (.int 0)) = some a := by simp [oGet, dctOf, oIx, seqOf, listOf, atD, ixD]
@[simp] theorem t3_g1 (st : St) (a b c : D) : oGet st (.val (.tup [a, b, c])) (.val (.int 1)) = some b := by simp [oGet, dctOf, oIx, seqOf, listOf, atD, ixD]
@[simp] theorem t3_g2 (st : St) (a b c : D) : oGet st (.val (.tup [a, b, c])) (.val (.int 2)) = some c := by simp [oGet, dctOf, oIx, seqOf, listOf, atD, ixD]
def b_br : SM := (sSeq (sSet 4 (eMeth 0 f_Air_rows_of (eV 0) (aCons (eV 3) aNil)))
 (sIf (tE (eOp2 oGt (eOpN oLen (aCons (eV 4) aNil)) (eC (.int 1))))
 (sSeq (sPar 5 6 (.v (eMeth 0 f_Air_wear (eV 0) (aCons (eV 3) aNil))) (.v (eOp2 oSub (eOp2 oGet (eOp2 oGet (eV 4) (eOp1 oNeg (eC (.int 1)))) (eC (.int 0))) (eOp2 oGet (eOp2 oGet (eV 4) (eC (.int 0))) (eC (.int 0))))))
 (sIf (Mir.tOr (tE (eOp2 oIsN (eV 2) (eC .non))) (tE (eOp2 oLt (eOp2 oMul (eV 5) (eOp2 oGet (eV 2) (eC (.int 1)))) (eOp2 oMul (eOp2 oGet (eV 2) (eC (.int 0))) (eV 6)))))
 (sSet 2 (eTup (aCons (eV 5) (aCons (eV 6) (aCons (eV 3) aNil)))))
 sNext))
 sNext))
/-- rows as the law draws them -/
structure RowsOk (l : List Row) : Prop where
  ne : l ≠ []
  len : l.length ≤ 41
  inr : ∀ y ∈ l, InR y ∧ -1 ≤ y.1 ∧ y.1 ≤ 10000
theorem span_small {l : List Row} (h : RowsOk l) : -20000 ≤ span l ∧ span l ≤ 20000 := by
  obtain ⟨y, hy⟩ := List.exists_mem_of_ne_nil l h.ne
  unfold span fst? lst?
  cases h1 : l.head? with
  | none => rw [List.head?_eq_none_iff] at h1; exact absurd h1 h.ne
  | some u =>
    cases h2 : l.getLast? with
    | none => rw [List.getLast?_eq_none_iff] at h2; exact absurd h2 h.ne
    | some v =>
      have a1 := h.inr u (List.mem_of_head? h1)
      have a2 := h.inr v (List.mem_of_getLast? h2)
      simp only [Option.map_some, Option.getD_some]
      omega
theorem small_span {l : List Row} (h : RowsOk l) : small64 (span l) = true := by
  have := span_small h
  simp only [small64, Bool.and_eq_true, decide_eq_true_eq]
  omega
def BestOk (b : Best) : Prop := ∀ q, b = some q → small64 q.2.1 = true
theorem brG_ok {own : Own} {b : Best} {x : Tx} (hb : BestOk b) (h : RowsOk (rowsIn own x)) : BestOk (brG own b x) := by
  intro q hq
  unfold brG at hq
  split at hq
  · split at hq
    · cases hq; exact small_span h
    · split at hq
      · cases hq; exact small_span h
      · exact hb q hq
  · exact hb q hq
theorem br_step {a b : Nat} {addr : Tx → Nat} {own : Own} {st : St} (h : RoomsAt a b addr own st) {x : Tx} (hx : x ∈ keys own) (hr : RowsOk (rowsIn own x)) (be : Best) (hb : BestOk be) (N : D) (u v w : Slot) : ∃ u' v' w', b_br [.val (.ref a), .val N, .val (bestD be), .val (.str x), u, v, w] st = .nx [.val (.ref a), .val N, .val (bestD (brG own be x)), .val (.str x), u', v', w'] st := by
  have hrow := h.yes hx
  have hwear := wear_ok h.air hrow (fun y hy => (hr.inr y hy).1)
  have hsp := small_span hr
  obtain ⟨y0, f1, f2⟩ := first_row hr.ne
  obtain ⟨y1, g1, g2, _⟩ := lastrow hr.ne
  have hlen : ((rowsIn own x).length : Int) ≤ 41 := by have := hr.len; omega
  have hs : span (rowsIn own x) = y1.1 - y0.1 := by unfold span; rw [f2, g2]
  have i0 : oGet st (.val (.tup ((rowsIn own x).map rowD))) (.val (.int 0)) = some (rowD y0) := by simp [oGet, dctOf, oIx, seqOf, f1]
  have i1 : oGet st (.val (.tup ((rowsIn own x).map rowD))) (.val (.int (-1))) = some (rowD y1) := by simp [oGet, dctOf, oIx, seqOf, g1]
  by_cases c : 1 < (rowsIn own x).length
  · have c' : (1 : Int) < ((rowsIn own x).length : Int) := by omega
    have ho : oMul st (.val (.int (wearI (rowsIn own x)))) (.val (.int (y1.1 - y0.1))) = some (.int (wearI (rowsIn own x) * (y1.1 - y0.1))) := by rw [← hs]; exact if_pos (.inr hsp)
    cases be with
    | none =>
      refine ⟨.val (.tup ((rowsIn own x).map rowD)), .val (.int (wearI (rowsIn own x))), .val (.int (span (rowsIn own x))), ?_⟩
      simp [b_br, h.air.ins, hrow, oLen, seqOf, c, c', hwear, i0, i1, bestD, lim, brG, hs]
    | some q =>
      have hq := hb q rfl
      have m1 : oMul st (.val (.int (wearI (rowsIn own x)))) (.val (.int q.2.1)) = some (.int (wearI (rowsIn own x) * q.2.1)) := if_pos (.inr hq)
      have m2 : oMul st (.val (.int q.1)) (.val (.int (y1.1 - y0.1))) = some (.int (q.1 * (y1.1 - y0.1))) := by rw [← hs]; exact if_pos (.inr hsp)
      refine ⟨.val (.tup ((rowsIn own x).map rowD)), .val (.int (wearI (rowsIn own x))), .val (.int (span (rowsIn own x))), ?_⟩
      by_cases d : wearI (rowsIn own x) * q.2.1 < q.1 * (y1.1 - y0.1)
      · simp [b_br, h.air.ins, hrow, oLen, seqOf, c, c', hwear, i0, i1, bestD, lim, brG, hs, m1, m2, d]
      · simp [b_br, h.air.ins, hrow, oLen, seqOf, c, c', hwear, i0, i1, bestD, lim, brG, hs, m1, m2, d]
  · have c' : ¬ (1 : Int) < ((rowsIn own x).length : Int) := by omega
    refine ⟨.val (.tup ((rowsIn own x).map rowD)), v, w, ?_⟩
    simp [b_br, h.air.ins, hrow, oLen, seqOf, c, c', brG]
theorem br_loop {a b : Nat} {addr : Tx → Nat} {own : Own} {st : St} (h : RoomsAt a b addr own st) {N : D} : ∀ (t : List Tx) (be : Best) (z u v w : Slot), (∀ x ∈ t, x ∈ keys own ∧ RowsOk (rowsIn own x)) → BestOk be → ∃ z' u' v' w', forLoop (.nm 3) b_br .free (t.map D.str) [.val (.ref a), .val N, .val (bestD be), z, u, v, w] st = .nx [.val (.ref a), .val N, .val (bestD (t.foldl (brG own) be)), z', u', v', w'] st
  | [], be, z, u, v, w, _, _ => ⟨z, u, v, w, rfl⟩
  | x :: t, be, z, u, v, w, ht, hb => by
    obtain ⟨hx, hr⟩ := ht x List.mem_cons_self
    obtain ⟨u1, v1, w1, h1⟩ := br_step h hx hr be hb N u v w
    obtain ⟨z', u', v', w', ih⟩ := br_loop h (N := N) t (brG own be x) (.val (.str x)) u1 v1 w1 (fun x hx => ht x (List.mem_cons_of_mem _ hx)) (brG_ok hb hr)
    refine ⟨z', u', v', w', ?_⟩
    rw [List.map_cons, for_cons (r1 := [.val (.ref a), .val N, .val (bestD be), .val (.str x), u, v, w]) rfl h1]
    exact ih
theorem best_ok {a b : Nat} {addr : Tx → Nat} {own : Own} {st : St} (h : RoomsAt a b addr own st) {xs : List Tx} (hn : xs.length < 64) (hk : ∀ x ∈ xs, x ∈ keys own ∧ RowsOk (rowsIn own x)) : f_Air_best_room [.ref a, .lst (xs.map D.str)] st = match (sortT xs).foldl (brG own) none with
    | none => .exc 1 st
    | some q => .ok (.str q.2.2) st := by
  obtain ⟨z, u, v, w, hl⟩ := br_loop h (N := .lst (xs.map D.str)) (sortT xs) none .no .no .no .no (fun x hx => hk x (mem_sortT.mp hx)) (fun q hq => by cases hq)
  unfold b_br at hl
  simp only [bestD] at hl
  have hs : nSorted st [.val (.lst (xs.map D.str))] = some (.lst ((sortT xs).map D.str)) := sorted_lst rfl rfl hn
  have key : b_Air_best_room [.val (.ref a), .val (.lst (xs.map D.str)), .no, .no, .no, .no, .no] st = match (sortT xs).foldl (brG own) none with
    | none => .exc 1 [.val (.ref a), .val (.lst (xs.map D.str)), .val .non, z, u, v, w] st
    | some q => .rt (.str q.2.2) st := by
    simp [b_Air_best_room, hs]
    rw [hl]
    cases (sortT xs).foldl (brG own) none with
    | none => simp [bestD]
    | some q => simp [bestD]
  cases hf : (sortT xs).foldl (brG own) none with
  | none => rw [hf] at key; exact fn_exc rfl key
  | some q => rw [hf] at key; exact fn_rt rfl key
theorem best_no {a b : Nat} {addr : Tx → Nat} {own : Own} {st : St} (h : RoomsAt a b addr own st) {x : Tx} (hx : x ∉ keys own) : f_Air_best_room [.ref a, .lst [.str x]] st = .exc 1 st := by
  refine fn_exc rfl (r := [.val (.ref a), .val (.lst [.str x]), .val .non, .val (.str x), .no, .no, .no]) ?_
  have hs : nSorted st [.val (.lst [.str x])] = some (.lst [.str x]) := sorted_lst (l := [x]) rfl rfl (by simp)
  have hrow := h.no hx
  simp [b_Air_best_room, hs]
  rw [for_exc (r1 := [.val (.ref a), .val (.lst [.str x]), .val .non, .val (.str x), .no, .no, .no]) rfl (e := 1) (r2 := [.val (.ref a), .val (.lst [.str x]), .val .non, .val (.str x), .no, .no, .no]) (s2 := st) (by simp [h.air.ins, hrow])]
  rfl
theorem swing_no {a b : Nat} {addr : Tx → Nat} {own : Own} {st : St} (h : RoomsAt a b addr own st) {x : Tx} (hx : x ∉ keys own) (H : Int) : f_Air_swing [.ref a, .str x, .int H] st = .exc 1 st := by
  refine fn_exc rfl (r := [.val (.ref a), .val (.str x), .val (.int H), .no, .no, .no, .no, .no]) ?_
  simp [b_Air_swing, h.air.ins, h.no hx]
theorem wear_no {a b : Nat} {addr : Tx → Nat} {own : Own} {st : St} (h : RoomsAt a b addr own st) {x : Tx} (hx : x ∉ keys own) : f_Air_wear [.ref a, .str x] st = .exc 1 st := by
  refine fn_exc rfl (r := [.val (.ref a), .val (.str x), .no, .no, .no, .no]) ?_
  simp [b_Air_wear, h.air.ins, h.no hx]
theorem outside_no {a b : Nat} {addr : Tx → Nat} {own : Own} {st : St} (h : RoomsAt a b addr own st) {x : Tx} (hx : x ∉ keys own) (p q : D) : f_Air_outside [.ref a, .str x, p, q] st = .exc 1 st := by
  refine fn_exc rfl (r := [.val (.ref a), .val (.str x), .val p, .val q, .own (.lst []), .val .non, .no, .no, .no, .no]) ?_
  simp [b_Air_outside, h.air.ins, h.no hx, lim]
end K09
/-! P7: k09, plain: dice, rolls. -/
namespace Mir
theorem oGet_cell {st : St} {n : Nat} {xs : List D} (h : st[n]? = some (.lst xs)) (i : Int) : oGet st (.val (.ref n)) (.val (.int i)) = atD xs i := by
  simp [oGet, dctOf, h, oIx, seqOf, listOf]
def putLK (r : Env) (d : D) (n : Nat) (k : Int) (s3 : St) : SOut := match s3[n]? with
    | some (.lst xs) => match ixD xs.length k with
      | some j => .nx r (s3.set n (.lst (xs.set j d)))
      | none => .bad
    | _ => .bad
def putLV (r : Env) (x y z : Opd) (s3 : St) : SOut := match x, y, z with
  | .val d, .val (.ref n), .val (.int k) => putLK r d n k s3
  | _, _, _ => .bad
@[simp] theorem putLV_val (r : Env) (d : D) (n : Nat) (k : Int) (s : St) : putLV r (.val d) (.val (.ref n)) (.val (.int k)) s = putLK r d n k s := rfl
def plC (r : Env) (x y z : Opd) (s3 : St) : SOut := putLV r x y z s3
@[simp] theorem plC_ap (r : Env) (x y z : Opd) (s3 : St) : plC r x y z s3 = putLV r x y z s3 := by simp only [plC]
def plB (i : EM) (r : Env) (x y : Opd) (s2 : St) : SOut := sBind r (i r s2) (plC r x y)
@[simp] theorem plB_ap (i : EM) (r : Env) (x y : Opd) (s2 : St) : plB i r x y s2 = sBind r (i r s2) (plC r x y) := by simp only [plB]
def plA (o i : EM) (r : Env) (x : Opd) (s1 : St) : SOut := sBind r (o r s1) (plB i r x)
@[simp] theorem plA_ap (o i : EM) (r : Env) (x : Opd) (s1 : St) : plA o i r x s1 = sBind r (o r s1) (plB i r x) := by simp only [plA]
@[simp] theorem sPutL_ap (o i e : EM) (r : Env) (s : St) : sPutL o i e r s = sBind r (e r s) (plA o i r) := rfl
theorem putLK_at {r : Env} {d : D} {n j : Nat} {k : Int} {s : St} {xs : List D} (h : s[n]? = some (.lst xs)) (hj : ixD xs.length k = some j) : putLK r d n k s = .nx r (s.set n (.lst (xs.set j d))) := by
  unfold putLK
  rw [h]
  dsimp only
  rw [hj]
end Mir
namespace K09
open Mir
def DiceAt (st : St) : Prop := ∃ a b c : Int, st[0]? = some (.lst [.int a, .int b, .int c])
theorem DiceAt.set {st : St} (h : DiceAt st) (a b c : Int) : DiceAt (st.set 0 (.lst [.int a, .int b, .int c])) := by
  obtain ⟨x, y, z, h⟩ := h
  have : 0 < st.length := (List.getElem?_eq_some_iff.mp h).1
  exact ⟨a, b, c, List.getElem?_set_self this⟩
theorem set_set (st : St) (a b : Cell) : (st.set 0 a).set 0 b = st.set 0 b := by cases st <;> rfl
theorem roll_ok {st : St} (h : DiceAt st) (m : Int) (hm : 0 < m ∧ m ≤ 10000) : ∃ v c, f_law_roll [.ref 0, .int m] st = .ok (.int v) (st.set 0 c) ∧ 0 ≤ v ∧ v < m ∧ DiceAt (st.set 0 c) := by
  obtain ⟨a, b, c, h⟩ := h
  have h0 : 0 < st.length := (List.getElem?_eq_some_iff.mp h).1
  have g : ∀ (s : St) (x y z : Int), s[0]? = some (.lst [.int x, .int y, .int z]) → oGet s (.val (.ref 0)) (.val (.int 0)) = some (.int x) ∧ oGet s (.val (.ref 0)) (.val (.int 1)) = some (.int y) ∧ oGet s (.val (.ref 0)) (.val (.int 2)) = some (.int z) := fun s x y z e => by
    refine ⟨?_, ?_, ?_⟩ <;> rw [oGet_cell e] <;> simp [atD, ixD]
  have m0 : m < 1073741824 := by omega
  have mn : ¬ (100000000 < m) := by omega
  have dd : DiceAt st := ⟨a, b, c, h⟩
  have ht : Mir.tOr (tE (eOp2 oEq (eOp2 oGet (eV 0) (eC (.int 2))) (eC (.int 2)))) (Mir.tAnd (tE (eOp2 oEq (eOp2 oGet (eV 0) (eC (.int 2))) (eC (.int 1)))) (tE (eOp2 oGt (eOp2 oGet (eV 0) (eC (.int 0))) (eC (.int 0))))) [.val (.ref 0), .val (.int m), .no] st = .ok (decide (c = 2 ∨ c = 1 ∧ 0 < a)) st := by
    obtain ⟨g0, g1, g2⟩ := g _ _ _ _ h
    by_cases c2 : c = 2
    · subst c2; simp [g2]
    · by_cases c1 : c = 1
      · subst c1; by_cases ha : 0 < a <;> simp [g2, g0, ha]
      · simp [g2, c2, c1]
  by_cases t : c = 2 ∨ c = 1 ∧ 0 < a
  · refine ⟨a % m, .lst [.int (a / m), .int b, .int c], ?_, Int.emod_nonneg _ (by omega), Int.emod_lt_of_pos _ hm.1, dd.set _ _ _⟩
    refine fn_rt rfl ?_
    obtain ⟨g0, g1, g2⟩ := g _ _ _ _ h
    unfold b_law_roll
    rw [sSeq_ap, sIf_ap]
    show seqK (sBind _ (Mir.tOr _ _ [.val (.ref 0), .val (.int m), .no] st) _) _ = _
    rw [ht]
    simp [t, g0, hm.1, m0, putLK_at (k := 0) (j := 0) h rfl]
  · refine ⟨((a * 48271 + b * 69621 + 11) % 2147483647 / 7) % m, .lst [.int ((a * 48271 + b * 69621 + 11) % 2147483647), .int (b + 1), .int 0], ?_, Int.emod_nonneg _ (by omega), Int.emod_lt_of_pos _ hm.1, dd.set _ _ _⟩
    refine fn_rt rfl ?_
    unfold b_law_roll
    rw [sSeq_ap, sIf_ap]
    show seqK (sBind _ (Mir.tOr _ _ [.val (.ref 0), .val (.int m), .no] st) _) _ = _
    rw [ht]
    have e1 : (st.set 0 (.lst [.int a, .int b, .int 0]))[0]? = some (.lst [.int a, .int b, .int 0]) := List.getElem?_set_self h0
    have e2 : (st.set 0 (.lst [.int ((a * 48271 + b * 69621 + 11) % 2147483647), .int b, .int 0]))[0]? = some (.lst [.int ((a * 48271 + b * 69621 + 11) % 2147483647), .int b, .int 0]) := List.getElem?_set_self h0
    have e3 : (st.set 0 (.lst [.int ((a * 48271 + b * 69621 + 11) % 2147483647), .int (b + 1), .int 0]))[0]? = some (.lst [.int ((a * 48271 + b * 69621 + 11) % 2147483647), .int (b + 1), .int 0]) := List.getElem?_set_self h0
    obtain ⟨a0, a1, a2⟩ := g _ _ _ _ e1
    obtain ⟨b0, b1, b2⟩ := g _ _ _ _ e2
    obtain ⟨c0, c1, c2⟩ := g _ _ _ _ e3
    have m1 : ∀ s : St, oMul s (.val (.int a)) (.val (.int 48271)) = some (.int (a * 48271)) := fun s => if_pos (.inr rfl)
    have m2 : ∀ s : St, oMul s (.val (.int b)) (.val (.int 69621)) = some (.int (b * 69621)) := fun s => if_pos (.inr rfl)
    simp [t, putLK_at (k := 2) (j := 2) h rfl, mn, a0, a1, m1, m2]
    rw [putLK_at (k := 0) (j := 0) e1 rfl]
    simp [set_set, b1]
    rw [putLK_at (k := 1) (j := 1) e2 rfl]
    simp [set_set, c0, hm.1]
theorem dice_ok (cell : Int) (st : St) : ∃ a b c : Int, f_law_dice [.int cell] st = .ok (.ref st.length) (st ++ [.lst [.int a, .int b, .int c]]) := by
  have hc : eChain oLt oLt (eOp2 oSub (eC (.int 0)) (eC (.int 10))) (eV 0) (eC (.int 10)) [.val (.int cell)] st = .ok (.val (.bl (decide (-10 < cell) && decide (cell < 10)))) st :=
    chain_int (x := .val (.int (0 - 10))) (y := .val (.int cell)) (z := .val (.int 10)) rfl rfl rfl rfl rfl
  by_cases h : -10 < cell ∧ cell < 10
  · refine ⟨(if cell < 0 then -cell else cell), 0, 2, fn_rt rfl ?_⟩
    unfold b_law_dice
    rw [sSeq_ap, sIf_ap, tE_ap]
    show seqK (sBind _ ((eChain oLt oLt _ _ _ [.val (.int cell)] st).bind _) _) _ = _
    rw [hc]
    simp [h, lim]
  · refine ⟨cell, 1 + cell % 1009, (if (1000000000000000000 : Int) ≤ cell then 1 else 0), fn_rt rfl ?_⟩
    unfold b_law_dice
    rw [sSeq_ap, sIf_ap, tE_ap]
    show seqK (sBind _ ((eChain oLt oLt _ _ _ [.val (.int cell)] st).bind _) _) _ = _
    rw [hc]
    have hh : ¬ (-10 < cell ∧ cell < 10) := h
    have pw : oPow = oPow := rfl
    have p : ∀ s : St, oPow s (.val (.int 10)) (.val (.int 18)) = some (.int 1000000000000000000) := fun s => by simp [oPow]
    simp [hh, lim, p]
theorem rounds_ok (ns : List Int) : ∃ st, f_law_rounds [.scr (ns.map D.int), .int 1] [] = .ok (.lst [.ref 0]) st ∧ DiceAt st ∧ st.length = 1 := by
  have fin : ∀ n : Int, ∃ st u v, forall X, (sSeq (sIf (tE (eOp2 oEq (eV 2) (eFrz (nLst aNil)))) (sSet 2 (eFrz (nLst (aCons (eC (.int 0)) aNil)))) sNext) (sRet (eFrz (nLc (iE (eV 2)) (.nm 3) Mir.tYes (eCall f_law_dice (aCons (eV 3) aNil)) [3])))) [X, .val (.int 1), .val (.lst [.int n]), .no] [] = .rt (.lst [.ref 0]) st ∧ DiceAt st ∧ st.length = 1 ∧ u = v := fun n => by
    obtain ⟨a, b, c, h⟩ := dice_ok n []
    refine ⟨[.lst [.int a, .int b, .int c]], 0, 0, fun X => ⟨?_, ⟨a, b, c, rfl⟩, rfl, rfl⟩⟩
    have he : oEq [] (.val (.lst [.int n])) (.val (.lst [])) = some (.bl false) := by simp [oEq, eqD, look, scalD, shap, shapL, lim, eqv, eqvL]
    simp [he, lim, lcLoop, h]
  have fin0 : ∃ st, forall X, (sSeq (sIf (tE (eOp2 oEq (eV 2) (eFrz (nLst aNil)))) (sSet 2 (eFrz (nLst (aCons (eC (.int 0)) aNil)))) sNext) (sRet (eFrz (nLc (iE (eV 2)) (.nm 3) Mir.tYes (eCall f_law_dice (aCons (eV 3) aNil)) [3])))) [X, .val (.int 1), .val (.lst []), .no] [] = .rt (.lst [.ref 0]) st ∧ DiceAt st ∧ st.length = 1 := by
    obtain ⟨a, b, c, h⟩ := dice_ok 0 []
    refine ⟨[.lst [.int a, .int b, .int c]], fun X => ⟨?_, ⟨a, b, c, rfl⟩, rfl⟩⟩
    have he : oEq [] (.val (.lst [])) (.val (.lst [])) = some (.bl true) := by decide
    simp [he, lim, lcLoop, h]
  cases ns with
  | nil =>
    obtain ⟨st, h⟩ := fin0
    obtain ⟨h1, h2, h3⟩ := h (.val (.scr []))
    refine ⟨st, fn_rt rfl ?_, h2, h3⟩
    unfold b_law_rounds
    rw [sSeq_ap]
    rw [show sSet 2 (eFrz (nSl (eV 0) oNo (oSome (eV 1)))) (List.map Slot.val [D.scr (List.map D.int []), D.int 1] ++ List.replicate (4 - 2) Slot.no) [] = .nx [.val (.scr []), .val (.int 1), .val (.lst []), .no] [] from rfl]
    exact h1
  | cons n ns =>
    obtain ⟨st, u, v, h⟩ := fin n
    obtain ⟨h1, h2, h3, _⟩ := h (.val (.scr ((n :: ns).map D.int)))
    refine ⟨st, fn_rt rfl ?_, h2, h3⟩
    unfold b_law_rounds
    rw [sSeq_ap]
    have hc : cutD (D.int n :: ns.map D.int) none (some 1) = [D.int n] := by
      unfold cutD sIxD
      have : ¬ (1 : Int) < 0 := by omega
      simp only [this, if_false]
      simp [Nat.min_def]
    rw [show sSet 2 (eFrz (nSl (eV 0) oNo (oSome (eV 1)))) (List.map Slot.val [D.scr (List.map D.int (n :: ns)), D.int 1] ++ List.replicate (4 - 2) Slot.no) [] = .nx [.val (.scr ((n :: ns).map D.int)), .val (.int 1), .val (.lst [.int n]), .no] [] by simp [nSl, oNo, oSome, seqL, hc]]
    exact h1
end K09
/-! P8: k09, plain: the readings that the law draws. -/
namespace Mir
def get2K (e : EM) (r : Env) (s1 : St) (x : Opd) (k : EM) (b : Bool) : Out Opd := if b = true then (k r s1).bind fun y s2 => (e r s2).bind fun z s3 => match z with
  | .val w => orBad s3 ((getK s3 x y w).map Opd.val)
  | .bor _ => .bad
  else .bad
theorem eGet2_v {d k e : EM} {r : Env} {s : St} {x : Opd} {y w : D} {t : Nat} {ps : List (D × D)} (hd : d r s = .ok x s) (hx : dctOf s x = some (t, ps)) (hk : k r s = .ok (.val y) s) (he : e r s = .ok (.val w) s) (ho : kOk t y = true) : eGet2 d k e r s = .ok (.val ((lookD ps y).getD w)) s := by
  unfold eGet2
  simp only [op1K_ap, op2B_ap, op2A_ap, acB_ap, acA_ap, opnK_ap, eifK_ap, valK_ap, frK_ap, nwK_ap, truK_ap, taK_ap, toK_ap, tnK_ap, ieK_ap, ienK_ap, no1K_ap, no2B_ap, no2A_ap, nonK_ap, chB_ap, chA_ap, etK_ap, ecK_ap, mtB_ap, mtA_ap, fdA_ap, nlK_ap, rgB_ap, rgA_ap, nlcK_ap, ownK_ap, sroK_ap, parB_ap, parA_ap, sifK_ap, sexK_ap, sfK_ap, apK_ap, hd, bindok, hx, Option.isSome_some, if_true, hk, he, getK, ho, Option.map_some, orBad_some]
theorem nItems_v {d : EM} {r : Env} {s : St} {ps : List (D × D)} (hd : d r s = .ok (.val (.dct 0 ps)) s) : nItems d r s = .ok (.lst (ps.map fun p => .tup [p.1, p.2])) s := by
  unfold nItems
  rw [hd]
  rfl
theorem nCat_v {s : St} {xs ys : List D} (h : xs.length + ys.length ≤ lim) : nCat s (.val (.lst xs)) (.val (.lst ys)) = some (.lst (xs ++ ys)) := if_pos h
theorem nRep_b {s : St} {x : D} (b : Bool) : nRep s (.val (.lst [x])) (.val (.int (if b = true then 1 else 0))) = some (.lst (if b = true then [x] else [])) := by
  cases b <;> simp [nRep, listOf, lim]
theorem pairsOf_map : ∀ ps : List (D × D), (∀ p ∈ ps, flatK p.1 = true) → pairsOf (ps.map fun p => .tup [p.1, p.2]) = some ps
  | [], _ => rfl
  | p :: ps, h => by
    rw [List.map_cons, pairsOf, if_pos (h p List.mem_cons_self), pairsOf_map ps fun q hq => h q (List.mem_cons_of_mem _ hq)]
    rfl
theorem hasD_mem {ps : List (D × D)} {k : D} : hasD ps k = true ↔ k ∈ ps.map (·.1) := by
  unfold hasD
  rw [List.any_eq_true]
  simp only [decide_eq_true_eq, List.mem_map]
theorem merge_nodup : ∀ (acc ps : List (D × D)), ((acc ++ ps).map (·.1)).Nodup → mergeD acc ps = acc ++ ps
  | acc, [], _ => by simp [mergeD]
  | acc, p :: ps, h => by
    have hno : hasD acc p.1 = false := by
      cases e : hasD acc p.1
      · rfl
      · rw [hasD_mem] at e
        rw [List.map_append, List.nodup_append] at h
        exact absurd rfl (h.2.2 _ e p.1 (by simp))
    have : putD acc p.1 p.2 = acc ++ [p] := by simp [putD, hno]
    show mergeD (putD acc p.1 p.2) ps = _
    rw [this, merge_nodup (acc ++ [p]) ps (by simpa using h)]
    simp
theorem merge_app (acc a b : List (D × D)) : mergeD acc (a ++ b) = mergeD (mergeD acc a) b := by unfold mergeD; rw [List.foldl_append]
theorem told_ok {es : List Nat} {ret : Tx} {e : EM} {r : Env} {s s1 : St} {d : D} (h : e r s = .ok (.val d) s1) : eTold es ret e r s = .ok (.val d) s1 := by unfold eTold; rw [h]
theorem told_exc {es : List Nat} {ret : Tx} {e : EM} {r : Env} {s s1 : St} {x : Nat} (h : e r s = .exc x s1) (hx : es.contains x = true) : eTold es ret e r s = .ok (.val (.str ret)) s1 := by unfold eTold; rw [h]; exact if_pos hx
end Mir
namespace K09
open Mir
def ownP (own : Own) : List (D × D) := own.map fun p => (.str p.1, .lst (p.2.map rowD))
structure World (a b : Nat) (own : Own) (st : St) : Prop where
  dice : DiceAt st
  rooms : ∃ addr, RoomsAt a b addr own st
  pos : 0 < b
theorem World.roll {a b : Nat} {own : Own} {st : St} (h : World a b own st) (m : Int) (hm : 0 < m ∧ m ≤ 10000) : ∃ v st', f_law_roll [.ref 0, .int m] st = .ok (.int v) st' ∧ 0 ≤ v ∧ v < m ∧ World a b own st' := by
  obtain ⟨v, c, h1, h2, h3, h4⟩ := roll_ok h.dice m hm
  obtain ⟨addr, hr⟩ := h.rooms
  exact ⟨v, _, h1, h2, h3, h4, ⟨addr, hr.set h.pos c⟩, h.pos⟩
structure OwnOk (n : Nat) (own : Own) : Prop where
  len : own.length ≤ n
  rows : ∀ p ∈ own, p.2 ≠ [] ∧ p.2.length ≤ n ∧ ∀ y ∈ p.2, InR y ∧ -1 ≤ y.1 ∧ y.1 ≤ 30 * (n : Int) + 20
theorem look_own (own : Own) (x : Tx) : (lookD (ownP own) (.str x)).getD (.lst []) = .lst ((rowsIn own x).map rowD) := by
  induction own with
  | nil => rfl
  | cons p own ih =>
    rw [rowsIn_cons]
    unfold ownP lookD at ih ⊢
    rw [List.map_cons, List.find?_cons]
    by_cases c : p.1 = x
    · simp [c]
    · simp [c]
      simpa using ih
theorem look_own_yes {own : Own} {x : Tx} (h : x ∈ keys own) : lookD (ownP own) (.str x) = some (.lst ((rowsIn own x).map rowD)) := by
  have := look_own own x
  cases e : lookD (ownP own) (.str x) with
  | some d => rw [e] at this; simpa using this
  | none =>
    have h2 : hasD (ownP own) (.str x) = true := by
      rw [hasD_mem]
      obtain ⟨p, hp, rfl⟩ := List.mem_map.mp h
      unfold ownP
      rw [List.map_map]
      exact List.mem_map.mpr ⟨p, hp, rfl⟩
    rw [hasD_look, e] at h2
    cases h2
theorem put_own {own : Own} (nd : (own.map (·.1)).Nodup) (x : Tx) (y : Row) : putD (ownP own) (.str x) (.lst ((rowsIn own x ++ [y]).map rowD)) = ownP (ownAdd own x y) := by
  have hk : hasD (ownP own) (.str x) = decide (x ∈ keys own) := by
    by_cases c : x ∈ keys own
    · rw [decide_eq_true c, hasD_look, look_own_yes c]; rfl
    · rw [decide_eq_false c]
      cases e : hasD (ownP own) (.str x)
      · rfl
      · rw [hasD_mem] at e
        unfold ownP at e
        rw [List.map_map] at e
        obtain ⟨p, hp, e2⟩ := List.mem_map.mp e
        simp only [Function.comp, D.str.injEq] at e2
        exact absurd (List.mem_map.mpr ⟨p, hp, e2⟩) c
  unfold putD ownAdd
  rw [hk]
  by_cases c : x ∈ keys own
  · rw [if_pos (decide_eq_true c), if_pos c]
    unfold ownP
    rw [List.map_map, List.map_map]
    apply List.map_congr_left
    intro p hp
    simp only [Function.comp, D.str.injEq]
    by_cases e : p.1 = x
    · subst e; simp [rowsIn_of_mem nd hp]
    · simp [e]
  · rw [if_neg (by simpa using c), if_neg c]
    simp [ownP, rowsIn_no c]
theorem eq_nil {st : St} {x : Opd} {l : List Row} (hx : look st x = some (.lst (l.map rowD))) (hl : l.length ≤ lim) : oEq st x (.val (.lst [])) = some (.bl l.isEmpty) := by
  have := ne_nil hx hl
  unfold oNe oEq at *
  cases e : eqD st x (.val (.lst [])) with
  | none => rw [e] at this; cases this
  | some b =>
    rw [e] at this
    simp at this
    simp [this]
theorem rows_ok {n : Nat} {own : Own} (ho : OwnOk n own) (x : Tx) : (rowsIn own x).length ≤ n ∧ ∀ y ∈ rowsIn own x, InR y ∧ -1 ≤ y.1 ∧ y.1 ≤ 30 * (n : Int) + 20 := by
  by_cases h : x ∈ keys own
  · exact (ho.rows _ (rowsIn_mem h)).2
  · rw [rowsIn_no h]; simp
theorem add_ok {n : Nat} {own : Own} (ho : OwnOk n own) (x : Tx) {y : Row} (hy : InR y ∧ -1 ≤ y.1 ∧ y.1 ≤ 30 * ((n + 1 : Nat) : Int) + 20) : OwnOk (n + 1) (ownAdd own x y) := by
  have up : ∀ p ∈ own, p.2 ≠ [] ∧ p.2.length ≤ n ∧ ∀ y ∈ p.2, InR y ∧ -1 ≤ y.1 ∧ y.1 ≤ 30 * ((n + 1 : Nat) : Int) + 20 := fun p hp => by
    obtain ⟨h1, h2, h3⟩ := ho.rows p hp
    refine ⟨h1, h2, fun y hy => ?_⟩
    obtain ⟨a, b, c⟩ := h3 y hy
    exact ⟨a, b, by omega⟩
  unfold ownAdd
  by_cases h : x ∈ keys own
  · rw [if_pos h]
    refine ⟨by have := ho.len; simp; omega, fun p hp => ?_⟩
    obtain ⟨q, hq, rfl⟩ := List.mem_map.mp hp
    obtain ⟨h1, h2, h3⟩ := up q hq
    split
    · refine ⟨by simp, by simp; omega, fun z hz => ?_⟩
      rcases List.mem_append.mp hz with hz | hz
      · exact h3 z hz
      · simp only [List.mem_singleton] at hz; subst hz; exact hy
    · exact ⟨h1, by omega, h3⟩
  · rw [if_neg h]
    refine ⟨by have := ho.len; simp; omega, fun p hp => ?_⟩
    rcases List.mem_append.mp hp with hp | hp
    · obtain ⟨h1, h2, h3⟩ := up p hp
      exact ⟨h1, by omega, h3⟩
    · simp only [List.mem_singleton] at hp
      subst hp
      refine ⟨by simp, by simp, fun z hz => ?_⟩
      simp only [List.mem_singleton] at hz; subst hz; exact hy
theorem ownP_flat (own : Own) : ∀ p ∈ ownP own, flatK p.1 = true := fun p hp => by
  obtain ⟨q, _, rfl⟩ := List.mem_map.mp hp
  rfl
theorem ownP_nodup {own : Own} (nd : (own.map (·.1)).Nodup) : ((ownP own).map (·.1)).Nodup := by
  unfold ownP
  rw [List.map_map]
  have : ((fun p : D × D => p.1) ∘ fun p : Tx × List Row => (D.str p.1, D.lst (p.2.map rowD))) = D.str ∘ (·.1) := rfl
  rw [this, ← List.map_map]
  exact List.Pairwise.map _ (fun a b h e => h (by simpa using e)) nd
theorem nDict_own {st : St} {own : Own} (nd : (own.map (·.1)).Nodup) (x : Tx) (y : Row) (b : Bool) : nDict st [.val (.lst ((ownP own).map (fun p => .tup [p.1, p.2]) ++ (if b = true then [.tup [.str x, .lst ((rowsIn own x ++ [y]).map rowD)]] else [])))] = some (.dct 0 (ownP (if b = true then ownAdd own x y else own))) := by
  have e : mergeD [] (ownP own) = ownP own := by
    have := merge_nodup [] (ownP own) (by simpa using ownP_nodup nd)
    simpa using this
  cases b
  · simp [nDict, listOf, pairsOf_map _ (ownP_flat own), e]
  · have : (ownP own).map (fun p => D.tup [p.1, p.2]) ++ [D.tup [.str x, .lst ((rowsIn own x ++ [y]).map rowD)]] = (ownP own ++ [(D.str x, D.lst ((rowsIn own x ++ [y]).map rowD))]).map (fun p : D × D => D.tup [p.1, p.2]) := by simp
    simp only [if_true]
    rw [this]
    unfold nDict
    dsimp only [listOf]
    rw [pairsOf_map _ (fun p hp => by
      rcases List.mem_append.mp hp with hp | hp
      · exact ownP_flat own p hp
      · simp only [List.mem_singleton] at hp; subst hp; rfl), Option.map_some, merge_app, e]
    show some (Cell.dct 0 (putD _ _ _)) = _
    rw [put_own nd]
theorem last_ix {l : List Row} {x : Row} (h : l.getLast? = some x) : atD (l.map rowD) ((l.length : Int) - 1) = some (rowD x) := by
  have hl : 0 < l.length := by cases l <;> simp_all
  unfold atD ixD
  have h1 : (0 : Int) ≤ (l.length : Int) - 1 := by omega
  have h2 : (l.length : Int) - 1 < (l.length : Int) := by omega
  have h3 : ((l.length : Int) - 1).toNat = l.length - 1 := by omega
  simp only [List.length_map, h1, h2, h3, if_true, Option.bind_some, List.getElem?_map]
  rw [List.getLast?_eq_getElem?] at h
  rw [h]
  rfl
theorem step_ok {own : Own} {st : St} (h : World 2 1 own st) {n : Nat} (ho : OwnOk n own) (hn : n < 41) (s0 s4 s5 s6 s7 s8 s9 s10 s11 s12 s13 s14 s15 s16 s17 s18 s19 s20 s21 s22 s23 s24 : Slot) :
    ∃ st' own' x5 x6 x7 x8 x9, b_step [s0, .val (.ref 0), .val (.ref 2), .val (.dct 0 (ownP own)), s4, s5, s6, s7, s8, s9, s10, s11, s12, s13, s14, s15, s16, s17, s18, s19, s20, s21, s22, s23, s24] st =
      .nx [s0, .val (.ref 0), .val (.ref 2), .val (.dct 0 (ownP own')), s4, x5, x6, x7, x8, x9, s10, s11, s12, s13, s14, s15, s16, s17, s18, s19, s20, s21, s22, s23, s24] st' ∧ World 2 1 own' st' ∧ OwnOk (n + 1) own' := by
  obtain ⟨k, st1, r1, k0, k3, w1⟩ := h.roll 3 (by omega)
  obtain ⟨x, xc, hx⟩ : ∃ x : Tx, ∃ c : Nat, atD [97, 98, 99] k = some c ∧ x = [c] := by
    have : k = 0 ∨ k = 1 ∨ k = 2 := by omega
    rcases this with rfl | rfl | rfl
    · exact ⟨[97], 97, rfl, rfl⟩
    · exact ⟨[98], 98, rfl, rfl⟩
    · exact ⟨[99], 99, rfl, rfl⟩
  obtain ⟨hlen, hrows⟩ := rows_ok ho x
  have hll : (rowsIn own x).length ≤ lim := by unfold lim; omega
  obtain ⟨addr1, rm1⟩ := w1.rooms
  have nd := rm1.nd
  have a1 : ∀ (R : Slot), eGet2 (eV 3) (eV 5) (eFrz (nLst aNil)) [s0, .val (.ref 0), .val (.ref 2), .val (.dct 0 (ownP own)), s4, .val (.str x), R, s7, s8, s9, s10, s11, s12, s13, s14, s15, s16, s17, s18, s19, s20, s21, s22, s23, s24] st1 = .ok (.val (.lst ((rowsIn own x).map rowD))) st1 := fun R => by
    rw [eGet2_v (x := .val (.dct 0 (ownP own))) (t := 0) (ps := ownP own) (y := .str x) (w := .lst []) rfl rfl rfl rfl rfl, look_own]
  obtain ⟨last, st2, a2, w2, l1, l2, l3⟩ : ∃ last st2, (∀ R, eIf (tE (eOp2 oNe (eV 6) (eFrz (nLst aNil)))) (eOp2 oGet (eOp2 oGet (eV 6) (eOp2 oSub (eOpN oLen (aCons (eV 6) aNil)) (eC (.int 1)))) (eC (.int 0))) (eCall f_law_roll (aCons (eV 1) (aCons (eC (.int 20)) aNil))) [s0, .val (.ref 0), .val (.ref 2), .val (.dct 0 (ownP own)), s4, .val (.str x), .val (.lst ((rowsIn own x).map rowD)), R, s8, s9, s10, s11, s12, s13, s14, s15, s16, s17, s18, s19, s20, s21, s22, s23, s24] st1 = .ok (.val (.int last)) st2) ∧ World 2 1 own st2 ∧ (-1 ≤ last ∧ ((rowsIn own x).getLast? = none → 0 ≤ last)) ∧ last ≤ 30 * (n : Int) + 20 ∧ ∀ y, (rowsIn own x).getLast? = some y → last = y.1 := by
    have hne : ∀ s : St, oNe s (.val (.lst ((rowsIn own x).map rowD))) (.val (.lst [])) = some (.bl (!(rowsIn own x).isEmpty)) := fun s => ne_nil rfl hll
    cases hg : (rowsIn own x).getLast? with
    | none =>
      have he : rowsIn own x = [] := List.getLast?_eq_none_iff.mp hg
      obtain ⟨v, st2, r2, v0, v20, w2⟩ := w1.roll 20 (by omega)
      refine ⟨v, st2, fun R => ?_, w2, ⟨by omega, fun _ => v0⟩, by omega, fun y hy => by cases hy⟩
      rw [he] at hne ⊢
      simp at hne
      simp [lim, hne, r2]
    | some y =>
      have he : (rowsIn own x).isEmpty = false := by cases e : rowsIn own x <;> simp_all
      have hy := hrows y (List.mem_of_getLast? hg)
      refine ⟨y.1, st1, fun R => ?_, w1, ⟨hy.2.1, fun h => by cases h⟩, hy.2.2, fun z hz => by cases hz; rfl⟩
      have ix : oGet st1 (.val (.lst ((rowsIn own x).map rowD))) (.val (.int (((rowsIn own x).length : Int) - 1))) = some (rowD y) := by
        simp only [oGet, dctOf, oIx, seqOf, listOf, Option.bind_some]
        exact last_ix hg
      simp [lim, hne, he, oLen, seqOf, listOf, ix]
  obtain ⟨p, st3, r3, p0, p30, w3⟩ := w2.roll 30 (by omega)
  obtain ⟨q, st4, r4, q0, q9, w4⟩ := w3.roll 9 (by omega)
  obtain ⟨u, st5, r5, u0, u500, w5⟩ := w4.roll 500 (by omega)
  obtain ⟨v, st6, r6, v0, v102, w6⟩ := w5.roll 102 (by omega)
  obtain ⟨y, hy⟩ : ∃ y : Row, y = (last + p - (if q = 0 then 1 else 0), u - 50, v) := ⟨_, rfl⟩
  have good : ∀ s : St, eAnd (eOp2 oLe (eOp2 oGet (eV 8) (eC (.int 2))) (eC (.int 100))) (eOr (eOp2 oEq (eV 6) (eFrz (nLst aNil))) (eOp2 oGt (eOp2 oGet (eV 8) (eC (.int 0))) (eV 7))) [s0, .val (.ref 0), .val (.ref 2), .val (.dct 0 (ownP own)), s4, .val (.str x), .val (.lst ((rowsIn own x).map rowD)), .val (.int last), .val (rowD y), s9, s10, s11, s12, s13, s14, s15, s16, s17, s18, s19, s20, s21, s22, s23, s24] s = .ok (.val (.bl (goodR (rowsIn own x) y))) s := fun s => by
    have he : oEq s (.val (.lst ((rowsIn own x).map rowD))) (.val (.lst [])) = some (.bl (rowsIn own x).isEmpty) := eq_nil rfl hll
    have y2 : y.2.2 = v := by rw [hy]
    have y1 : y.2.1 = u - 50 := by rw [hy]
    have g1 : decide (0 ≤ y.2.2 ∧ y.2.2 ≤ 100) = decide (y.2.2 ≤ 100) := by rw [y2]; simp; omega
    have g2 : decide (-400 ≤ y.2.1 ∧ y.2.1 ≤ 600) = true := by rw [y1]; simp; omega
    unfold goodR
    rw [g1, g2]
    cases hg : (rowsIn own x).getLast? with
    | none =>
      have e0 : rowsIn own x = [] := List.getLast?_eq_none_iff.mp hg
      rw [e0] at he ⊢
      simp at he
      by_cases c : y.2.2 ≤ 100 <;> simp [c, lim, he]
    | some z =>
      have e0 : (rowsIn own x).isEmpty = false := by cases e : rowsIn own x <;> simp_all
      have := l3 z hg
      by_cases c : y.2.2 ≤ 100 <;> simp [c, lim, he, e0, this]
  obtain ⟨addr6, rm6⟩ := w6.rooms
  have hcat : ∀ s : St, nCat s (.val (.lst ((rowsIn own x).map rowD))) (.val (.lst [rowD y])) = some (.lst ((rowsIn own x ++ [y]).map rowD)) := fun s => by
    rw [nCat_v (by simp [lim]; omega)]; simp
  have hlo := ho.len
  have mono : OwnOk (n + 1) own := ⟨by omega, fun p hp => by
    obtain ⟨h1, h2, h3⟩ := ho.rows p hp
    refine ⟨h1, by omega, fun y hy => ?_⟩
    obtain ⟨a, b, c⟩ := h3 y hy
    exact ⟨a, b, by omega⟩⟩
  have fin : ∀ s : St, sSet 3 (eFrz (nOpN nDict (aCons (eFrz (nOp2 nCat (eFrz (nItems (eV 3))) (eFrz (nOp2 nRep (eFrz (nLst (aCons (eTup (aCons (eV 5) (aCons (eFrz (nOp2 nCat (eV 6) (eFrz (nLst (aCons (eV 8) aNil))))) aNil))) aNil))) (eOpN oInt (aCons (eV 9) aNil)))))) aNil))) [s0, .val (.ref 0), .val (.ref 2), .val (.dct 0 (ownP own)), s4, .val (.str x), .val (.lst ((rowsIn own x).map rowD)), .val (.int last), .val (rowD y), .val (.bl (goodR (rowsIn own x) y)), s10, s11, s12, s13, s14, s15, s16, s17, s18, s19, s20, s21, s22, s23, s24] s =
      .nx [s0, .val (.ref 0), .val (.ref 2), .val (.dct 0 (ownP (if goodR (rowsIn own x) y = true then ownAdd own x y else own))), s4, .val (.str x), .val (.lst ((rowsIn own x).map rowD)), .val (.int last), .val (rowD y), .val (.bl (goodR (rowsIn own x) y)), s10, s11, s12, s13, s14, s15, s16, s17, s18, s19, s20, s21, s22, s23, s24] s := fun s => by
    have hi : nItems (eV 3) [s0, .val (.ref 0), .val (.ref 2), .val (.dct 0 (ownP own)), s4, .val (.str x), .val (.lst ((rowsIn own x).map rowD)), .val (.int last), .val (rowD y), .val (.bl (goodR (rowsIn own x) y)), s10, s11, s12, s13, s14, s15, s16, s17, s18, s19, s20, s21, s22, s23, s24] s = .ok (.lst ((ownP own).map fun p => .tup [p.1, p.2])) s := nItems_v rfl
    have hr := fun b => nRep_b (s := s) (x := .tup [.str x, .lst ((rowsIn own x ++ [y]).map rowD)]) b
    have hc2 : nCat s (.val (.lst ((ownP own).map fun p => .tup [p.1, p.2]))) (.val (.lst (if goodR (rowsIn own x) y = true then [.tup [.str x, .lst ((rowsIn own x ++ [y]).map rowD)]] else []))) = some (.lst ((ownP own).map (fun p => .tup [p.1, p.2]) ++ (if goodR (rowsIn own x) y = true then [.tup [.str x, .lst ((rowsIn own x ++ [y]).map rowD)]] else []))) := nCat_v (by
      have : (ownP own).length = own.length := by simp [ownP]
      split <;> simp [this, lim] <;> omega)
    have hd := nDict_own (st := s) nd x y (goodR (rowsIn own x) y)
    rw [sSet_ap, eFrz_ap, nOpN_ap, aCons_ap, eFrz_ap, nOp2_ap, eFrz_ap, hi]
    simp only [op1K_ap, op2B_ap, op2A_ap, acB_ap, acA_ap, opnK_ap, eifK_ap, valK_ap, frK_ap, nwK_ap, truK_ap, taK_ap, toK_ap, tnK_ap, ieK_ap, ienK_ap, no1K_ap, no2B_ap, no2A_ap, nonK_ap, chB_ap, chA_ap, etK_ap, ecK_ap, mtB_ap, mtA_ap, fdA_ap, nlK_ap, rgB_ap, rgA_ap, nlcK_ap, ownK_ap, sroK_ap, parB_ap, parA_ap, sifK_ap, sexK_ap, sfK_ap, apK_ap, bindok, frz_lst, Option.map_some, orBad_some, eFrz_ap, nOp2_ap, nLst_ap, aCons_ap, eTup_ap, eV_ap, List.getElem?_cons_succ, List.getElem?_cons_zero, slotO_val, aNil_ap, valsOf_cons, valsOf_nil, lstK_some, hcat, tupK_some, List.length_cons, List.length_nil, lim, eOpN_ap, oInt_bl, Nat.zero_add, if_true, show 1 ≤ 1000000 by omega, show 1 + 1 ≤ 1000000 by omega, hr, hc2, hd, frz_dct, sBind_ok, setK_val]
    rfl
  have body : ∀ (st7 : St) (T : Bool), eOp2 oEq (eTold [1] [76, 111, 97, 110, 69, 114, 114, 111, 114] (eMeth 0 f_Air_read (eV 2) (aCons (eV 5) (aCons (eOp2 oGet (eV 8) (eC (.int 0))) (aCons (eOp2 oGet (eV 8) (eC (.int 1))) (aCons (eOp2 oGet (eV 8) (eC (.int 2))) aNil)))))) (eC (.str [76, 111, 97, 110, 69, 114, 114, 111, 114])) [s0, .val (.ref 0), .val (.ref 2), .val (.dct 0 (ownP own)), s4, .val (.str x), .val (.lst ((rowsIn own x).map rowD)), .val (.int last), .val (rowD y), .val (.bl (goodR (rowsIn own x) y)), s10, s11, s12, s13, s14, s15, s16, s17, s18, s19, s20, s21, s22, s23, s24] st6 = .ok (.val (.bl (!goodR (rowsIn own x) y))) st7 →
      b_step [s0, .val (.ref 0), .val (.ref 2), .val (.dct 0 (ownP own)), s4, s5, s6, s7, s8, s9, s10, s11, s12, s13, s14, s15, s16, s17, s18, s19, s20, s21, s22, s23, s24] st =
      .nx [s0, .val (.ref 0), .val (.ref 2), .val (.dct 0 (ownP (if goodR (rowsIn own x) y = true then ownAdd own x y else own))), s4, .val (.str x), .val (.lst ((rowsIn own x).map rowD)), .val (.int last), .val (rowD y), .val (.bl (goodR (rowsIn own x) y)), s10, s11, s12, s13, s14, s15, s16, s17, s18, s19, s20, s21, s22, s23, s24] st7 := fun st7 T ht => by
    unfold b_step
    have u1 : sUnp (.tp [(.nm 5), (.nm 6)]) (eTup (aCons (eOp2 oGet (eC (.str [97, 98, 99])) (eCall f_law_roll (aCons (eV 1) (aCons (eC (.int 3)) aNil)))) (aCons (eFrz (nLst aNil)) aNil))) [s0, .val (.ref 0), .val (.ref 2), .val (.dct 0 (ownP own)), s4, s5, s6, s7, s8, s9, s10, s11, s12, s13, s14, s15, s16, s17, s18, s19, s20, s21, s22, s23, s24] st = .nx [s0, .val (.ref 0), .val (.ref 2), .val (.dct 0 (ownP own)), s4, .val (.str x), .val (.lst []), s7, s8, s9, s10, s11, s12, s13, s14, s15, s16, s17, s18, s19, s20, s21, s22, s23, s24] st1 := by
      have gk : oGet st1 (.val (.str [97, 98, 99])) (.val (.int k)) = some (.str x) := by
        obtain ⟨hx1, hx2⟩ := hx
        simp only [oGet, dctOf, oIx]
        rw [if_pos (by decide), hx1, hx2]
        rfl
      simp [r1, gk, lim]
    rw [sSeq_ap, u1, seqK_nx, sSeq_ap, sSet_ap, a1]
    simp only [op1K_ap, op2B_ap, op2A_ap, acB_ap, acA_ap, opnK_ap, eifK_ap, valK_ap, frK_ap, nwK_ap, truK_ap, taK_ap, toK_ap, tnK_ap, ieK_ap, ienK_ap, no1K_ap, no2B_ap, no2A_ap, nonK_ap, chB_ap, chA_ap, etK_ap, ecK_ap, mtB_ap, mtA_ap, fdA_ap, nlK_ap, rgB_ap, rgA_ap, nlcK_ap, ownK_ap, sroK_ap, parB_ap, parA_ap, sifK_ap, sexK_ap, sfK_ap, apK_ap, sBind_ok, setK_val, List.length_cons, List.length_nil, Nat.reduceAdd, Nat.reduceLT, if_true, seqK_nx, List.set_cons_succ, List.set_cons_zero]
    rw [sSeq_ap, sSet_ap, a2]
    simp only [op1K_ap, op2B_ap, op2A_ap, acB_ap, acA_ap, opnK_ap, eifK_ap, valK_ap, frK_ap, nwK_ap, truK_ap, taK_ap, toK_ap, tnK_ap, ieK_ap, ienK_ap, no1K_ap, no2B_ap, no2A_ap, nonK_ap, chB_ap, chA_ap, etK_ap, ecK_ap, mtB_ap, mtA_ap, fdA_ap, nlK_ap, rgB_ap, rgA_ap, nlcK_ap, ownK_ap, sroK_ap, parB_ap, parA_ap, sifK_ap, sexK_ap, sfK_ap, apK_ap, sBind_ok, setK_val, List.length_cons, List.length_nil, Nat.reduceAdd, Nat.reduceLT, if_true, seqK_nx, List.set_cons_succ, List.set_cons_zero]
    have a3 : eTup (aCons (eOp2 oSub (eOp2 oAdd (eV 7) (eCall f_law_roll (aCons (eV 1) (aCons (eC (.int 30)) aNil)))) (eOpN oInt (aCons (eOp2 oEq (eCall f_law_roll (aCons (eV 1) (aCons (eC (.int 9)) aNil))) (eC (.int 0))) aNil))) (aCons (eOp2 oSub (eCall f_law_roll (aCons (eV 1) (aCons (eC (.int 500)) aNil))) (eC (.int 50))) (aCons (eCall f_law_roll (aCons (eV 1) (aCons (eC (.int 102)) aNil))) aNil))) [s0, .val (.ref 0), .val (.ref 2), .val (.dct 0 (ownP own)), s4, .val (.str x), .val (.lst ((rowsIn own x).map rowD)), .val (.int last), s8, s9, s10, s11, s12, s13, s14, s15, s16, s17, s18, s19, s20, s21, s22, s23, s24] st2 = .ok (.val (rowD y)) st6 := by
      simp [r3, r4, r5, r6, lim, hy, rowD]
    rw [sSeq_ap, sSet_ap, a3]
    simp only [op1K_ap, op2B_ap, op2A_ap, acB_ap, acA_ap, opnK_ap, eifK_ap, valK_ap, frK_ap, nwK_ap, truK_ap, taK_ap, toK_ap, tnK_ap, ieK_ap, ienK_ap, no1K_ap, no2B_ap, no2A_ap, nonK_ap, chB_ap, chA_ap, etK_ap, ecK_ap, mtB_ap, mtA_ap, fdA_ap, nlK_ap, rgB_ap, rgA_ap, nlcK_ap, ownK_ap, sroK_ap, parB_ap, parA_ap, sifK_ap, sexK_ap, sfK_ap, apK_ap, sBind_ok, setK_val, List.length_cons, List.length_nil, Nat.reduceAdd, Nat.reduceLT, if_true, seqK_nx, List.set_cons_succ, List.set_cons_zero]
    rw [sSeq_ap, sSet_ap, good]
    simp only [op1K_ap, op2B_ap, op2A_ap, acB_ap, acA_ap, opnK_ap, eifK_ap, valK_ap, frK_ap, nwK_ap, truK_ap, taK_ap, toK_ap, tnK_ap, ieK_ap, ienK_ap, no1K_ap, no2B_ap, no2A_ap, nonK_ap, chB_ap, chA_ap, etK_ap, ecK_ap, mtB_ap, mtA_ap, fdA_ap, nlK_ap, rgB_ap, rgA_ap, nlcK_ap, ownK_ap, sroK_ap, parB_ap, parA_ap, sifK_ap, sexK_ap, sfK_ap, apK_ap, sBind_ok, setK_val, List.length_cons, List.length_nil, Nat.reduceAdd, Nat.reduceLT, if_true, seqK_nx, List.set_cons_succ, List.set_cons_zero]
    rw [sSeq_ap, sIf_ap, tE_ap, eOp2_ap, ht]
    have : decide ((!goodR (rowsIn own x) y) = goodR (rowsIn own x) y) = false := by cases goodR (rowsIn own x) y <;> rfl
    simp only [op1K_ap, op2B_ap, op2A_ap, acB_ap, acA_ap, opnK_ap, eifK_ap, valK_ap, frK_ap, nwK_ap, truK_ap, taK_ap, toK_ap, tnK_ap, ieK_ap, ienK_ap, no1K_ap, no2B_ap, no2A_ap, nonK_ap, chB_ap, chA_ap, etK_ap, ecK_ap, mtB_ap, mtA_ap, fdA_ap, nlK_ap, rgB_ap, rgA_ap, nlcK_ap, ownK_ap, sroK_ap, parB_ap, parA_ap, sifK_ap, sexK_ap, sfK_ap, apK_ap, bindok, eV_ap, List.getElem?_cons_succ, List.getElem?_cons_zero, slotO_val, oEq_bl, this, Option.map_some, orBad_some, teK_bl, sBind_ok, Bool.false_eq_true, if_false, sNext_ap, seqK_nx]
    exact fin st7
  have hm : ∀ s, eMeth 0 f_Air_read (eV 2) (aCons (eV 5) (aCons (eOp2 oGet (eV 8) (eC (.int 0))) (aCons (eOp2 oGet (eV 8) (eC (.int 1))) (aCons (eOp2 oGet (eV 8) (eC (.int 2))) aNil)))) [s0, .val (.ref 0), .val (.ref 2), .val (.dct 0 (ownP own)), s4, .val (.str x), .val (.lst ((rowsIn own x).map rowD)), .val (.int last), .val (rowD y), .val (.bl (goodR (rowsIn own x) y)), s10, s11, s12, s13, s14, s15, s16, s17, s18, s19, s20, s21, s22, s23, s24] st6 = s → s = (f_Air_read [.ref 2, .str x, .int y.1, .int y.2.1, .int y.2.2] st6).bind valK := fun s e => by
    rw [← e]
    simp [rm6.air.ins]
  cases hg : goodR (rowsIn own x) y with
  | true =>
    obtain ⟨addr7, st7, hrd, rm7, hlow⟩ := rm6.read x y hg (by omega) (by unfold lim; omega)
    have w7 : World 2 1 (ownAdd own x y) st7 := by
      refine ⟨?_, ⟨addr7, rm7⟩, by omega⟩
      obtain ⟨a, b, c, hd⟩ := w6.dice
      exact ⟨a, b, c, by rw [hlow 0 (by omega)]; exact hd⟩
    have := body st7 true (by
      have e := hm _ rfl
      rw [hrd, bindok, valK_ap] at e
      rw [eOp2_ap, told_ok e]
      rw [hg]
      rfl)
    rw [hg, if_pos rfl] at this
    refine ⟨st7, ownAdd own x y, _, _, _, _, _, this, w7, add_ok ho x ?_⟩
    have hb : (0 : Int) ≤ (if q = 0 then 1 else 0) ∧ (if q = 0 then (1 : Int) else 0) ≤ 1 := by split <;> omega
    have y0 : y.1 = last + p - (if q = 0 then 1 else 0) := by rw [hy]
    have y1 : y.2.1 = u - 50 := by rw [hy]
    generalize (if q = 0 then (1 : Int) else 0) = bq at hb y0
    refine ⟨by unfold InR; omega, ?_, by omega⟩
    unfold goodR at hg
    simp only [Bool.and_eq_true] at hg
    cases hgl : (rowsIn own x).getLast? with
    | none =>
      have := l1.2 hgl
      omega
    | some z =>
      have h1 := hg.1
      rw [hgl] at h1
      simp only [decide_eq_true_eq] at h1
      have := l3 z hgl
      omega
  | false =>
    have hrd := read_no (y := y) rm6.air (rm6.cur x) hll hg
    have := body st6 true (by
      have e := hm _ rfl
      rw [hrd, bindexc] at e
      rw [eOp2_ap, told_exc e rfl]
      rw [hg]
      rfl)
    rw [hg, if_neg (by simp)] at this
    exact ⟨st6, own, _, _, _, _, _, this, w6, mono⟩
end K09
/-! P9: k09, plain: one room of the law. -/
namespace Mir
/-- the same but for some slots -/
structure Ag (S : List Nat) (r r' : Env) : Prop where
  len : r'.length = r.length
  same : ∀ i, i ∉ S → r'[i]? = r[i]?
theorem Ag.refl (S : List Nat) (r : Env) : Ag S r r := ⟨rfl, fun _ _ => rfl⟩
theorem Ag.trans {S : List Nat} {r r1 r2 : Env} (h : Ag S r r1) (k : Ag S r1 r2) : Ag S r r2 := ⟨k.len.trans h.len, fun i hi => (k.same i hi).trans (h.same i hi)⟩
theorem Ag.mono {S T : List Nat} {r r' : Env} (h : Ag S r r') (st : ∀ i ∈ S, i ∈ T) : Ag T r r' := ⟨h.len, fun i hi => h.same i fun hs => hi (st i hs)⟩
theorem Ag.set {S : List Nat} (r : Env) (i : Nat) (x : Slot) (h : i ∈ S) : Ag S r (r.set i x) := ⟨by simp, fun j hj => List.getElem?_set_ne (fun e => hj (by rw [← e]; exact h))⟩
theorem Ag.get {S : List Nat} {r r' : Env} (h : Ag S r r') {i : Nat} {x : Option Slot} (hx : r[i]? = x) (hi : S.contains i = false := by rfl) : r'[i]? = x := by
  rw [h.same i (by simpa using hi)]; exact hx
theorem set_get {r : Env} {i : Nat} {x : Slot} (h : i < r.length) : (r.set i x)[i]? = some x := List.getElem?_set_self h
/-- places of a list -/
def idxD {α : Type} : Nat → List α → List D
  | _, [] => []
  | k, _ :: t => .int (k : Int) :: idxD (k + 1) t
theorem range_idx {α : Type} : ∀ (t : List α) (k : Nat), rangeD (k : Int) ((k : Int) + (t.length : Int)) = idxD k t
  | [], k => by simp [rangeD, idxD]
  | y :: t, k => by
    have ih := range_idx t (k + 1)
    have e : ((k + 1 : Nat) : Int) + (t.length : Int) = (k : Int) + ((t.length + 1 : Nat) : Int) := by omega
    rw [e] at ih
    rw [idxD, ← ih]
    unfold rangeD
    have h1 : ((k : Int) + ((t.length + 1 : Nat) : Int) - (k : Int)).toNat = t.length + 1 := by omega
    have h2 : ((k : Int) + ((t.length + 1 : Nat) : Int) - ((k + 1 : Nat) : Int)).toNat = t.length := by omega
    rw [List.length_cons, h1, h2, List.range_succ_eq_map, List.map_cons, List.map_map]
    congr 1
    · simp
      intro a _
      omega
/-- what a comprehension over places gives: c and v see the rest of the list -/
def sufMap {α β : Type} (c : List α → Bool) (v : List α → β) (u : List α) : List α → List β
  | [] => []
  | y :: t => if c (y :: t ++ u) = true then v (y :: t ++ u) :: sufMap c v u t else sufMap c v u t
theorem sufMap_len {α β : Type} (c : List α → Bool) (v : List α → β) (u : List α) : ∀ t : List α, (sufMap c v u t).length ≤ t.length
  | [] => Nat.le_refl _
  | y :: t => by
    have := sufMap_len c v u t
    unfold sufMap
    split <;> simp <;> omega
theorem lc_idx {α : Type} {tg : Tg} {t : TM} {e : EM} {vs : List Nat} {r : Env} {s : St} (l : List α) (c : List α → Bool) (v : List α → D) (u : List α)
    (h : ∀ (k : Nat) (y : α) (w : List α), l.drop k = y :: w → u.length ≤ w.length → ∃ r1, bindT tg (.int (k : Int)) (wipeE vs r) = some r1 ∧ t r1 s = .ok (c (y :: w)) s ∧ (c (y :: w) = true → e r1 s = .ok (.val (v (y :: w))) s)) :
    ∀ (z : List α) (k : Nat) (acc : List D), l.drop k = z ++ u → acc.length + z.length ≤ lim → lcLoop tg t e vs .free r (idxD k z) acc s = .ok (acc ++ sufMap c v u z) s
  | [], k, acc, _, _ => by simp [lcLoop, idxD, sufMap]
  | y :: z, k, acc, hk, hl => by
    have hl' : acc.length + (z.length + 1) ≤ lim := hl
    obtain ⟨r1, h1, h2, h3⟩ := h k y (z ++ u) hk (by simp)
    have hd : l.drop (k + 1) = z ++ u := by rw [← List.drop_drop, hk]; rfl
    have rest := fun acc' hl => lc_idx l c v u h z (k + 1) acc' hd hl
    unfold idxD lcLoop
    rw [h1]
    dsimp only
    rw [h2]
    cases hc : c (y :: (z ++ u)) with
    | true =>
      dsimp only
      rw [h3 hc]
      dsimp only
      rw [if_pos ⟨rfl, by omega⟩, rest (acc ++ [v (y :: (z ++ u))]) (by simp; omega)]
      simp [sufMap, hc]
    | false =>
      dsimp only
      rw [if_pos (show Watch.free.ok s = true from rfl), rest acc (by omega)]
      simp [sufMap, hc]
theorem lc_img {β : Type} {tg : Tg} {t : TM} {e : EM} {vs : List Nat} {r : Env} {s : St} (f : β → D) (c : β → Bool) (v : β → D) : ∀ (l : List β) (acc : List D), (∀ z ∈ l, ∃ r1, bindT tg (f z) (wipeE vs r) = some r1 ∧ t r1 s = .ok (c z) s ∧ (c z = true → e r1 s = .ok (.val (v z)) s)) → acc.length + l.length ≤ lim →
    lcLoop tg t e vs .free r (l.map f) acc s = .ok (acc ++ (l.filter c).map v) s
  | [], acc, _, _ => by simp [lcLoop]
  | d :: ds, acc, h, hl => by
    obtain ⟨r1, h1, h2, h3⟩ := h d List.mem_cons_self
    have hl' : acc.length + (ds.length + 1) ≤ lim := hl
    have rest := fun acc' hl => lc_img f c v ds acc' (fun d hd => h d (List.mem_cons_of_mem _ hd)) hl
    rw [List.map_cons]
    unfold lcLoop
    rw [h1]
    dsimp only
    rw [h2]
    cases hc : c d with
    | true =>
      dsimp only
      rw [h3 hc]
      dsimp only
      rw [if_pos ⟨rfl, by omega⟩, rest (acc ++ [v d]) (by simp; omega)]
      simp [hc]
    | false =>
      dsimp only
      rw [if_pos (show Watch.free.ok s = true from rfl), rest acc (by omega)]
      simp [hc]
/-! == of a thing with itself -/
mutual
theorem eqv_refl : ∀ (d : D) (k : Nat), shap k d = true → eqv d d = true
  | .non, _, _ => rfl
  | .bl _, _, _ => by simp [eqv]
  | .int _, _, _ => by simp [eqv]
  | .str _, _, _ => by simp [eqv]
  | .lst xs, 0, h => by simp [shap] at h
  | .tup xs, 0, h => by simp [shap] at h
  | .ktp xs, 0, h => by simp [shap] at h
  | .lst xs, k + 1, h => by
    simp only [shap, Bool.and_eq_true] at h
    simp only [eqv]
    exact eqvL_refl xs k h.2
  | .tup xs, k + 1, h => by
    simp only [shap, Bool.and_eq_true] at h
    simp only [eqv]
    exact eqvL_refl xs k h.2
  | .ktp xs, k + 1, h => by
    simp only [shap, Bool.and_eq_true] at h
    simp only [eqv]
    exact eqvL_refl xs k h.2
  | .ref _, 0, h => by simp [shap] at h
  | .ref _, _ + 1, h => by simp [shap] at h
  | .dct _ _, 0, h => by simp [shap] at h
  | .dct _ _, _ + 1, h => by simp [shap] at h
  | .obj _ _, 0, h => by simp [shap] at h
  | .obj _ _, _ + 1, h => by simp [shap] at h
  | .lam _, 0, h => by simp [shap] at h
  | .lam _, _ + 1, h => by simp [shap] at h
  | .scr _, 0, h => by simp [shap] at h
  | .scr _, _ + 1, h => by simp [shap] at h
theorem eqvL_refl : ∀ (ds : List D) (k : Nat), shapL k ds = true → eqvL ds ds = true
  | [], _, _ => rfl
  | d :: ds, k, h => by
    simp only [shapL, Bool.and_eq_true] at h
    simp only [eqvL, Bool.and_eq_true]
    exact ⟨eqv_refl d k h.1, eqvL_refl ds k h.2⟩
end
theorem shapL_map {α : Type} (f : α → D) (k : Nat) (h : ∀ x, shap k (f x) = true) : ∀ l : List α, shapL k (l.map f) = true
  | [] => rfl
  | x :: l => by simp [shapL, h x, shapL_map f k h l]
theorem eqD_refl {s : St} {d : D} (h0 : ∀ n, d ≠ .ref n) (h : shap 20 d = true) : eqD s (.val d) (.val d) = some true := by
  have hl : look s (.val d) = some d := by
    unfold look
    cases d <;> first | rfl | (exact absurd rfl (h0 _))
  unfold eqD
  rw [hl]
  dsimp only
  split
  · simp
  · simp only [h, and_self, if_true, eqv_refl d 20 h]
theorem ne_refl {s : St} {d : D} (h0 : ∀ n, d ≠ .ref n) (h : shap 20 d = true) : oNe s (.val d) (.val d) = some (.bl false) := by
  unfold oNe; rw [eqD_refl h0 h]; rfl
theorem intsOf_map : ∀ l : List Int, intsOf (l.map D.int) = some l
  | [] => rfl
  | x :: l => by simp [intsOf, intsOf_map l]
theorem oMaxL_v {s : St} {l : List Int} (h : l ≠ []) : oMaxL s [.val (.lst (l.map D.int))] = some (.int (maxI l)) := by
  simp [oMaxL, listOf, intsOf_map, h]
theorem oSum_v {s : St} {l : List Int} : oSum s [.val (.lst (l.map D.int))] = some (.int l.sum) := by
  simp [oSum, listOf, intsOf_map]
theorem atD_nat {α : Type} (l : List α) (k : Nat) : atD l (k : Int) = l[k]? := by
  unfold atD ixD
  have h0 : (0 : Int) ≤ (k : Int) := by omega
  simp only [h0, if_true]
  by_cases h : k < l.length
  · have : (k : Int) < (l.length : Int) := by omega
    simp [this]
  · have : ¬ (k : Int) < (l.length : Int) := by omega
    simp only [this, if_false, Option.bind_none]
    rw [List.getElem?_eq_none (by omega)]
theorem oLen_lst {s : St} (xs : List D) : oLen s [.val (.lst xs)] = some (.int (xs.length : Int)) := rfl
theorem get_lst {s : St} {xs : List D} (k : Nat) : oGet s (.val (.lst xs)) (.val (.int (k : Int))) = xs[k]? := by
  simp only [oGet, dctOf, oIx, seqOf, listOf, Option.bind_some]
  exact atD_nat xs k
theorem drop_get {α : Type} {l : List α} {k : Nat} {y : α} {t : List α} (h : l.drop k = y :: t) : l[k]? = some y := by
  have : (l.drop k)[0]? = some y := by rw [h]; rfl
  rw [List.getElem?_drop] at this
  exact this
end Mir
namespace K09
open Mir
theorem get_rows {s : St} {l : List Row} {k : Nat} {y : Row} {t : List Row} (h : l.drop k = y :: t) : oGet s (.val (.lst (l.map rowD))) (.val (.int (k : Int))) = some (rowD y) := by
  rw [get_lst, List.getElem?_map, drop_get h]; rfl
/-! ### the pairs -/
def pairOf (x y : Row) : Int × Int := (ab (y.2.1 - x.2.1), ab (y.2.2 - x.2.2))
def near (H : Int) (x y : Row) : Bool := decide (y.1 - x.1 ≤ H)
def pairsI (H : Int) : List Row → List (Int × Int)
  | [] => []
  | x :: t => ((x :: t).filter (near H x)).map (pairOf x) ++ pairsI H t
theorem sufMap_head {α β : Type} (c : α → Bool) (v : α → β) (d : List α → α) (hd : ∀ y t, d (y :: t) = y) : ∀ l : List α, sufMap (fun s => c (d s)) (fun s => v (d s)) [] l = (l.filter c).map v
  | [] => rfl
  | y :: l => by
    unfold sufMap
    simp only [List.append_nil, hd, sufMap_head c v d hd l]
    cases h : c y <;> simp [h]
theorem pairs_step {r : Env} {s : St} {l : List Row} {H : Int} {acc : List (Int × Int)} {k : Nat} {x : Row} {t : List Row} (hlen : r.length = 25) (h6 : r[6]? = some (.val (.lst (l.map rowD)))) (h11 : r[11]? = some (.val (.int H))) (h12 : r[12]? = some (.val (.lst (acc.map pairD)))) (h13 : r[13]? = some (.val (.int (k : Int)))) (hk : l.drop k = x :: t) (hl : l.length ≤ 41) (ha : acc.length + 41 ≤ lim) :
    b_pairs r s = .nx (r.set 12 (.val (.lst ((acc ++ ((x :: t).filter (near H x)).map (pairOf x)).map pairD)))) s := by
  have hlt : (x :: t).length = l.length - k := by rw [← hk, List.length_drop]
  have hkl : k + (x :: t).length = l.length := by simp at hlt ⊢; omega
  have hrng : Mir.iRng2 (eV 13) (eOpN oLen (aCons (eV 6) aNil)) r s = .ok (idxD k (x :: t), .free) s := by
    have := range_idx (x :: t) k
    rw [show (k : Int) + ((x :: t).length : Int) = (l.length : Int) by omega] at this
    simp only [op1K_ap, op2B_ap, op2A_ap, acB_ap, acA_ap, opnK_ap, eifK_ap, valK_ap, frK_ap, nwK_ap, truK_ap, taK_ap, toK_ap, tnK_ap, ieK_ap, ienK_ap, no1K_ap, no2B_ap, no2A_ap, nonK_ap, chB_ap, chA_ap, etK_ap, ecK_ap, mtB_ap, mtA_ap, fdA_ap, nlK_ap, rgB_ap, rgA_ap, nlcK_ap, ownK_ap, sroK_ap, parB_ap, parA_ap, sifK_ap, sexK_ap, sfK_ap, apK_ap, iRng2_ap, eV_ap, h13, slotO_val, bindok, eOpN_ap, aCons_ap, aNil_ap, h6, oLen_lst, List.length_map, Option.map_some, orBad_some]
    rw [rng2K_int s (by omega), this]
  have hlc := lc_idx (tg := .nm 22) (t := tE (eOp2 oLe (eOp2 oSub (eOp2 oGet (eOp2 oGet (eV 6) (eV 22)) (eC (.int 0))) (eOp2 oGet (eOp2 oGet (eV 6) (eV 13)) (eC (.int 0)))) (eV 11))) (e := eTup (aCons (eOpN oAbs (aCons (eOp2 oSub (eOp2 oGet (eOp2 oGet (eV 6) (eV 22)) (eC (.int 1))) (eOp2 oGet (eOp2 oGet (eV 6) (eV 13)) (eC (.int 1)))) aNil)) (aCons (eOpN oAbs (aCons (eOp2 oSub (eOp2 oGet (eOp2 oGet (eV 6) (eV 22)) (eC (.int 2))) (eOp2 oGet (eOp2 oGet (eV 6) (eV 13)) (eC (.int 2)))) aNil)) aNil))) (vs := [22]) (r := r) (s := s) l (fun w => near H x (w.headD x)) (fun w => pairD (pairOf x (w.headD x))) []
    (fun j y w hj _ => by
      have h22 : 22 < r.length := by omega
      refine ⟨r.set 22 (.val (.int (j : Int))), by simp [h22], ?_, fun _ => ?_⟩
      · simp [h6, h11, h13, h22, get_rows hj, get_rows hk, near]
      · simp [h6, h11, h13, h22, get_rows hj, get_rows hk, pairD, pairOf, ab, lim]) (x :: t) k [] (by simp [hk]) (by simp at hkl; simp [lim]; omega)
  rw [List.nil_append, sufMap_head (near H x) (fun y => pairD (pairOf x y)) (fun w => w.headD x) (fun _ _ => rfl)] at hlc
  have hcat : nCat s (.val (.lst (acc.map pairD))) (.val (.lst (((x :: t).filter (near H x)).map fun y => pairD (pairOf x y)))) = some (.lst ((acc ++ ((x :: t).filter (near H x)).map (pairOf x)).map pairD)) := by
    have hf : ((x :: t).filter (near H x)).length ≤ (x :: t).length := List.length_filter_le _ _
    rw [nCat_v (by simp only [List.length_map]; omega)]
    simp
  unfold b_pairs
  rw [sSet_ap, eFrz_ap, nOp2_ap, eV_ap, h12, slotO_val, bindok, no2A_ap, eFrz_ap, nLc_ap, hrng]
  simp only [op1K_ap, op2B_ap, op2A_ap, acB_ap, acA_ap, opnK_ap, eifK_ap, valK_ap, frK_ap, nwK_ap, truK_ap, taK_ap, toK_ap, tnK_ap, ieK_ap, ienK_ap, no1K_ap, no2B_ap, no2A_ap, nonK_ap, chB_ap, chA_ap, etK_ap, ecK_ap, mtB_ap, mtA_ap, fdA_ap, nlK_ap, rgB_ap, rgA_ap, nlcK_ap, ownK_ap, sroK_ap, parB_ap, parA_ap, sifK_ap, sexK_ap, sfK_ap, apK_ap, bindok, wok_free, if_true, hlc, lcRes_ok, frz_lst, Option.map_some, orBad_some, hcat, sBind_ok, setK_val, hlen, show (12 : Nat) < 25 by omega]
theorem pairs_loop {l : List Row} {H : Int} {s : St} (hl : l.length ≤ 41) : ∀ (t : List Row) (k : Nat) (acc : List (Int × Int)) (r : Env), l.drop k = t → acc.length + t.length * 41 ≤ 10000 → r.length = 25 → r[6]? = some (.val (.lst (l.map rowD))) → r[11]? = some (.val (.int H)) → r[12]? = some (.val (.lst (acc.map pairD))) →
    ∃ r', forLoop (.nm 13) b_pairs .free (idxD k t) r s = .nx r' s ∧ Ag [12, 13] r r' ∧ r'[12]? = some (.val (.lst ((acc ++ pairsI H t).map pairD)))
  | [], k, acc, r, _, _, _, _, _, h12 => ⟨r, rfl, .refl _ _, by simpa [pairsI] using h12⟩
  | x :: t, k, acc, r, hk, hb, hlen, h6, h11, h12 => by
    have hd : l.drop (k + 1) = t := by rw [← List.drop_drop, hk]; rfl
    have hb' : acc.length + (t.length + 1) * 41 ≤ 10000 := hb
    have hlt : (x :: t).length ≤ 41 := by rw [← hk, List.length_drop]; omega
    have hf : ((x :: t).filter (near H x)).length ≤ (x :: t).length := List.length_filter_le _ _
    have h13 : 13 < r.length := by omega
    have hh12 : 12 < r.length := by omega
    have one := pairs_step (r := r.set 13 (.val (.int (k : Int)))) (s := s) (l := l) (H := H) (acc := acc) (k := k) (x := x) (t := t) (by simp [hlen]) (by simp [h6]) (by simp [h11]) (by simp [h12]) (by simp [h13]) hk hl (by simp [lim]; omega)
    obtain ⟨r', h1, h2, h3⟩ := pairs_loop (H := H) (s := s) hl t (k + 1) (acc ++ ((x :: t).filter (near H x)).map (pairOf x)) ((r.set 13 (.val (.int (k : Int)))).set 12 (.val (.lst ((acc ++ ((x :: t).filter (near H x)).map (pairOf x)).map pairD)))) hd (by simp at hf hlt ⊢; omega) (by simp [hlen]) (by simp [h6]) (by simp [h11]) (by simp [hh12])
    refine ⟨r', ?_, ?_, ?_⟩
    · rw [idxD, for_cons (r1 := r.set 13 (.val (.int (k : Int)))) (by simp [hlen]) one]
      exact h1
    · exact ((Ag.set r 13 _ (by simp)).trans (Ag.set _ 12 _ (by simp))).trans h2
    · rw [h3, pairsI, List.append_assoc]
/-! ### the greatest pair -/
theorem ab_nn (i : Int) : 0 ≤ ab i := by unfold ab; split <;> omega
def isMax (l : List Int) (v : Int) : Prop := v ∈ l ∧ ∀ z ∈ l, z ≤ v
theorem isMax_uniq {l : List Int} {v : Int} (h : isMax l v) : maxI l = v := by
  have hne : l ≠ [] := fun e => by rw [e] at h; cases h.1
  have h1 := h.2 _ (maxI_mem hne)
  have h2 := maxI_le h.1
  omega
theorem sw_inner (H : Int) (x : Row) : ∀ (t : List Row) (b : Int × Int) (L : List (Int × Int)), isMax (L.map (·.1)) b.1 → isMax (L.map (·.2)) b.2 →
    isMax ((L ++ (t.filter (near H x)).map (pairOf x)).map (·.1)) (t.foldl (swG H x) b).1 ∧ isMax ((L ++ (t.filter (near H x)).map (pairOf x)).map (·.2)) (t.foldl (swG H x) b).2
  | [], b, L, h1, h2 => by simpa using ⟨h1, h2⟩
  | y :: t, b, L, h1, h2 => by
    by_cases hn : near H x y = true
    · have hn' : y.1 - x.1 ≤ H := by simpa [near] using hn
      have ih := sw_inner H x t (swG H x b y) (L ++ [pairOf x y])
      have e : L ++ ((y :: t).filter (near H x)).map (pairOf x) = (L ++ [pairOf x y]) ++ (t.filter (near H x)).map (pairOf x) := by simp [hn]
      rw [e, List.foldl_cons]
      have mxOk : ∀ (M : List Int) (m z : Int), isMax M m → isMax (M ++ [z]) (mx m z) := fun M m z h => by
        unfold mx
        split
        · refine ⟨by simp, fun w hw => ?_⟩
          rcases List.mem_append.mp hw with hw | hw
          · have := h.2 w hw; omega
          · simp at hw; omega
        · refine ⟨by simp [h.1], fun w hw => ?_⟩
          rcases List.mem_append.mp hw with hw | hw
          · exact h.2 w hw
          · simp at hw; omega
      refine ih ?_ ?_
      · have := mxOk _ _ (ab (y.2.1 - x.2.1)) h1
        simpa [swG, hn', pairOf] using this
      · have := mxOk _ _ (ab (y.2.2 - x.2.2)) h2
        simpa [swG, hn', pairOf] using this
    · have hn' : ¬ y.1 - x.1 ≤ H := by simpa [near] using hn
      have ih := sw_inner H x t b L h1 h2
      rw [List.foldl_cons]
      simp only [swG, hn', if_false]
      simpa [hn] using ih
theorem near_self {H : Int} (hH : 0 ≤ H) (x : Row) : near H x x = true := by unfold near; simp; omega
theorem isMax_zero {M : List Int} {m : Int} (hm : 0 ≤ m) (h : isMax M m) : isMax (M ++ [0]) m := by
  refine ⟨by simp [h.1], fun w hw => ?_⟩
  rcases List.mem_append.mp hw with hw | hw
  · exact h.2 w hw
  · simp at hw; omega
theorem sw_nn (H : Int) (x : Row) : ∀ (t : List Row) (b : Int × Int), 0 ≤ b.1 → 0 ≤ b.2 → 0 ≤ (t.foldl (swG H x) b).1 ∧ 0 ≤ (t.foldl (swG H x) b).2
  | [], b, h1, h2 => ⟨h1, h2⟩
  | y :: t, b, h1, h2 => by
    rw [List.foldl_cons]
    refine sw_nn H x t _ ?_ ?_ <;> unfold swG <;> split <;> first | assumption | (unfold mx; dsimp only; have := ab_nn (y.2.1 - x.2.1); have := ab_nn (y.2.2 - x.2.2); split <;> omega)
theorem swing_max {H : Int} (hH : 0 ≤ H) : ∀ (l : List Row) (b : Int × Int) (L : List (Int × Int)), 0 ≤ b.1 → 0 ≤ b.2 → isMax (L.map (·.1)) b.1 → isMax (L.map (·.2)) b.2 →
    isMax ((L ++ pairsI H l).map (·.1)) (swingI H l b).1 ∧ isMax ((L ++ pairsI H l).map (·.2)) (swingI H l b).2
  | [], b, L, _, _, h1, h2 => by simpa [pairsI] using ⟨h1, h2⟩
  | x :: t, b, L, n1, n2, h1, h2 => by
    have z : pairOf x x = (0, 0) := by simp [pairOf, ab]
    have i1 := isMax_zero n1 h1
    have i2 := isMax_zero n2 h2
    have := sw_inner H x t b (L ++ [(0, 0)]) (by simpa using i1) (by simpa using i2)
    obtain ⟨m1, m2⟩ := sw_nn H x t b n1 n2
    have ih := swing_max hH t (t.foldl (swG H x) b) (L ++ [(0, 0)] ++ (t.filter (near H x)).map (pairOf x)) m1 m2 this.1 this.2
    have e : L ++ pairsI H (x :: t) = L ++ [(0, 0)] ++ (t.filter (near H x)).map (pairOf x) ++ pairsI H t := by
      simp [pairsI, near_self hH, z]
    rw [e]
    exact ih
theorem pairsI_mem {H : Int} (hH : 0 ≤ H) {l : List Row} (h : l ≠ []) : (0, 0) ∈ pairsI H l := by
  cases l with
  | nil => exact absurd rfl h
  | cons x t =>
    have z : pairOf x x = (0, 0) := by simp [pairOf, ab]
    simp [pairsI, near_self hH, z]
theorem swing_same {H : Int} (hH : 0 ≤ H) {l : List Row} (h : l ≠ []) : maxI ((pairsI H l).map (·.1)) = (swingI H l (0, 0)).1 ∧ maxI ((pairsI H l).map (·.2)) = (swingI H l (0, 0)).2 := by
  obtain ⟨a, b⟩ := swing_max hH l (0, 0) [(0, 0)] (by simp) (by simp) ⟨by simp, by simp⟩ ⟨by simp, by simp⟩
  have m := pairsI_mem hH h
  constructor
  · refine isMax_uniq ⟨?_, fun z hz => a.2 z (by simp at hz ⊢; exact .inr hz)⟩
    have := a.1
    simp only [List.singleton_append, List.map_cons, List.mem_cons] at this
    rcases this with e | e
    · rw [e]; exact List.mem_map.mpr ⟨_, m, rfl⟩
    · exact e
  · refine isMax_uniq ⟨?_, fun z hz => b.2 z (by simp at hz ⊢; exact .inr hz)⟩
    have := b.1
    simp only [List.singleton_append, List.map_cons, List.mem_cons] at this
    rcases this with e | e
    · rw [e]; exact List.mem_map.mpr ⟨_, m, rfl⟩
    · exact e
end K09
/-! P10: k09, plain: runs, worn. -/
namespace K09
open Mir
/-! ### runs -/
/-- what the law knows of an open run: where it began -/
def Rel (l : List Row) (k : Nat) (o : Option (Int × Int)) (S : D) : Prop := match o with
  | none => S = .non
  | some q => ∃ i y z, S = .int ((i : Nat) : Int) ∧ l[i]? = some y ∧ 0 < k ∧ l[k - 1]? = some z ∧ q = (y.1, z.1)
theorem get_row_at {s : St} {l : List Row} {k : Nat} {y : Row} (h : l[k]? = some y) : oGet s (.val (.lst (l.map rowD))) (.val (.int (k : Int))) = some (rowD y) := by
  rw [get_lst, List.getElem?_map, h]; rfl
theorem here_step {r : Env} {s : St} {l : List Row} {bads : List Bool} {k : Nat} (hk : k < l.length) {b : Bool} (hb : bads[k]? = some b) (h6 : r[6]? = some (.val (.lst (l.map rowD)))) (h13 : r[13]? = some (.val (.int (k : Int)))) (h16 : r[16]? = some (.val (.lst (bads.map D.bl)))) :
    eAnd (eOp2 oLt (eV 13) (eOpN oLen (aCons (eV 6) aNil))) (eOp2 oGet (eV 16) (eV 13)) r s = .ok (.val (.bl b)) s := by
  have h1 : ((k : Int) < (l.length : Int)) = True := by simp; omega
  have hg : oGet s (.val (.lst (bads.map D.bl))) (.val (.int (k : Int))) = some (.bl b) := by rw [get_lst, List.getElem?_map, hb]; rfl
  simp [h13, h6, h16, oLen_lst, hg, hk]
theorem here_end {r : Env} {s : St} {l : List Row} {k : Nat} (hk : k = l.length) (h6 : r[6]? = some (.val (.lst (l.map rowD)))) (h13 : r[13]? = some (.val (.int (k : Int)))) :
    eAnd (eOp2 oLt (eV 13) (eOpN oLen (aCons (eV 6) aNil))) (eOp2 oGet (eV 16) (eV 13)) r s = .ok (.val (.bl false)) s := by
  subst hk
  simp [h13, h6, oLen_lst]
/-- a turn that is not outside -/
theorem runs_off {r : Env} {s : St} {l : List Row} {k : Nat} {f : List (Int × Int)} {o : Option (Int × Int)} {S : D} (hlen : r.length = 25) (hh : eAnd (eOp2 oLt (eV 13) (eOpN oLen (aCons (eV 6) aNil))) (eOp2 oGet (eV 16) (eV 13)) r s = .ok (.val (.bl false)) s)
    (h6 : r[6]? = some (.val (.lst (l.map rowD)))) (h13 : r[13]? = some (.val (.int (k : Int)))) (h17 : r[17]? = some (.val (.lst (f.map pairD)))) (h18 : r[18]? = some (.val S)) (hS : Rel l k o S) (hf : f.length + 1 ≤ lim) :
    ∃ r', b_runs r s = .nx r' s ∧ Ag [17, 18, 19] r r' ∧ r'[17]? = some (.val (.lst ((f ++ o.toList).map pairD))) ∧ r'[18]? = some (.val .non) := by
  have l19 : 19 < r.length := by omega
  have l17 : 17 < r.length := by omega
  have l18 : 18 < r.length := by omega
  unfold b_runs
  rw [sSeq_ap, sSet_ap, hh]
  simp only [op1K_ap, op2B_ap, op2A_ap, acB_ap, acA_ap, opnK_ap, eifK_ap, valK_ap, frK_ap, nwK_ap, truK_ap, taK_ap, toK_ap, tnK_ap, ieK_ap, ienK_ap, no1K_ap, no2B_ap, no2A_ap, nonK_ap, chB_ap, chA_ap, etK_ap, ecK_ap, mtB_ap, mtA_ap, fdA_ap, nlK_ap, rgB_ap, rgA_ap, nlcK_ap, ownK_ap, sroK_ap, parB_ap, parA_ap, sifK_ap, sexK_ap, sfK_ap, apK_ap, sBind_ok, setK_val, l19, if_true, seqK_nx]
  cases o with
  | none =>
    cases hS
    refine ⟨r.set 19 (.val (.bl false)), ?_, Ag.set _ _ _ (by simp), by simp [h17], by simp [h18]⟩
    simp [-getElem?_pos, l19, h18]
  | some q =>
    obtain ⟨i, y, z, rfl, hy, hk, hz, rfl⟩ := hS
    have g1 := get_row_at (s := s) hy
    have g2 : oGet s (.val (.lst (l.map rowD))) (.val (.int ((k : Int) - 1))) = some (rowD z) := by
      rw [show (k : Int) - 1 = ((k - 1 : Nat) : Int) by omega]
      exact get_row_at hz
    have hc : nCat s (.val (.lst (f.map pairD))) (.val (.lst [pairD (y.1, z.1)])) = some (.lst ((f ++ [(y.1, z.1)]).map pairD)) := by
      rw [nCat_v (by simpa using hf)]
      simp
    refine ⟨((r.set 19 (.val (.bl false))).set 17 (.val (.lst ((f ++ [(y.1, z.1)]).map pairD)))).set 18 (.val .non), ?_, ((Ag.set _ _ _ (by simp)).trans (Ag.set _ _ _ (by simp))).trans (Ag.set _ _ _ (by simp)), by simp [-getElem?_pos, l17], by simp [-getElem?_pos, l18]⟩
    have hp : D.tup [.int y.1, .int z.1] = pairD (y.1, z.1) := rfl
    simp [-getElem?_pos, l19, l17, l18, h18, h6, h13, h17, g1, g2, lim, hp, hc]
theorem runs_step {r : Env} {s : St} {l : List Row} {warm wet : Int × Int} {k : Nat} {p : List (Int × Int) × Option (Int × Int)} {S : D} {x : Row} {t : List Row} (hlen : r.length = 25)
    (h6 : r[6]? = some (.val (.lst (l.map rowD)))) (h13 : r[13]? = some (.val (.int (k : Int)))) (h16 : r[16]? = some (.val (.lst ((l.map (isOut warm wet)).map D.bl)))) (h17 : r[17]? = some (.val (.lst (p.1.map pairD)))) (h18 : r[18]? = some (.val S)) (hS : Rel l k p.2 S) (hf : p.1.length + 1 ≤ lim) (hk : l.drop k = x :: t) :
    ∃ r' S', b_runs r s = .nx r' s ∧ Ag [17, 18, 19] r r' ∧ r'[17]? = some (.val (.lst ((outG warm wet p x).1.map pairD))) ∧ r'[18]? = some (.val S') ∧ Rel l (k + 1) (outG warm wet p x).2 S' := by
  have hx := drop_get hk
  have hkl : k < l.length := (List.getElem?_eq_some_iff.mp hx).1
  have hb : (l.map (isOut warm wet))[k]? = some (isOut warm wet x) := by rw [List.getElem?_map, hx]; rfl
  have hh := here_step (s := s) hkl hb h6 h13 h16
  obtain ⟨f, o⟩ := p
  cases hc : isOut warm wet x with
  | false =>
    rw [hc] at hh
    obtain ⟨r', h1, h2, h3, h4⟩ := runs_off hlen hh h6 h13 h17 h18 hS hf
    refine ⟨r', .non, h1, h2, ?_, h4, ?_⟩
    · rw [h3]
      cases o <;> simp [outG, hc]
    · cases o <;> simp [outG, hc, Rel]
  | true =>
    rw [hc] at hh
    have l19 : 19 < r.length := by omega
    have l18 : 18 < r.length := by omega
    unfold b_runs
    rw [sSeq_ap, sSet_ap, hh]
    simp only [op1K_ap, op2B_ap, op2A_ap, acB_ap, acA_ap, opnK_ap, eifK_ap, valK_ap, frK_ap, nwK_ap, truK_ap, taK_ap, toK_ap, tnK_ap, ieK_ap, ienK_ap, no1K_ap, no2B_ap, no2A_ap, nonK_ap, chB_ap, chA_ap, etK_ap, ecK_ap, mtB_ap, mtA_ap, fdA_ap, nlK_ap, rgB_ap, rgA_ap, nlcK_ap, ownK_ap, sroK_ap, parB_ap, parA_ap, sifK_ap, sexK_ap, sfK_ap, apK_ap, sBind_ok, setK_val, l19, if_true, seqK_nx]
    cases o with
    | none =>
      cases hS
      refine ⟨(r.set 19 (.val (.bl true))).set 18 (.val (.int (k : Int))), .int (k : Int), ?_, (Ag.set _ _ _ (by simp)).trans (Ag.set _ _ _ (by simp)), by simp [h17, outG, hc], by simp [-getElem?_pos, l18], ?_⟩
      · simp [-getElem?_pos, l19, l18, h18, h13]
      · simp only [outG, hc, if_true, Rel]
        exact ⟨k, x, x, rfl, hx, by omega, by simpa using hx, rfl⟩
    | some q =>
      obtain ⟨i, y, z, rfl, hy, hk0, hz, rfl⟩ := hS
      refine ⟨r.set 19 (.val (.bl true)), .int (i : Int), ?_, Ag.set _ _ _ (by simp), by simp [h17, outG, hc], by simp [h18], ?_⟩
      · simp [-getElem?_pos, l19, h18]
      · simp only [outG, hc, if_true, Rel]
        exact ⟨i, y, x, rfl, hy, by omega, by simpa using hx, rfl⟩
theorem runs_loop {l : List Row} {warm wet : Int × Int} {s : St} : ∀ (t : List Row) (k : Nat) (p : List (Int × Int) × Option (Int × Int)) (S : D) (r : Env), l.drop k = t → k ≤ l.length → p.1.length + t.length + 1 ≤ lim → r.length = 25 → r[6]? = some (.val (.lst (l.map rowD))) → r[16]? = some (.val (.lst ((l.map (isOut warm wet)).map D.bl))) → r[17]? = some (.val (.lst (p.1.map pairD))) → r[18]? = some (.val S) → Rel l k p.2 S →
    ∃ r', forLoop (.nm 13) b_runs .free (idxD k (t ++ [(0, 0, 0)])) r s = .nx r' s ∧ Ag [13, 17, 18, 19] r r' ∧ r'[17]? = some (.val (.lst (((t.foldl (outG warm wet) p).1 ++ (t.foldl (outG warm wet) p).2.toList).map pairD)))
  | [], k, p, S, r, hk, hkl, hb, hlen, h6, h16, h17, h18, hS => by
    have l13 : 13 < r.length := by omega
    have hke : k = l.length := by
      have := congrArg List.length hk
      simp at this; omega
    have a6 : (r.set 13 (.val (.int (k : Int))))[6]? = some (.val (.lst (l.map rowD))) := by simp [h6]
    have a13 : (r.set 13 (.val (.int (k : Int))))[13]? = some (.val (.int (k : Int))) := by simp [-getElem?_pos, l13]
    obtain ⟨r', h1, h2, h3, h4⟩ := runs_off (s := s) (k := k) (f := p.1) (o := p.2) (S := S) (by simp [hlen]) (here_end hke a6 a13) a6 a13 (by simp [h17]) (by simp [h18]) hS (by simp at hb; omega)
    refine ⟨r', ?_, (Ag.set r 13 _ (by simp)).trans (h2.mono (by simp)), by simpa using h3⟩
    show forLoop _ _ _ [.int (k : Int)] r s = _
    rw [for_cons (r1 := r.set 13 (.val (.int (k : Int)))) (by simp [-getElem?_pos, l13]) h1, for_nil]
  | x :: t, k, p, S, r, hk, hkl, hb, hlen, h6, h16, h17, h18, hS => by
    have l13 : 13 < r.length := by omega
    have hd : l.drop (k + 1) = t := by rw [← List.drop_drop, hk]; rfl
    have hb' : p.1.length + (t.length + 1) + 1 ≤ lim := hb
    have hk2 : k < l.length := (List.getElem?_eq_some_iff.mp (drop_get hk)).1
    obtain ⟨r1, S', h1, h2, h3, h4, h5⟩ := runs_step (r := r.set 13 (.val (.int (k : Int)))) (s := s) (l := l) (warm := warm) (wet := wet) (k := k) (p := p) (S := S) (x := x) (t := t) (by simp [hlen]) (by simp [h6]) (by simp [-getElem?_pos, l13]) (by simp only [List.getElem?_set_ne (show 13 ≠ 16 by omega)]; exact h16) (by simp [h17]) (by simp [h18]) hS (by omega) hk
    have ag := (Ag.set (S := [13, 17, 18, 19]) r 13 (.val (.int (k : Int))) (by simp)).trans (h2.mono (by simp))
    have hlo := outG_len warm wet p x
    obtain ⟨r', k1, k2, k3⟩ := runs_loop (warm := warm) (wet := wet) (s := s) t (k + 1) (outG warm wet p x) S' r1 hd (by omega) (by omega) (by rw [ag.len, hlen]) (ag.get h6) (ag.get h16) h3 h4 h5
    refine ⟨r', ?_, ag.trans k2, by simpa using k3⟩
    show forLoop _ _ _ (.int (k : Int) :: idxD (k + 1) (t ++ [(0, 0, 0)])) r s = _
    rw [for_cons (r1 := r.set 13 (.val (.int (k : Int)))) (by simp [-getElem?_pos, l13]) h1]
    exact k1
/-! ### worn -/
def wornL : List Row → List Int
  | [] => []
  | [_] => []
  | x :: y :: t => (y.1 - x.1) * rateL x.2.1 x.2.2 :: wornL (y :: t)
theorem wear_fold : ∀ (l : List Row) (a : Int), (∀ y ∈ l, InR y) → (l.zip (l.drop 1)).foldl (fun a p => a + (p.2.1 - p.1.1) * rateI p.1.2.1 p.1.2.2) a = a + (wornL l).sum
  | [], a, _ => by simp [wornL]
  | [_], a, _ => by simp [wornL]
  | x :: y :: t, a, h => by
    have ih := wear_fold (y :: t) (a + (y.1 - x.1) * rateI x.2.1 x.2.2) (fun z hz => h z (List.mem_cons_of_mem _ hz))
    have e := rate_same x.2.1 x.2.2 (h x List.mem_cons_self)
    simp only [List.drop_succ_cons, List.drop_zero, List.zip_cons_cons, List.foldl_cons, wornL, List.sum_cons] at ih ⊢
    rw [ih, e]
    omega
theorem wear_same {l : List Row} (h : ∀ y ∈ l, InR y) : (wornL l).sum = wearI l := by
  have := wear_fold l 0 h
  unfold wearI
  rw [this]
  omega
def wv : List Row → D
  | x :: y :: _ => .int ((y.1 - x.1) * rateL x.2.1 x.2.2)
  | _ => .int 0
theorem suf_worn (c : List Row → Bool) (hc : ∀ w, c w = true) (z : Row) : ∀ l : List Row, sufMap c wv [z] l = (wornL (l ++ [z])).map D.int
  | [] => rfl
  | [x] => by simp [sufMap, hc, wv, wornL]
  | x :: y :: t => by
    have ih := suf_worn c hc z (y :: t)
    rw [sufMap, hc, ih]
    rfl
theorem worn_ok {r : Env} {s : St} {l : List Row} (hl : RowsOk l) (hlen : r.length = 25) (h6 : r[6]? = some (.val (.lst (l.map rowD)))) :
    eOpN oSum (aCons (eFrz (nLc (Mir.iRng1 (eOp2 oSub (eOpN oLen (aCons (eV 6) aNil)) (eC (.int 1)))) (.nm 13) Mir.tYes (eOp2 oMul (eOp2 oSub (eOp2 oGet (eOp2 oGet (eV 6) (eOp2 oAdd (eV 13) (eC (.int 1)))) (eC (.int 0))) (eOp2 oGet (eOp2 oGet (eV 6) (eV 13)) (eC (.int 0)))) (eCall f_law_rate (aCons (eOp2 oGet (eOp2 oGet (eV 6) (eV 13)) (eC (.int 1))) (aCons (eOp2 oGet (eOp2 oGet (eV 6) (eV 13)) (eC (.int 2))) aNil)))) [13])) aNil) r s = .ok (.val (.int (wearI l))) s := by
  obtain ⟨b, z, rfl⟩ : ∃ b z, l = b ++ [z] := ⟨l.dropLast, l.getLast hl.ne, (List.dropLast_concat_getLast hl.ne).symm⟩
  have hll := hl.len
  have hrng : Mir.iRng1 (eOp2 oSub (eOpN oLen (aCons (eV 6) aNil)) (eC (.int 1))) r s = .ok (idxD 0 b, .free) s := by
    have := range_idx b 0
    simp only [op1K_ap, op2B_ap, op2A_ap, acB_ap, acA_ap, opnK_ap, eifK_ap, valK_ap, frK_ap, nwK_ap, truK_ap, taK_ap, toK_ap, tnK_ap, ieK_ap, ienK_ap, no1K_ap, no2B_ap, no2A_ap, nonK_ap, chB_ap, chA_ap, etK_ap, ecK_ap, mtB_ap, mtA_ap, fdA_ap, nlK_ap, rgB_ap, rgA_ap, nlcK_ap, ownK_ap, sroK_ap, parB_ap, parA_ap, sifK_ap, sexK_ap, sfK_ap, apK_ap, iRng1_ap, eOp2_ap, eV_ap, h6, slotO_val, bindok, eOpN_ap, aCons_ap, aNil_ap, oLen_lst, List.length_map, List.length_append, List.length_cons, List.length_nil, Option.map_some, orBad_some, eC_ap, oSub_int]
    rw [rng1K_int s (by simp at hll; omega), ← this]
    congr 2
    simp
  have l13 : 13 < r.length := by omega
  have hlc := lc_idx (tg := .nm 13) (t := Mir.tYes) (e := eOp2 oMul (eOp2 oSub (eOp2 oGet (eOp2 oGet (eV 6) (eOp2 oAdd (eV 13) (eC (.int 1)))) (eC (.int 0))) (eOp2 oGet (eOp2 oGet (eV 6) (eV 13)) (eC (.int 0)))) (eCall f_law_rate (aCons (eOp2 oGet (eOp2 oGet (eV 6) (eV 13)) (eC (.int 1))) (aCons (eOp2 oGet (eOp2 oGet (eV 6) (eV 13)) (eC (.int 2))) aNil)))) (vs := [13]) (r := r) (s := s) (b ++ [z]) (fun _ => true) wv [z]
    (fun j y w hj hw => by
      refine ⟨r.set 13 (.val (.int (j : Int))), by simp [-getElem?_pos, l13], by simp, fun _ => ?_⟩
      cases w with
      | nil => simp at hw
      | cons x w =>
        have hd : (b ++ [z]).drop (j + 1) = x :: w := by rw [← List.drop_drop, hj]; rfl
        have g1 := get_rows (s := s) hj
        have g2 := get_rows (s := s) hd
        rw [show ((j + 1 : Nat) : Int) = (j : Int) + 1 by omega] at g2
        have hin : InR y := (hl.inr y (List.mem_of_getElem? (drop_get hj))).1
        have hr := law_rate_eq y.2.1 y.2.2 s hin
        have hm : ∀ i : Int, oMul s (.val (.int i)) (.val (.int (rateL y.2.1 y.2.2))) = some (.int (i * rateL y.2.1 y.2.2)) := fun i => if_pos (.inr (by rw [← rate_same _ _ hin]; exact rate_small _ _ hin))
        simp only [List.map_append, List.map_cons, List.map_nil] at g1 g2
        simp [h6, l13, g1, g2, hr, hm, wv]) b 0 [] (by simp) (by simp [lim]; simp at hll; omega)
  rw [List.nil_append, suf_worn _ (fun _ => rfl)] at hlc
  rw [eOpN_ap, aCons_ap, eFrz_ap, nLc_ap, hrng]
  simp only [op1K_ap, op2B_ap, op2A_ap, acB_ap, acA_ap, opnK_ap, eifK_ap, valK_ap, frK_ap, nwK_ap, truK_ap, taK_ap, toK_ap, tnK_ap, ieK_ap, ienK_ap, no1K_ap, no2B_ap, no2A_ap, nonK_ap, chB_ap, chA_ap, etK_ap, ecK_ap, mtB_ap, mtA_ap, fdA_ap, nlK_ap, rgB_ap, rgA_ap, nlcK_ap, ownK_ap, sroK_ap, parB_ap, parA_ap, sifK_ap, sexK_ap, sfK_ap, apK_ap, bindok, wok_free, if_true, hlc, lcRes_ok, frz_lst, Option.map_some, orBad_some, aNil_ap, oSum_v]
  rw [wear_same fun y hy => (hl.inr y hy).1]
end K09
/-! P11: k09, plain: a room of the law. -/
namespace K09
open Mir
theorem filt_true {α : Type} (l : List α) : l.filter (fun _ => true) = l := List.filter_eq_self.mpr (by simp)
abbrev Wr := Tx × Int × Int
def wrD (p : Wr) : D := .tup [.str p.1, .int p.2.1, .int p.2.2]
def wrAdd (own : Own) (x : Tx) : List Wr := if 1 < (rowsIn own x).length then [(x, wearI (rowsIn own x), span (rowsIn own x))] else []
theorem shap_row20 (x : Row) : shap 19 (rowD x) = true := shap_row 17 x
theorem shap_pair (k : Nat) (x : Int × Int) : shap (k + 2) (pairD x) = true := by simp [pairD, shap, shapL, lim]
theorem rows_ne {s : St} {l : List Row} (hl : l.length ≤ lim) : oNe s (.val (.lst (l.map rowD))) (.val (.lst (l.map rowD))) = some (.bl false) :=
  ne_refl (fun n e => by cases e) (by simp only [shap, Bool.and_eq_true, decide_eq_true_eq, List.length_map]; exact ⟨hl, shapL_map _ _ shap_row20 l⟩)
theorem pairs_ne {s : St} {l : List (Int × Int)} (hl : l.length ≤ lim) : oNe s (.val (.lst (l.map pairD))) (.val (.lst (l.map pairD))) = some (.bl false) :=
  ne_refl (fun n e => by cases e) (by simp only [shap, Bool.and_eq_true, decide_eq_true_eq, List.length_map]; exact ⟨hl, shapL_map _ _ (shap_pair 17) l⟩)
theorem tup2_ne {s : St} {i j : Int} : oNe s (.val (.tup [.int i, .int j])) (.val (.tup [.int i, .int j])) = some (.bl false) :=
  ne_refl (fun n e => by cases e) (by simp [shap, shapL, lim])
theorem pairsI_len {H : Int} : ∀ l : List Row, l.length ≤ 41 → (pairsI H l).length ≤ 41 * l.length
  | [], _ => by simp [pairsI]
  | x :: t, h => by
    have ih := pairsI_len (H := H) t (by simp at h; omega)
    have hf : ((x :: t).filter (near H x)).length ≤ (x :: t).length := List.length_filter_le _ _
    simp [pairsI] at h hf ⊢
    omega
theorem out_len (warm wet : Int × Int) : ∀ (t : List Row) (p : List (Int × Int) × Option (Int × Int)), (t.foldl (outG warm wet) p).1.length ≤ p.1.length + t.length
  | [], p => by simp
  | y :: t, p => by have := out_len warm wet t (outG warm wet p y); have := outG_len warm wet p y; simp; omega
theorem test1 {own : Own} {st : St} (h : World 2 1 own st) {x : Tx} (hx : x ∈ keys own) (hr : RowsOk (rowsIn own x)) {H : Int} (hH : 0 ≤ H) {r : Env} (hlen : r.length = 25) (h2 : r[2]? = some (.val (.ref 2))) (h5 : r[5]? = some (.val (.str x))) (h6 : r[6]? = some (.val (.lst ((rowsIn own x).map rowD)))) (h11 : r[11]? = some (.val (.int H))) (h12 : r[12]? = some (.val (.lst ((pairsI H (rowsIn own x)).map pairD)))) :
    Mir.tOr (tE (eOp2 oNe (eFrz (nOpN nList (aCons (eMeth 0 f_Air_rows_of (eV 2) (aCons (eV 5) aNil)) aNil))) (eV 6))) (tE (eOp2 oNe (eMeth 0 f_Air_swing (eV 2) (aCons (eV 5) (aCons (eV 11) aNil))) (eTup (aCons (eOpN oMaxL (aCons (eFrz (nLc (iE (eV 12)) (.nm 23) Mir.tYes (eOp2 oGet (eV 23) (eC (.int 0))) [23])) aNil)) (aCons (eOpN oMaxL (aCons (eFrz (nLc (iE (eV 12)) (.nm 23) Mir.tYes (eOp2 oGet (eV 23) (eC (.int 1))) [23])) aNil)) aNil))))) r st = .ok false st := by
  obtain ⟨addr, rm⟩ := h.rooms
  have hrow := rm.yes hx
  have hsw := swing_ok rm.air hrow hH
  have hll : (rowsIn own x).length ≤ lim := by have := hr.len; unfold lim; omega
  have l23 : 23 < r.length := by omega
  have hpl := pairsI_len (H := H) (rowsIn own x) hr.len
  have lc : ∀ (j : Int) (g : Int × Int → Int), (∀ p : Int × Int, oGet st (.val (pairD p)) (.val (.int j)) = some (.int (g p))) → lcLoop (.nm 23) Mir.tYes (eOp2 oGet (eV 23) (eC (.int j))) [23] .free r ((pairsI H (rowsIn own x)).map pairD) [] st = .ok (((pairsI H (rowsIn own x)).map g).map D.int) st := fun j g hg => by
    have := lc_img (tg := .nm 23) (t := Mir.tYes) (e := eOp2 oGet (eV 23) (eC (.int j))) (vs := [23]) (r := r) (s := st) pairD (fun _ => true) (fun p => .int (g p)) (pairsI H (rowsIn own x)) []
      (fun p _ => ⟨r.set 23 (.val (pairD p)), by simp [-getElem?_pos, l23], by simp, fun _ => by simp [-getElem?_pos, l23, hg]⟩) (by have := hr.len; simp [lim]; omega)
    rw [this]
    simp [filt_true, Function.comp_def]
  have lc0 := lc 0 (·.1) (fun p => by simp [pairD])
  have lc1 := lc 1 (·.2) (fun p => by simp [pairD])
  obtain ⟨m1, m2⟩ := swing_same hH hr.ne
  have hne := pairsI_mem hH hr.ne
  have ne1 : (pairsI H (rowsIn own x)).map (·.1) ≠ [] := fun e => by rw [List.map_eq_nil_iff] at e; rw [e] at hne; cases hne
  have ne2 : (pairsI H (rowsIn own x)).map (·.2) ≠ [] := fun e => by rw [List.map_eq_nil_iff] at e; rw [e] at hne; cases hne
  have x1 := oMaxL_v (s := st) ne1
  have x2 := oMaxL_v (s := st) ne2
  rw [m1] at x1
  rw [m2] at x2
  have nl : nList st [.val (.tup ((rowsIn own x).map rowD))] = some (.lst ((rowsIn own x).map rowD)) := rfl
  have t1 : tE (eOp2 oNe (eFrz (nOpN nList (aCons (eMeth 0 f_Air_rows_of (eV 2) (aCons (eV 5) aNil)) aNil))) (eV 6)) r st = .ok false st := by
    simp only [op1K_ap, op2B_ap, op2A_ap, acB_ap, acA_ap, opnK_ap, eifK_ap, valK_ap, frK_ap, nwK_ap, truK_ap, taK_ap, toK_ap, tnK_ap, ieK_ap, ienK_ap, no1K_ap, no2B_ap, no2A_ap, nonK_ap, chB_ap, chA_ap, etK_ap, ecK_ap, mtB_ap, mtA_ap, fdA_ap, nlK_ap, rgB_ap, rgA_ap, nlcK_ap, ownK_ap, sroK_ap, parB_ap, parA_ap, sifK_ap, sexK_ap, sfK_ap, apK_ap, tE_ap, eOp2_ap, eFrz_ap, nOpN_ap, aCons_ap, aNil_ap, eMeth_ap, eV_ap, h2, h5, h6, slotO_val, bindok, insOf_ref, rm.air.ins, insK_some, methK_some, valsOf_cons, valsOf_nil, Option.map_some, callK_some, hrow, nl, orBad_some, frz_lst, rows_ne hll, teK_bl]
  have t2 : tE (eOp2 oNe (eMeth 0 f_Air_swing (eV 2) (aCons (eV 5) (aCons (eV 11) aNil))) (eTup (aCons (eOpN oMaxL (aCons (eFrz (nLc (iE (eV 12)) (.nm 23) Mir.tYes (eOp2 oGet (eV 23) (eC (.int 0))) [23])) aNil)) (aCons (eOpN oMaxL (aCons (eFrz (nLc (iE (eV 12)) (.nm 23) Mir.tYes (eOp2 oGet (eV 23) (eC (.int 1))) [23])) aNil)) aNil)))) r st = .ok false st := by
    simp only [op1K_ap, op2B_ap, op2A_ap, acB_ap, acA_ap, opnK_ap, eifK_ap, valK_ap, frK_ap, nwK_ap, truK_ap, taK_ap, toK_ap, tnK_ap, ieK_ap, ienK_ap, no1K_ap, no2B_ap, no2A_ap, nonK_ap, chB_ap, chA_ap, etK_ap, ecK_ap, mtB_ap, mtA_ap, fdA_ap, nlK_ap, rgB_ap, rgA_ap, nlcK_ap, ownK_ap, sroK_ap, parB_ap, parA_ap, sifK_ap, sexK_ap, sfK_ap, apK_ap, tE_ap, eOp2_ap, eFrz_ap, nOpN_ap, aCons_ap, aNil_ap, eMeth_ap, eV_ap, h2, h5, h6, h11, h12, slotO_val, bindok, insOf_ref, rm.air.ins, insK_some, methK_some, valsOf_cons, valsOf_nil, Option.map_some, callK_some, hsw, orBad_some, frz_lst, teK_bl, eTup_ap, eOpN_ap, nLc_ap, iE_ap, items_lst, wok_free, if_true, lc0, lc1, lcRes_ok, x1, x2, tupK_some, List.length_cons, List.length_nil, show (0 + 1 + 1 ≤ lim) = True by simp [lim], tup2_ne]
  rw [tOr_ap, t1, bindok, toK_ap, if_neg (by simp), t2]
theorem bads_ok {s : St} {l : List Row} {warm wet : Int × Int} {r : Env} (hlen : r.length = 25) (hl : l.length ≤ 41) (h6 : r[6]? = some (.val (.lst (l.map rowD)))) (h14 : r[14]? = some (.val (pairD warm))) (h15 : r[15]? = some (.val (pairD wet))) :
    sSet 16 (eFrz (nLc (iE (eV 6)) (.nm 8) Mir.tYes (eNot (eAnd (eChain oLe oLe (eOp2 oGet (eV 14) (eC (.int 0))) (eOp2 oGet (eV 8) (eC (.int 1))) (eOp2 oGet (eV 14) (eC (.int 1)))) (eChain oLe oLe (eOp2 oGet (eV 15) (eC (.int 0))) (eOp2 oGet (eV 8) (eC (.int 2))) (eOp2 oGet (eV 15) (eC (.int 1)))))) [8])) r s = .nx (r.set 16 (.val (.lst ((l.map (isOut warm wet)).map D.bl)))) s := by
  have l8 : 8 < r.length := by omega
  have l16 : 16 < r.length := by omega
  have := lc_img (tg := .nm 8) (t := Mir.tYes) (e := eNot (eAnd (eChain oLe oLe (eOp2 oGet (eV 14) (eC (.int 0))) (eOp2 oGet (eV 8) (eC (.int 1))) (eOp2 oGet (eV 14) (eC (.int 1)))) (eChain oLe oLe (eOp2 oGet (eV 15) (eC (.int 0))) (eOp2 oGet (eV 8) (eC (.int 2))) (eOp2 oGet (eV 15) (eC (.int 1)))))) (vs := [8]) (r := r) (s := s) rowD (fun _ => true) (fun y => .bl (isOut warm wet y)) l []
      (fun y _ => ⟨r.set 8 (.val (rowD y)), by simp [-getElem?_pos, l8], by simp, fun _ => by
        by_cases c1 : warm.1 ≤ y.2.1 <;> by_cases c2 : y.2.1 ≤ warm.2 <;> by_cases c3 : wet.1 ≤ y.2.2 <;> by_cases c4 : y.2.2 ≤ wet.2 <;> simp [-getElem?_pos, l8, h14, h15, pairD, isOut, c1, c2, c3, c4]⟩) (by simp [lim]; omega)
  rw [sSet_ap, eFrz_ap, nLc_ap]
  simp only [op1K_ap, op2B_ap, op2A_ap, acB_ap, acA_ap, opnK_ap, eifK_ap, valK_ap, frK_ap, nwK_ap, truK_ap, taK_ap, toK_ap, tnK_ap, ieK_ap, ienK_ap, no1K_ap, no2B_ap, no2A_ap, nonK_ap, chB_ap, chA_ap, etK_ap, ecK_ap, mtB_ap, mtA_ap, fdA_ap, nlK_ap, rgB_ap, rgA_ap, nlcK_ap, ownK_ap, sroK_ap, parB_ap, parA_ap, sifK_ap, sexK_ap, sfK_ap, apK_ap, iE_ap, eV_ap, h6, slotO_val, bindok, items_lst, orBad_some, wok_free, if_true, this, lcRes_ok, frz_lst, Option.map_some, sBind_ok, setK_val, l16, List.nil_append, filt_true, List.map_map]
  rfl
theorem test2 {own : Own} {st : St} (h : World 2 1 own st) {x : Tx} (hx : x ∈ keys own) (hr : RowsOk (rowsIn own x)) {warm wet : Int × Int} {r : Env} (h2 : r[2]? = some (.val (.ref 2))) (h5 : r[5]? = some (.val (.str x))) (h14 : r[14]? = some (.val (pairD warm))) (h15 : r[15]? = some (.val (pairD wet))) (h17 : r[17]? = some (.val (.lst ((((rowsIn own x).foldl (outG warm wet) ([], none)).1 ++ ((rowsIn own x).foldl (outG warm wet) ([], none)).2.toList).map pairD)))) :
    tE (eOp2 oNe (eFrz (nOpN nList (aCons (eMeth 0 f_Air_outside (eV 2) (aCons (eV 5) (aCons (eV 14) (aCons (eV 15) aNil)))) aNil))) (eV 17)) r st = .ok false st := by
  obtain ⟨addr, rm⟩ := h.rooms
  have hrow := rm.yes hx
  have hlen := hr.len
  have hout := outside_ok (warm := warm) (wet := wet) rm.air hrow (by omega)
  have hl := out_len warm wet (rowsIn own x) ([], none)
  have hl2 : ((((rowsIn own x).foldl (outG warm wet) ([], none)).1 ++ ((rowsIn own x).foldl (outG warm wet) ([], none)).2.toList)).length ≤ lim := by
    have : ∀ o : Option (Int × Int), o.toList.length ≤ 1 := fun o => by cases o <;> simp
    have := this ((rowsIn own x).foldl (outG warm wet) ([], none)).2
    simp [lim] at hl ⊢
    omega
  have nl : ∀ xs : List D, nList st [.val (.tup xs)] = some (.lst xs) := fun _ => rfl
  simp only [op1K_ap, op2B_ap, op2A_ap, acB_ap, acA_ap, opnK_ap, eifK_ap, valK_ap, frK_ap, nwK_ap, truK_ap, taK_ap, toK_ap, tnK_ap, ieK_ap, ienK_ap, no1K_ap, no2B_ap, no2A_ap, nonK_ap, chB_ap, chA_ap, etK_ap, ecK_ap, mtB_ap, mtA_ap, fdA_ap, nlK_ap, rgB_ap, rgA_ap, nlcK_ap, ownK_ap, sroK_ap, parB_ap, parA_ap, sifK_ap, sexK_ap, sfK_ap, apK_ap, tE_ap, eOp2_ap, eFrz_ap, nOpN_ap, aCons_ap, aNil_ap, eMeth_ap, eV_ap, h2, h5, h14, h15, h17, slotO_val, bindok, insOf_ref, rm.air.ins, insK_some, methK_some, valsOf_cons, valsOf_nil, Option.map_some, callK_some, hout, nl, orBad_some, frz_lst, pairs_ne hl2, teK_bl]
theorem test3 {own : Own} {st : St} (h : World 2 1 own st) {x : Tx} (hx : x ∈ keys own) (hr : RowsOk (rowsIn own x)) {r : Env} (h2 : r[2]? = some (.val (.ref 2))) (h5 : r[5]? = some (.val (.str x))) (h6 : r[6]? = some (.val (.lst ((rowsIn own x).map rowD)))) (h20 : r[20]? = some (.val (.int (wearI (rowsIn own x))))) :
    Mir.tOr (tE (eOp2 oNe (eMeth 0 f_Air_wear (eV 2) (aCons (eV 5) aNil)) (eV 20))) (tE (eOp2 oNe (eCall f_rate_of (aCons (eOp2 oGet (eOp2 oGet (eV 6) (eC (.int 0))) (eC (.int 1))) (aCons (eOp2 oGet (eOp2 oGet (eV 6) (eC (.int 0))) (eC (.int 2))) aNil))) (eCall f_law_rate (aCons (eOp2 oGet (eOp2 oGet (eV 6) (eC (.int 0))) (eC (.int 1))) (aCons (eOp2 oGet (eOp2 oGet (eV 6) (eC (.int 0))) (eC (.int 2))) aNil))))) r st = .ok false st := by
  obtain ⟨addr, rm⟩ := h.rooms
  have hrow := rm.yes hx
  have hwear := wear_ok rm.air hrow (fun y hy => (hr.inr y hy).1)
  obtain ⟨y, hy⟩ : ∃ y, (rowsIn own x)[0]? = some y := by
    have := hr.ne
    cases e : rowsIn own x with
    | nil => exact absurd e this
    | cons a b => exact ⟨a, rfl⟩
  have hin : InR y := (hr.inr y (List.mem_of_getElem? hy)).1
  have g0 := get_row_at (s := st) hy
  have r1 := rate_of_eq y.2.1 y.2.2 st (by unfold InR at hin; omega)
  have r2 := law_rate_eq y.2.1 y.2.2 st hin
  rw [← rate_same _ _ hin] at r2
  have g0' : oGet st (.val (.lst ((rowsIn own x).map rowD))) (.val (.int 0)) = some (rowD y) := g0
  simp [h2, h5, h6, h20, rm.air.ins, hwear, g0', r1, r2]
theorem add_wear {st : St} {own : Own} {x : Tx} (hr : RowsOk (rowsIn own x)) {ws : List Wr} (hw : ws.length ≤ 100) {r : Env} (hlen : r.length = 25) (h5 : r[5]? = some (.val (.str x))) (h6 : r[6]? = some (.val (.lst ((rowsIn own x).map rowD)))) (h10 : r[10]? = some (.val (.lst (ws.map wrD)))) (h20 : r[20]? = some (.val (.int (wearI (rowsIn own x))))) :
    sSet 10 (eFrz (nOp2 nCat (eV 10) (eFrz (nOp2 nRep (eFrz (nLst (aCons (eTup (aCons (eV 5) (aCons (eV 20) (aCons (eOp2 oSub (eOp2 oGet (eOp2 oGet (eV 6) (eOp2 oSub (eOpN oLen (aCons (eV 6) aNil)) (eC (.int 1)))) (eC (.int 0))) (eOp2 oGet (eOp2 oGet (eV 6) (eC (.int 0))) (eC (.int 0)))) aNil)))) aNil))) (eOpN oInt (aCons (eOp2 oGt (eOpN oLen (aCons (eV 6) aNil)) (eC (.int 1))) aNil)))))) r st = .nx (r.set 10 (.val (.lst ((ws ++ wrAdd own x).map wrD)))) st := by
  obtain ⟨y0, f1, f2⟩ := first_row hr.ne
  obtain ⟨y1, g1, g2, g3⟩ := lastrow hr.ne
  have i0 : oGet st (.val (.lst ((rowsIn own x).map rowD))) (.val (.int 0)) = some (rowD y0) := by simp [oGet, dctOf, oIx, seqOf, listOf, f1]
  have i1 : oGet st (.val (.lst ((rowsIn own x).map rowD))) (.val (.int (((rowsIn own x).length : Int) - 1))) = some (rowD y1) := by
    simp only [oGet, dctOf, oIx, seqOf, listOf, Option.bind_some]
    exact last_ix g3
  have hs : span (rowsIn own x) = y1.1 - y0.1 := by unfold span; rw [f2, g2]
  have l10 : 10 < r.length := by omega
  have hrep := fun b => nRep_b (s := st) (x := .tup [.str x, .int (wearI (rowsIn own x)), .int (y1.1 - y0.1)]) b
  by_cases c : 1 < (rowsIn own x).length
  · have c' : (1 : Int) < ((rowsIn own x).length : Int) := by omega
    have hrep1 := hrep true
    simp only [if_true] at hrep1
    have hc : nCat st (.val (.lst (ws.map wrD))) (.val (.lst [.tup [.str x, .int (wearI (rowsIn own x)), .int (y1.1 - y0.1)]])) = some (.lst ((ws ++ wrAdd own x).map wrD)) := by
      rw [nCat_v (by simp [lim]; omega)]
      simp [wrAdd, c, wrD, hs]
    simp [-getElem?_pos, h5, h6, h10, h20, oLen_lst, i0, i1, lim, c, c', hrep1, hc, l10]
  · have c' : ¬ (1 : Int) < ((rowsIn own x).length : Int) := by omega
    have hrep1 := hrep false
    simp only [Bool.false_eq_true, if_false] at hrep1
    have hc : nCat st (.val (.lst (ws.map wrD))) (.val (.lst [])) = some (.lst ((ws ++ wrAdd own x).map wrD)) := by
      rw [nCat_v (by simp [lim]; omega)]
      simp [wrAdd, c]
    simp [-getElem?_pos, h5, h6, h10, h20, oLen_lst, i0, i1, lim, c, c', hrep1, hc, l10]
theorem room_ok {own : Own} {st : St} (h : World 2 1 own st) {x : Tx} (hx : x ∈ keys own) (hr : RowsOk (rowsIn own x)) {ws : List Wr} (hw : ws.length ≤ 100) {r : Env} (hlen : r.length = 25) (h1 : r[1]? = some (.val (.ref 0))) (h2 : r[2]? = some (.val (.ref 2))) (h3 : r[3]? = some (.val (.dct 0 (ownP own)))) (h5 : r[5]? = some (.val (.str x))) (h10 : r[10]? = some (.val (.lst (ws.map wrD)))) :
    ∃ r' st', b_room r st = .nx r' st' ∧ Ag [6, 10, 11, 12, 13, 14, 15, 16, 17, 18, 19, 20] r r' ∧ r'[10]? = some (.val (.lst ((ws ++ wrAdd own x).map wrD))) ∧ World 2 1 own st' := by
  obtain ⟨H, st1, e1, H0, H100, w1⟩ := h.roll 100 (by omega)
  have hll : (rowsIn own x).length ≤ 41 := hr.len
  have hown : ∀ s : St, oGet s (.val (.dct 0 (ownP own))) (.val (.str x)) = some (.lst ((rowsIn own x).map rowD)) := fun s => by
    simp only [oGet, dctOf, kOk, flatK, if_true]
    exact look_own_yes hx
  -- 1
  have L : ∀ i, i < 25 → i < r.length := fun i hi => by omega
  have s1 : sUnp (.tp [(.nm 6), (.nm 11)]) (eTup (aCons (eOp2 oGet (eV 3) (eV 5)) (aCons (eCall f_law_roll (aCons (eV 1) (aCons (eC (.int 100)) aNil))) aNil))) r st = .nx ((r.set 6 (.val (.lst ((rowsIn own x).map rowD)))).set 11 (.val (.int H))) st1 := by
    simp [-getElem?_pos, h1, h3, h5, hown, e1, lim, L 6 (by omega), L 11 (by omega)]
  obtain ⟨ra, hra⟩ : ∃ ra, ra = ((r.set 6 (.val (.lst ((rowsIn own x).map rowD)))).set 11 (.val (.int H))).set 12 (.val (.lst [])) := ⟨_, rfl⟩
  have aga : Ag [6, 10, 11, 12, 13, 14, 15, 16, 17, 18, 19, 20] r ra := by rw [hra]; exact ((Ag.set _ _ _ (by simp)).trans (Ag.set _ _ _ (by simp))).trans (Ag.set _ _ _ (by simp))
  have lena : ra.length = 25 := by rw [aga.len, hlen]
  have a6 : ra[6]? = some (.val (.lst ((rowsIn own x).map rowD))) := by rw [hra]; simp [-getElem?_pos, L 6 (by omega)]
  have a11 : ra[11]? = some (.val (.int H)) := by rw [hra]; simp [-getElem?_pos, L 11 (by omega)]
  have a12 : ra[12]? = some (.val (.lst (([] : List (Int × Int)).map pairD))) := by rw [hra]; simp [-getElem?_pos, L 12 (by omega)]
  have s2 : sSet 12 (eFrz (nLst aNil)) ((r.set 6 (.val (.lst ((rowsIn own x).map rowD)))).set 11 (.val (.int H))) st1 = .nx ra st1 := by
    rw [hra]; simp [-getElem?_pos, lim, L 12 (by omega)]
  -- 3
  obtain ⟨rb, b1, b2, b3⟩ := pairs_loop (s := st1) (H := H) hll (rowsIn own x) 0 [] ra rfl (by simp; omega) lena a6 a11 a12
  rw [List.nil_append] at b3
  have s3 : sFor (Mir.iRng1 (eOpN oLen (aCons (eV 6) aNil))) (.nm 13) b_pairs ra st1 = .nx rb st1 := by
    rw [sFor_ap]
    simp only [op1K_ap, op2B_ap, op2A_ap, acB_ap, acA_ap, opnK_ap, eifK_ap, valK_ap, frK_ap, nwK_ap, truK_ap, taK_ap, toK_ap, tnK_ap, ieK_ap, ienK_ap, no1K_ap, no2B_ap, no2A_ap, nonK_ap, chB_ap, chA_ap, etK_ap, ecK_ap, mtB_ap, mtA_ap, fdA_ap, nlK_ap, rgB_ap, rgA_ap, nlcK_ap, ownK_ap, sroK_ap, parB_ap, parA_ap, sifK_ap, sexK_ap, sfK_ap, apK_ap, iRng1_ap, eOpN_ap, aCons_ap, eV_ap, a6, slotO_val, bindok, aNil_ap, oLen_lst, List.length_map, Option.map_some, orBad_some]
    rw [rng1K_int st1 (by omega), sBind_ok, sfK_ap]
    simp only [wok_free, if_true]
    rw [show rangeD 0 ((rowsIn own x).length : Int) = idxD 0 (rowsIn own x) by rw [← range_idx (rowsIn own x) 0]; congr 1; simp]
    exact b1
  have agb := aga.trans (b2.mono (T := [6, 10, 11, 12, 13, 14, 15, 16, 17, 18, 19, 20]) (by simp))
  have lenb : rb.length = 25 := by rw [agb.len, hlen]
  have c6 := b2.get a6
  have c11 := b2.get a11
  have s4 := test1 w1 hx hr H0 lenb (agb.get h2) (agb.get h5) c6 c11 b3
  -- 5
  obtain ⟨v1, st2, q1, _, _, w2⟩ := w1.roll 200 (by omega)
  obtain ⟨v2, st3, q2, _, _, w3⟩ := w2.roll 200 (by omega)
  obtain ⟨v3, st4, q3, _, _, w4⟩ := w3.roll 50 (by omega)
  obtain ⟨v4, st5, q4, _, _, w5⟩ := w4.roll 50 (by omega)
  have L2 : ∀ i, i < 25 → i < rb.length := fun i hi => by omega
  have d1 := agb.get h1
  have s5 : sUnp (.tp [(.nm 14), (.nm 15)]) (eTup (aCons (eTup (aCons (eCall f_law_roll (aCons (eV 1) (aCons (eC (.int 200)) aNil))) (aCons (eOp2 oAdd (eC (.int 200)) (eCall f_law_roll (aCons (eV 1) (aCons (eC (.int 200)) aNil)))) aNil))) (aCons (eTup (aCons (eCall f_law_roll (aCons (eV 1) (aCons (eC (.int 50)) aNil))) (aCons (eOp2 oAdd (eC (.int 50)) (eCall f_law_roll (aCons (eV 1) (aCons (eC (.int 50)) aNil)))) aNil))) aNil))) rb st1 = .nx ((rb.set 14 (.val (pairD (v1, 200 + v2)))).set 15 (.val (pairD (v3, 50 + v4)))) st5 := by
    simp [-getElem?_pos, d1, q1, q2, q3, q4, lim, L2 14 (by omega), L2 15 (by omega), pairD]
  obtain ⟨rc, hrc⟩ : ∃ rc, rc = (rb.set 14 (.val (pairD (v1, 200 + v2)))).set 15 (.val (pairD (v3, 50 + v4))) := ⟨_, rfl⟩
  have agc : Ag [14, 15] rb rc := by rw [hrc]; exact (Ag.set _ _ _ (by simp)).trans (Ag.set _ _ _ (by simp))
  have lenc : rc.length = 25 := by rw [agc.len, lenb]
  have c14 : rc[14]? = some (.val (pairD (v1, 200 + v2))) := by rw [hrc]; simp [-getElem?_pos, L2 14 (by omega)]
  have c15 : rc[15]? = some (.val (pairD (v3, 50 + v4))) := by rw [hrc]; simp [-getElem?_pos, L2 15 (by omega)]
  have s6 := bads_ok (s := st5) lenc hll (agc.get c6) c14 c15
  -- 7
  obtain ⟨rd, hrd⟩ : ∃ rd, rd = ((rc.set 16 (.val (.lst (((rowsIn own x).map (isOut (v1, 200 + v2) (v3, 50 + v4))).map D.bl)))).set 17 (.val (.lst []))).set 18 (.val .non) := ⟨_, rfl⟩
  have agd : Ag [16, 17, 18] rc rd := by rw [hrd]; exact ((Ag.set _ _ _ (by simp)).trans (Ag.set _ _ _ (by simp))).trans (Ag.set _ _ _ (by simp))
  have lend : rd.length = 25 := by rw [agd.len, lenc]
  have L3 : ∀ i, i < 25 → i < rc.length := fun i hi => by omega
  have s7 : sPar 17 18 (.v (eFrz (nLst aNil))) (.v (eC .non)) (rc.set 16 (.val (.lst (((rowsIn own x).map (isOut (v1, 200 + v2) (v3, 50 + v4))).map D.bl)))) st5 = .nx rd st5 := by
    rw [hrd]; simp [-getElem?_pos, lim, L3 17 (by omega), L3 18 (by omega)]
  have d16 : rd[16]? = some (.val (.lst (((rowsIn own x).map (isOut (v1, 200 + v2) (v3, 50 + v4))).map D.bl))) := by rw [hrd, List.getElem?_set_ne (by omega), List.getElem?_set_ne (by omega), List.getElem?_set_self (L3 16 (by omega))]
  have d17 : rd[17]? = some (.val (.lst ((([], none) : List (Int × Int) × Option (Int × Int)).1.map pairD))) := by rw [hrd, List.getElem?_set_ne (by omega), List.getElem?_set_self (by simpa using L3 17 (by omega))]; rfl
  have d18 : rd[18]? = some (.val .non) := by rw [hrd, List.getElem?_set_self (by simpa using L3 18 (by omega))]
  have d6 := agd.get (agc.get c6)
  obtain ⟨re, g1, g2, g3⟩ := runs_loop (s := st5) (l := rowsIn own x) (warm := (v1, 200 + v2)) (wet := (v3, 50 + v4)) (rowsIn own x) 0 ([], none) .non rd rfl (by omega) (by simp [lim]; omega) lend d6 d16 d17 d18 rfl
  have s8 : sFor (Mir.iRng1 (eOp2 oAdd (eOpN oLen (aCons (eV 6) aNil)) (eC (.int 1)))) (.nm 13) b_runs rd st5 = .nx re st5 := by
    rw [sFor_ap]
    simp only [op1K_ap, op2B_ap, op2A_ap, acB_ap, acA_ap, opnK_ap, eifK_ap, valK_ap, frK_ap, nwK_ap, truK_ap, taK_ap, toK_ap, tnK_ap, ieK_ap, ienK_ap, no1K_ap, no2B_ap, no2A_ap, nonK_ap, chB_ap, chA_ap, etK_ap, ecK_ap, mtB_ap, mtA_ap, fdA_ap, nlK_ap, rgB_ap, rgA_ap, nlcK_ap, ownK_ap, sroK_ap, parB_ap, parA_ap, sifK_ap, sexK_ap, sfK_ap, apK_ap, iRng1_ap, eOp2_ap, eOpN_ap, aCons_ap, eV_ap, d6, slotO_val, bindok, aNil_ap, oLen_lst, List.length_map, Option.map_some, orBad_some, eC_ap, oAdd_int]
    rw [rng1K_int st5 (by omega), sBind_ok, sfK_ap]
    simp only [wok_free, if_true]
    rw [show rangeD 0 (((rowsIn own x).length : Int) + 1) = idxD 0 (rowsIn own x ++ [(0, 0, 0)]) by rw [← range_idx (rowsIn own x ++ [(0, 0, 0)]) 0]; congr 1; simp]
    exact g1
  -- 9
  have age : Ag [6, 10, 11, 12, 13, 14, 15, 16, 17, 18, 19, 20] r re := ((agb.trans (agc.mono (by simp))).trans (agd.mono (by simp))).trans (g2.mono (by simp))
  have lene : re.length = 25 := by rw [age.len, hlen]
  have s9 := test2 w5 hx hr (r := re) (age.get h2) (age.get h5) (g2.get (agd.get c14)) (g2.get (agd.get c15)) g3
  have e6 := g2.get d6
  have s10 := worn_ok (s := st5) hr lene e6
  obtain ⟨rf, hrf⟩ : ∃ rf, rf = re.set 20 (.val (.int (wearI (rowsIn own x)))) := ⟨_, rfl⟩
  have agf : Ag [20] re rf := by rw [hrf]; exact Ag.set _ _ _ (by simp)
  have f20 : rf[20]? = some (.val (.int (wearI (rowsIn own x)))) := by rw [hrf, List.getElem?_set_self (by omega)]
  have h10e : re[10]? = some (.val (.lst (ws.map wrD))) := by
    rw [g2.get (agd.get (agc.get (b2.get (show ra[10]? = some (.val (.lst (ws.map wrD))) by rw [hra]; simpa using h10))))]
  have s11 := test3 w5 hx hr (r := rf) (agf.get (age.get h2)) (agf.get (age.get h5)) (agf.get e6) f20
  have s12 := add_wear (st := st5) hr hw (r := rf) (by rw [agf.len, lene]) (agf.get (age.get h5)) (agf.get e6) (agf.get h10e) f20
  refine ⟨rf.set 10 (.val (.lst ((ws ++ wrAdd own x).map wrD))), st5, ?_, (age.trans (agf.mono (by simp))).trans (Ag.set _ _ _ (by simp)), List.getElem?_set_self (by rw [agf.len, lene]; omega), w5⟩
  unfold b_room
  refine (seq_nx s1).trans ?_
  refine (seq_nx s2).trans ?_
  refine (seq_nx s3).trans ?_
  refine (seq_nx ((if_f s4).trans rfl)).trans ?_
  refine (seq_nx s5).trans ?_
  rw [← hrc]
  refine (seq_nx s6).trans ?_
  refine (seq_nx s7).trans ?_
  refine (seq_nx s8).trans ?_
  refine (seq_nx ((if_f s9).trans rfl)).trans ?_
  refine (seq_nx (set_v s10 (by omega))).trans ?_
  rw [← hrf]
  refine (seq_nx ((if_f s11).trans rfl)).trans ?_
  exact s12
end K09
/-! P12: k09, plain: the whole law. -/
namespace Mir
def mkB (c : Nat) (fs : List D) (s2 : St) : Out Cell := .ok (.ins c fs) s2
@[simp] theorem mkB_ap (c : Nat) (fs : List D) (s2 : St) : mkB c fs s2 = .ok (.ins c fs) s2 := by simp only [mkB]
def makK (c : Nat) (f : XM) (s1 : St) (o : Option (List D)) : Out Cell := match o with
  | some ds => (f ds s1).bind fun fs s2 => .ok (.ins c fs) s2
  | none => .bad
@[simp] theorem makK_some (c : Nat) (f : XM) (s : St) (ds : List D) : makK c f s (some ds) = (f ds s).bind (mkB c) := rfl
def mkA (c : Nat) (f : XM) (xs : List Opd) (s1 : St) : Out Cell := makK c f s1 (valsOf xs)
@[simp] theorem mkA_ap (c : Nat) (f : XM) (xs : List Opd) (s1 : St) : mkA c f xs s1 = makK c f s1 (valsOf xs) := by simp only [mkA]
@[simp] theorem nMake_ap (c : Nat) (f : XM) (as : AM) (r : Env) (s : St) : nMake c f as r s = (as r s).bind (mkA c f) := rfl
theorem bad_cons {er : List Nat} {ret : Tx} {m : EM} {ms : List EM} {r : Env} {st : St} {x : Nat} (h : m r st = .exc x st) (hx : er.contains x = true) : badRun er ret (m :: ms) r st = badRun er ret ms r st := by
  conv => lhs; unfold badRun
  rw [told_exc h hx]
  simp
end Mir
namespace K09
open Mir
theorem init_ok (st : St) : f_Air___init__ [] st = .ok [.ref st.length] (st ++ [.dct 0 []]) := by
  simp [f_Air___init__, fnInit, b_Air___init__, sFldV, putAt]
theorem fresh {st : St} {b : Nat} (hb : b = st.length) : RoomsAt (b + 1) b (fun _ => 0) [] ((st ++ [.dct 0 []]) ++ [.ins 0 [.ref b]]) := by
  subst hb
  refine ⟨⟨?_, ?_⟩, by simp, by simp, by simp, by simp, by omega⟩
  · rw [List.getElem?_append_right (by simp)]; simp
  · rw [List.getElem?_append_left (by simp), List.getElem?_append_right (by simp)]; simp [psOf]
theorem step_gen {own : Own} {st : St} (h : World 2 1 own st) {n : Nat} (ho : OwnOk n own) (hn : n < 41) {r : Env} (hlen : r.length = 25) (h1 : r[1]? = some (.val (.ref 0))) (h2 : r[2]? = some (.val (.ref 2))) (h3 : r[3]? = some (.val (.dct 0 (ownP own)))) :
    ∃ r' st' own', b_step r st = .nx r' st' ∧ Ag [3, 5, 6, 7, 8, 9] r r' ∧ r'[3]? = some (.val (.dct 0 (ownP own'))) ∧ World 2 1 own' st' ∧ OwnOk (n + 1) own' := by
  match r, hlen with
  | [s0, s1, s2, s3, s4, s5, s6, s7, s8, s9, s10, s11, s12, s13, s14, s15, s16, s17, s18, s19, s20, s21, s22, s23, s24], _ =>
    simp only [List.getElem?_cons_succ, List.getElem?_cons_zero, Option.some.injEq] at h1 h2 h3
    subst h1; subst h2; subst h3
    obtain ⟨st', own', x5, x6, x7, x8, x9, a, b, c⟩ := step_ok h ho hn s0 s4 s5 s6 s7 s8 s9 s10 s11 s12 s13 s14 s15 s16 s17 s18 s19 s20 s21 s22 s23 s24
    refine ⟨_, st', own', a, ?_, rfl, b, c⟩
    have : Ag [3, 5, 6, 7, 8, 9] [s0, .val (.ref 0), .val (.ref 2), .val (.dct 0 (ownP own)), s4, s5, s6, s7, s8, s9, s10, s11, s12, s13, s14, s15, s16, s17, s18, s19, s20, s21, s22, s23, s24] (((((([s0, .val (.ref 0), .val (.ref 2), .val (.dct 0 (ownP own)), s4, s5, s6, s7, s8, s9, s10, s11, s12, s13, s14, s15, s16, s17, s18, s19, s20, s21, s22, s23, s24].set 3 (.val (.dct 0 (ownP own')))).set 5 x5).set 6 x6).set 7 x7).set 8 x8).set 9 x9) :=
      (((((Ag.set _ _ _ (by simp)).trans (Ag.set _ _ _ (by simp))).trans (Ag.set _ _ _ (by simp))).trans (Ag.set _ _ _ (by simp))).trans (Ag.set _ _ _ (by simp))).trans (Ag.set _ _ _ (by simp))
    exact this
theorem steps_loop : ∀ (ds : List D) (n : Nat) (own : Own) (st : St) (r : Env), World 2 1 own st → OwnOk n own → n + ds.length ≤ 41 → r.length = 25 → r[1]? = some (.val (.ref 0)) → r[2]? = some (.val (.ref 2)) → r[3]? = some (.val (.dct 0 (ownP own))) →
    ∃ r' st' own', forLoop (.nm 4) b_step .free ds r st = .nx r' st' ∧ Ag [3, 4, 5, 6, 7, 8, 9] r r' ∧ r'[3]? = some (.val (.dct 0 (ownP own'))) ∧ World 2 1 own' st' ∧ OwnOk 41 own'
  | [], n, own, st, r, hw, ho, hn, hlen, h1, h2, h3 => ⟨r, st, own, rfl, .refl _ _, h3, hw, ⟨by have := ho.len; simp at hn; omega, fun p hp => by
      obtain ⟨a, b, c⟩ := ho.rows p hp
      simp at hn
      exact ⟨a, by omega, fun y hy => by
        obtain ⟨u, v, w⟩ := c y hy
        exact ⟨u, v, by omega⟩⟩⟩⟩
  | d :: ds, n, own, st, r, hw, ho, hn, hlen, h1, h2, h3 => by
    have l4 : 4 < r.length := by omega
    have ag := Ag.set (S := [3, 4, 5, 6, 7, 8, 9]) r 4 (.val d) (by simp)
    have hn' : n + (ds.length + 1) ≤ 41 := hn
    obtain ⟨r1, st1, own1, a, b, c, e, f⟩ := step_gen hw ho (by omega) (r := r.set 4 (.val d)) (by simp [hlen]) (ag.get h1) (ag.get h2) (by rw [List.getElem?_set_ne (by omega)]; exact h3)
    have ag1 := ag.trans (b.mono (by simp))
    obtain ⟨r', st', own', p, q, u, v, w⟩ := steps_loop ds (n + 1) own1 st1 r1 e f (by omega) (by rw [ag1.len, hlen]) (ag1.get h1) (ag1.get h2) c
    refine ⟨r', st', own', ?_, ag1.trans q, u, v, w⟩
    rw [for_cons (r1 := r.set 4 (.val d)) (by simp [-getElem?_pos, l4]) a]
    exact p
theorem rows_of_ok41 {own : Own} (ho : OwnOk 41 own) {x : Tx} (hx : x ∈ keys own) : RowsOk (rowsIn own x) := by
  obtain ⟨a, b, c⟩ := ho.rows _ (rowsIn_mem hx)
  exact ⟨a, b, fun y hy => by
    obtain ⟨u, v, w⟩ := c y hy
    exact ⟨u, v, by omega⟩⟩
theorem rooms_loop {own : Own} (ho : OwnOk 41 own) : ∀ (t : List Tx) (ws : List Wr) (st : St) (r : Env), (∀ x ∈ t, x ∈ keys own) → World 2 1 own st → ws.length + t.length ≤ 100 → r.length = 25 → r[1]? = some (.val (.ref 0)) → r[2]? = some (.val (.ref 2)) → r[3]? = some (.val (.dct 0 (ownP own))) → r[10]? = some (.val (.lst (ws.map wrD))) →
    ∃ r' st', forLoop (.nm 5) b_room .free (t.map D.str) r st = .nx r' st' ∧ Ag [5, 6, 10, 11, 12, 13, 14, 15, 16, 17, 18, 19, 20] r r' ∧ r'[10]? = some (.val (.lst ((ws ++ t.flatMap (wrAdd own)).map wrD))) ∧ World 2 1 own st'
  | [], ws, st, r, _, hw, _, _, _, _, _, h10 => ⟨r, st, rfl, .refl _ _, by simpa using h10, hw⟩
  | x :: t, ws, st, r, hk, hw, hb, hlen, h1, h2, h3, h10 => by
    have l5 : 5 < r.length := by omega
    have hx := hk x List.mem_cons_self
    have hb' : ws.length + (t.length + 1) ≤ 100 := hb
    have ag := Ag.set (S := [5]) r 5 (.val (.str x)) (by simp)
    obtain ⟨r1, st1, a, b, c, e⟩ := room_ok hw hx (rows_of_ok41 ho hx) (ws := ws) (by omega) (r := r.set 5 (.val (.str x))) (by simp [hlen]) (ag.get h1) (ag.get h2) (ag.get h3) (List.getElem?_set_self l5) (ag.get h10)
    have ag1 := (ag.mono (T := [5, 6, 10, 11, 12, 13, 14, 15, 16, 17, 18, 19, 20]) (by simp)).trans (b.mono (by simp))
    have hwl : (wrAdd own x).length ≤ 1 := by unfold wrAdd; split <;> simp
    obtain ⟨r', st', p, q, u, v⟩ := rooms_loop ho t (ws ++ wrAdd own x) st1 r1 (fun y hy => hk y (List.mem_cons_of_mem _ hy)) e (by simp; omega) (by rw [ag1.len, hlen]) (ag1.get h1) (ag1.get h2) (ag1.get h3) c
    refine ⟨r', st', ?_, ag1.trans q, ?_, v⟩
    · rw [List.map_cons, for_cons (r1 := r.set 5 (.val (.str x))) (by simp [-getElem?_pos, l5]) a]
      exact p
    · rw [u]; simp
/-! ### the best -/
def pkG (b : Option Wr) (w : Wr) : Option Wr := match b with
  | none => some w
  | some q => if w.2.1 * q.2.2 < q.2.1 * w.2.2 then some w else b
def pkD : Option Wr → D
  | none => .non
  | some w => wrD w
theorem pk_br (own : Own) : ∀ (t : List Tx) (b : Best), (t.flatMap (wrAdd own)).foldl pkG (b.map fun q => (q.2.2, q.1, q.2.1)) = (t.foldl (brG own) b).map fun q => (q.2.2, q.1, q.2.1)
  | [], b => rfl
  | x :: t, b => by
    rw [List.flatMap_cons, List.foldl_append, List.foldl_cons, ← pk_br own t (brG own b x)]
    congr 1
    unfold wrAdd brG
    by_cases c : 1 < (rowsIn own x).length
    · simp only [c, if_true, List.foldl_cons, List.foldl_nil]
      cases b with
      | none => rfl
      | some q =>
        simp only [Option.map_some, pkG]
        split <;> rfl
    · simp only [c, if_false, List.foldl_nil]
theorem pick_loop {st : St} : ∀ (ws : List Wr) (b : Option Wr) (r : Env), (∀ w ∈ ws, small64 w.2.2 = true) → (∀ q, b = some q → small64 q.2.2 = true) → r.length = 25 → r[21]? = some (.val (pkD b)) →
    ∃ r', forLoop (.tp [.nm 5, .nm 20, .nm 11]) b_pick .free (ws.map wrD) r st = .nx r' st ∧ Ag [5, 11, 20, 21] r r' ∧ r'[21]? = some (.val (pkD (ws.foldl pkG b)))
  | [], b, r, _, _, _, h => ⟨r, rfl, .refl _ _, h⟩
  | w :: ws, b, r, hs, hb, hlen, h => by
    have L : ∀ i, i < 25 → i < r.length := fun i hi => by omega
    obtain ⟨r1, hr1⟩ : ∃ r1, r1 = ((r.set 5 (.val (.str w.1))).set 20 (.val (.int w.2.1))).set 11 (.val (.int w.2.2)) := ⟨_, rfl⟩
    have ag1 : Ag [5, 11, 20] r r1 := by rw [hr1]; exact ((Ag.set _ _ _ (by simp)).trans (Ag.set _ _ _ (by simp))).trans (Ag.set _ _ _ (by simp))
    have e5 : r1[5]? = some (.val (.str w.1)) := by rw [hr1]; simp [-getElem?_pos, L 5 (by omega)]
    have e20 : r1[20]? = some (.val (.int w.2.1)) := by rw [hr1]; simp [-getElem?_pos, L 20 (by omega)]
    have e11 : r1[11]? = some (.val (.int w.2.2)) := by rw [hr1]; simp [-getElem?_pos, L 11 (by omega)]
    have e21 := ag1.get h
    have hw := hs w List.mem_cons_self
    have l21 : 21 < r1.length := by rw [ag1.len]; omega
    have one : ∃ r2, b_pick r1 st = .nx r2 st ∧ Ag [21] r1 r2 ∧ r2[21]? = some (.val (pkD (pkG b w))) := by
      cases b with
      | none =>
        simp only [pkD] at e21
        refine ⟨r1.set 21 (.val (wrD w)), ?_, Ag.set _ _ _ (by simp), by simp [-getElem?_pos, l21, pkG, pkD]⟩
        simp [-getElem?_pos, b_pick, e5, e20, e11, e21, l21, lim, wrD]
      | some q =>
        have hq := hb q rfl
        have m1 : oMul st (.val (.int w.2.1)) (.val (.int q.2.2)) = some (.int (w.2.1 * q.2.2)) := if_pos (.inr hq)
        have m2 : oMul st (.val (.int q.2.1)) (.val (.int w.2.2)) = some (.int (q.2.1 * w.2.2)) := if_pos (.inr hw)
        simp only [pkD, wrD] at e21
        by_cases c : w.2.1 * q.2.2 < q.2.1 * w.2.2
        · refine ⟨r1.set 21 (.val (wrD w)), ?_, Ag.set _ _ _ (by simp), by simp [-getElem?_pos, l21, pkG, pkD, c]⟩
          simp [-getElem?_pos, b_pick, e5, e20, e11, e21, l21, lim, wrD, m1, m2, c]
        · refine ⟨r1, ?_, .refl _ _, by simp [-getElem?_pos, e21, pkG, pkD, c, wrD]⟩
          simp [-getElem?_pos, b_pick, e5, e20, e11, e21, l21, lim, wrD, m1, m2, c]
    obtain ⟨r2, p1, p2, p3⟩ := one
    have ag2 := (ag1.mono (T := [5, 11, 20, 21]) (by simp)).trans (p2.mono (by simp))
    have hb2 : ∀ q, pkG b w = some q → small64 q.2.2 = true := fun q hq => by
      unfold pkG at hq
      cases b with
      | none => cases hq; exact hw
      | some z =>
        dsimp only at hq
        split at hq
        · cases hq; exact hw
        · exact hb q hq
    obtain ⟨r', k1, k2, k3⟩ := pick_loop ws (pkG b w) r2 (fun v hv => hs v (List.mem_cons_of_mem _ hv)) hb2 (by rw [ag2.len, hlen]) p3
    refine ⟨r', ?_, ag2.trans k2, k3⟩
    rw [List.map_cons, for_cons (r1 := r1) (by rw [hr1]; simp [-getElem?_pos, wrD, L 5 (by omega), L 20 (by omega), L 11 (by omega)]) p1]
    exact k1
theorem keys_len {own : Own} (ho : OwnOk 41 own) : (keys own).length ≤ 41 := by have := ho.len; simpa [keys] using this
theorem round_ok {st : St} (hd : DiceAt st) (hl : st.length = 1) {r : Env} (hlen : r.length = 25) (h1 : r[1]? = some (.val (.ref 0))) : ∃ r' st', b_round r st = .nx r' st' ∧ r'.length = 25 := by
  have L : ∀ i, i < 25 → i < r.length := fun i hi => by omega
  obtain ⟨sa, hsa⟩ : ∃ sa, sa = (st ++ [.dct 0 []]) ++ [.ins 0 [.ref 1]] := ⟨_, rfl⟩
  obtain ⟨ra, hra⟩ : ∃ ra, ra = (r.set 2 (.val (.ref 2))).set 3 (.val (.dct 0 [])) := ⟨_, rfl⟩
  have s1 : sUnp (.tp [(.nm 2), (.nm 3)]) (eTup (aCons (eNew (nMake 0 f_Air___init__ aNil)) (aCons (eFrz (nDct0 0)) aNil))) r st = .nx ra sa := by
    rw [hra, hsa]
    simp [-getElem?_pos, init_ok, hl, lim, L 2 (by omega), L 3 (by omega)]
  have hw : World 2 1 [] sa := by
    refine ⟨?_, ⟨_, by rw [hsa]; exact fresh hl.symm⟩, by omega⟩
    obtain ⟨a, b, c, e⟩ := hd
    refine ⟨a, b, c, ?_⟩
    rw [hsa, List.getElem?_append_left (by simp), List.getElem?_append_left (by omega)]
    exact e
  have aga : Ag [2, 3] r ra := by rw [hra]; exact (Ag.set _ _ _ (by simp)).trans (Ag.set _ _ _ (by simp))
  have lena : ra.length = 25 := by rw [aga.len, hlen]
  have a1 := aga.get h1
  have a2 : ra[2]? = some (.val (.ref 2)) := by rw [hra]; simp [-getElem?_pos, L 2 (by omega)]
  have a3 : ra[3]? = some (.val (.dct 0 (ownP []))) := by rw [hra]; simp [-getElem?_pos, L 3 (by omega), ownP]
  -- the readings
  obtain ⟨v, sb, q, v0, v41, wb⟩ := hw.roll 41 (by omega)
  have hds : (rangeD 0 v).length ≤ 40 := by unfold rangeD; simp; omega
  obtain ⟨rc, sc, own, c1, c2, c3, wc, ho⟩ := steps_loop (rangeD 0 v) 0 [] sb ra wb ⟨by simp, by simp⟩ (by omega) lena a1 a2 a3
  have s2 : sFor (Mir.iRng1 (eCall f_law_roll (aCons (eV 1) (aCons (eC (.int 41)) aNil)))) (.nm 4) b_step ra sa = .nx rc sc := by
    rw [sFor_ap]
    simp only [op1K_ap, op2B_ap, op2A_ap, acB_ap, acA_ap, opnK_ap, eifK_ap, valK_ap, frK_ap, nwK_ap, truK_ap, taK_ap, toK_ap, tnK_ap, ieK_ap, ienK_ap, no1K_ap, no2B_ap, no2A_ap, nonK_ap, chB_ap, chA_ap, etK_ap, ecK_ap, mtB_ap, mtA_ap, fdA_ap, nlK_ap, rgB_ap, rgA_ap, nlcK_ap, ownK_ap, sroK_ap, parB_ap, parA_ap, sifK_ap, sexK_ap, sfK_ap, apK_ap, iRng1_ap, eCall_ap, aCons_ap, eV_ap, a1, slotO_val, bindok, eC_ap, aNil_ap, valsOf_cons, valsOf_nil, Option.map_some, callK_some, q]
    rw [rng1K_int sb (by omega), sBind_ok, sfK_ap]
    simp only [wok_free, if_true]
    exact c1
  have lenc : rc.length = 25 := by rw [c2.len, lena]
  have Lc : ∀ i, i < 25 → i < rc.length := fun i hi => by omega
  -- the rooms
  obtain ⟨addr, rm⟩ := wc.rooms
  have hkl := keys_len ho
  have hsort : ∀ s : St, nSorted s [.val (.dct 0 (ownP own))] = some (.lst ((sortT (keys own)).map D.str)) := fun s =>
    sorted_dct (ps := ownP own) (l := keys own) rfl (by simp [ownP, keys]) (by omega)
  obtain ⟨rd, hrd⟩ : ∃ rd, rd = rc.set 10 (.val (.lst (([] : List Wr).map wrD))) := ⟨_, rfl⟩
  have s3 : sSet 10 (eFrz (nLst aNil)) rc sc = .nx rd sc := by rw [hrd]; simp [-getElem?_pos, lim, Lc 10 (by omega)]
  have agd : Ag [10] rc rd := by rw [hrd]; exact Ag.set _ _ _ (by simp)
  have lend : rd.length = 25 := by rw [agd.len, lenc]
  obtain ⟨re, se, e1, e2, e3, we⟩ := rooms_loop ho (sortT (keys own)) [] sc rd (fun x hx => mem_sortT.mp hx) wc (by simp [sortT_len]; omega) lend (agd.get (c2.get a1)) (agd.get (c2.get a2)) (agd.get c3) (by rw [hrd, List.getElem?_set_self (Lc 10 (by omega))])
  rw [List.nil_append] at e3
  have d3 := agd.get c3
  have s4 : sFor (iE (eFrz (nOpN nSorted (aCons (eV 3) aNil)))) (.nm 5) b_room rd sc = .nx re se := by
    rw [sFor_ap]
    simp only [op1K_ap, op2B_ap, op2A_ap, acB_ap, acA_ap, opnK_ap, eifK_ap, valK_ap, frK_ap, nwK_ap, truK_ap, taK_ap, toK_ap, tnK_ap, ieK_ap, ienK_ap, no1K_ap, no2B_ap, no2A_ap, nonK_ap, chB_ap, chA_ap, etK_ap, ecK_ap, mtB_ap, mtA_ap, fdA_ap, nlK_ap, rgB_ap, rgA_ap, nlcK_ap, ownK_ap, sroK_ap, parB_ap, parA_ap, sifK_ap, sexK_ap, sfK_ap, apK_ap, iE_ap, eFrz_ap, nOpN_ap, aCons_ap, eV_ap, d3, slotO_val, bindok, aNil_ap, hsort, orBad_some, frz_lst, Option.map_some, items_lst, sBind_ok, wok_free, if_true]
    exact e1
  have lene : re.length = 25 := by rw [e2.len, lend]
  have Le : ∀ i, i < 25 → i < re.length := fun i hi => by omega
  -- the best
  obtain ⟨rf, hrf⟩ : ∃ rf, rf = re.set 21 (.val (pkD none)) := ⟨_, rfl⟩
  have s5 : sSet 21 (eC .non) re se = .nx rf se := by rw [hrf]; simp [-getElem?_pos, Le 21 (by omega), pkD]
  have agf : Ag [21] re rf := by rw [hrf]; exact Ag.set _ _ _ (by simp)
  have lenf : rf.length = 25 := by rw [agf.len, lene]
  have hsm : ∀ w ∈ (sortT (keys own)).flatMap (wrAdd own), small64 w.2.2 = true := fun w hw => by
    obtain ⟨x, hx, hw⟩ := List.mem_flatMap.mp hw
    unfold wrAdd at hw
    split at hw
    · simp only [List.mem_singleton] at hw
      subst hw
      exact small_span (rows_of_ok41 ho (mem_sortT.mp hx))
    · cases hw
  obtain ⟨rg, g1, g2, g3⟩ := pick_loop (st := se) ((sortT (keys own)).flatMap (wrAdd own)) none rf hsm (fun q hq => by cases hq) lenf (by rw [hrf, List.getElem?_set_self (Le 21 (by omega))])
  have f10 := agf.get e3
  have s6 : sFor (iE (eV 10)) (.tp [(.nm 5), (.nm 20), (.nm 11)]) b_pick rf se = .nx rg se := by
    rw [sFor_ap]
    simp only [op1K_ap, op2B_ap, op2A_ap, acB_ap, acA_ap, opnK_ap, eifK_ap, valK_ap, frK_ap, nwK_ap, truK_ap, taK_ap, toK_ap, tnK_ap, ieK_ap, ienK_ap, no1K_ap, no2B_ap, no2A_ap, nonK_ap, chB_ap, chA_ap, etK_ap, ecK_ap, mtB_ap, mtA_ap, fdA_ap, nlK_ap, rgB_ap, rgA_ap, nlcK_ap, ownK_ap, sroK_ap, parB_ap, parA_ap, sifK_ap, sexK_ap, sfK_ap, apK_ap, iE_ap, eV_ap, f10, slotO_val, bindok, orBad_some, items_lst, sBind_ok, wok_free, if_true]
    exact g1
  have heq := pk_br own (sortT (keys own)) none
  rw [Option.map_none] at heq
  rw [heq] at g3
  -- the test
  have k2 : rg[2]? = some (.val (.ref 2)) := g2.get (agf.get (e2.get (agd.get (c2.get a2))))
  have k3 : rg[3]? = some (.val (.dct 0 (ownP own))) := g2.get (agf.get (e2.get d3))
  obtain ⟨addr2, rm2⟩ := we.rooms
  have hbest := best_ok rm2 (xs := (sortT (keys own)).reverse) (by simp [sortT_len]; omega) (fun x hx => by
    have := mem_sortT.mp (List.mem_reverse.mp hx)
    exact ⟨this, rows_of_ok41 ho this⟩)
  rw [sortT_rev, sortT_idem] at hbest
  have hm : eMeth 0 f_Air_best_room (eV 2) (aCons (eFrz (nRev (eFrz (nOpN nSorted (aCons (eV 3) aNil))))) aNil) rg se = (f_Air_best_room [.ref 2, .lst ((sortT (keys own)).reverse.map D.str)] se).bind valK := by
    simp only [op1K_ap, op2B_ap, op2A_ap, acB_ap, acA_ap, opnK_ap, eifK_ap, valK_ap, frK_ap, nwK_ap, truK_ap, taK_ap, toK_ap, tnK_ap, ieK_ap, ienK_ap, no1K_ap, no2B_ap, no2A_ap, nonK_ap, chB_ap, chA_ap, etK_ap, ecK_ap, mtB_ap, mtA_ap, fdA_ap, nlK_ap, rgB_ap, rgA_ap, nlcK_ap, ownK_ap, sroK_ap, parB_ap, parA_ap, sifK_ap, sexK_ap, sfK_ap, apK_ap, eMeth_ap, eV_ap, k2, slotO_val, bindok, insOf_ref, rm2.air.ins, insK_some, methK_some, aCons_ap, aNil_ap, eFrz_ap, nRev, nOpN_ap, k3, hsort, orBad_some, frz_lst, Option.map_some, listOf, valsOf_cons, valsOf_nil, callK_some, List.map_reverse]
  have t : tE (eOp2 oNe (eTold [1] [76, 111, 97, 110, 69, 114, 114, 111, 114] (eMeth 0 f_Air_best_room (eV 2) (aCons (eFrz (nRev (eFrz (nOpN nSorted (aCons (eV 3) aNil))))) aNil))) (eIf (tE (eOp2 oNotN (eV 21) (eC .non))) (eOp2 oGet (eV 21) (eC (.int 0))) (eC (.str [76, 111, 97, 110, 69, 114, 114, 111, 114])))) rg se = .ok false se := by
    cases hf : (sortT (keys own)).foldl (brG own) none with
    | none =>
      rw [hf] at hbest g3
      rw [hbest, bindexc] at hm
      rw [Option.map_none, pkD] at g3
      rw [tE_ap, eOp2_ap, told_exc hm rfl]
      simp [g3]
    | some z =>
      rw [hf] at hbest g3
      rw [hbest, bindok, valK_ap] at hm
      rw [Option.map_some, pkD] at g3
      rw [tE_ap, eOp2_ap, told_ok hm]
      simp [g3, wrD]
  refine ⟨rg, se, ?_, by rw [g2.len, lenf]⟩
  unfold b_round
  refine (seq_nx s1).trans ?_
  refine (seq_nx s2).trans ?_
  refine (seq_nx s3).trans ?_
  refine (seq_nx s4).trans ?_
  refine (seq_nx s5).trans ?_
  refine (seq_nx s6).trans ?_
  exact (if_f t).trans rfl
theorem law_true (ns : List Int) : ∃ st', f_law [.scr (ns.map D.int)] [] = .ok (.bl true) st' := by
  obtain ⟨st0, h0, hd, hl⟩ := rounds_ok ns
  obtain ⟨r1, st1, b1, len1⟩ := round_ok hd hl (r := [.val (.scr (ns.map D.int)), .val (.ref 0), .no, .no, .no, .no, .no, .no, .no, .no, .no, .no, .no, .no, .no, .no, .no, .no, .no, .no, .no, .no, .no, .no, .no]) rfl rfl
  have L : ∀ i, i < 25 → i < r1.length := fun i hi => by omega
  have s1 : sFor (iE (eCall f_law_rounds (aCons (eV 0) (aCons (eC (.int 1)) aNil)))) (.nm 1) b_round ([D.scr (ns.map D.int)].map Slot.val ++ List.replicate (25 - 1) Slot.no) [] = .nx r1 st1 := by
    rw [sFor_ap]
    have : ([D.scr (ns.map D.int)].map Slot.val ++ List.replicate (25 - 1) Slot.no)[0]? = some (.val (.scr (ns.map D.int))) := rfl
    simp only [op1K_ap, op2B_ap, op2A_ap, acB_ap, acA_ap, opnK_ap, eifK_ap, valK_ap, frK_ap, nwK_ap, truK_ap, taK_ap, toK_ap, tnK_ap, ieK_ap, ienK_ap, no1K_ap, no2B_ap, no2A_ap, nonK_ap, chB_ap, chA_ap, etK_ap, ecK_ap, mtB_ap, mtA_ap, fdA_ap, nlK_ap, rgB_ap, rgA_ap, nlcK_ap, ownK_ap, sroK_ap, parB_ap, parA_ap, sifK_ap, sexK_ap, sfK_ap, apK_ap, iE_ap, eCall_ap, aCons_ap, eV_ap, this, slotO_val, bindok, eC_ap, aNil_ap, valsOf_cons, valsOf_nil, Option.map_some, callK_some, h0, orBad_some, items_lst, sBind_ok, wok_free, if_true]
    rw [for_cons (r1 := [.val (.scr (ns.map D.int)), .val (.ref 0), .no, .no, .no, .no, .no, .no, .no, .no, .no, .no, .no, .no, .no, .no, .no, .no, .no, .no, .no, .no, .no, .no, .no]) rfl b1, for_nil]
  -- a new Air, one reading
  obtain ⟨b, hb⟩ : ∃ b, b = st1.length := ⟨_, rfl⟩
  have rm0 := fresh hb
  obtain ⟨sa, hsa⟩ : ∃ sa, sa = (st1 ++ [.dct 0 []]) ++ [.ins 0 [.ref b]] := ⟨_, rfl⟩
  rw [← hsa] at rm0
  have s2 : sSet 2 (eNew (nMake 0 f_Air___init__ aNil)) r1 st1 = .nx (r1.set 2 (.val (.ref (b + 1)))) sa := by
    rw [hsa]
    simp [-getElem?_pos, init_ok, ← hb, L 2 (by omega)]
  obtain ⟨addr, sb, hrd, rm, _⟩ := rm0.read [97] (0, 150, 50) rfl (by simp [rowsIn]) (by simp [lim])
  have hown : ownAdd [] [97] (0, 150, 50) = [([97], [(0, 150, 50)])] := rfl
  rw [hown] at rm
  obtain ⟨r2, hr2⟩ : ∃ r2, r2 = r1.set 2 (.val (.ref (b + 1))) := ⟨_, rfl⟩
  have a2 : r2[2]? = some (.val (.ref (b + 1))) := by rw [hr2, List.getElem?_set_self (L 2 (by omega))]
  rw [← hr2] at s2
  have i0 := rm0.air.ins
  have s3 : sExpr (eMeth 0 f_Air_read (eV 2) (aCons (eC (.str [97])) (aCons (eC (.int 0)) (aCons (eC (.int 150)) (aCons (eC (.int 50)) aNil))))) r2 sa = .nx r2 sb := by
    simp only [op1K_ap, op2B_ap, op2A_ap, acB_ap, acA_ap, opnK_ap, eifK_ap, valK_ap, frK_ap, nwK_ap, truK_ap, taK_ap, toK_ap, tnK_ap, ieK_ap, ienK_ap, no1K_ap, no2B_ap, no2A_ap, nonK_ap, chB_ap, chA_ap, etK_ap, ecK_ap, mtB_ap, mtA_ap, fdA_ap, nlK_ap, rgB_ap, rgA_ap, nlcK_ap, ownK_ap, sroK_ap, parB_ap, parA_ap, sifK_ap, sexK_ap, sfK_ap, apK_ap, sExpr_ap, eMeth_ap, eV_ap, a2, slotO_val, bindok, insOf_ref, i0, insK_some, methK_some, aCons_ap, eC_ap, aNil_ap, valsOf_cons, valsOf_nil, Option.map_some, callK_some, hrd, sBind_ok]
  -- what cannot be
  have l16 : 16 < r2.length := by rw [hr2]; simp; omega
  have l24 : 24 < r2.length := by rw [hr2]; simp; omega
  obtain ⟨r3, hr3⟩ : ∃ r3, r3 = r2.set 16 .no := ⟨_, rfl⟩
  have c2 : r3[2]? = some (.val (.ref (b + 1))) := by rw [hr3, List.getElem?_set_ne (by omega)]; exact a2
  have ii := rm.air.ins
  have kb : ([98] : Tx) ∉ keys [([97], [((0 : Int), (150 : Int), (50 : Int))])] := by decide
  have ka : ([97] : Tx) ∈ keys [([97], [((0 : Int), (150 : Int), (50 : Int))])] := by decide
  have rowsa : rowsIn [([97], [((0 : Int), (150 : Int), (50 : Int))])] [97] = [(0, 150, 50)] := rfl
  have rA : RowsOk (rowsIn [([97], [((0 : Int), (150 : Int), (50 : Int))])] [97]) := by
    rw [rowsa]
    exact ⟨by simp, by simp, fun y hy => by simp at hy; subst hy; unfold InR; decide⟩
  have rd : ∀ y : Row, goodR [(0, 150, 50)] y = false → f_Air_read [.ref (b + 1), .str [97], .int y.1, .int y.2.1, .int y.2.2] sb = .exc 1 sb := fun y hy =>
    read_no rm.air (rm.cur [97]) (by rw [rowsa]; simp [lim]) (by rw [rowsa]; exact hy)
  have rd1 := rd (0, 150, 50) (by decide)
  have rd2 := rd (1, 601, 50) (by decide)
  have rd3 := rd (1, -401, 50) (by decide)
  have rd4 := rd (1, 0, -1) (by decide)
  have ro := rm.no kb
  have sw1 := swing_neg (H := -1) rm.air (rm.yes ka) (by omega)
  have sw2 := swing_no rm kb 1
  have ou := outside_no rm kb (.tup [.int 0, .int 1]) (.tup [.int 0, .int 1])
  have we := wear_no rm kb
  have be1 := best_ok rm (xs := [[97]]) (by simp) (fun x hx => by simp at hx; subst hx; exact ⟨ka, rA⟩)
  have be2 := best_ok rm (xs := []) (by simp) (fun x hx => by cases hx)
  have be3 := best_no rm kb
  have f1 : (sortT [[97]]).foldl (brG [([97], [(0, 150, 50)])]) none = none := by
    simp [sortT, insT, brG, rowsa]
  rw [f1] at be1
  have f2 : (sortT []).foldl (brG [([97], [(0, 150, 50)])]) none = none := rfl
  rw [f2] at be2
  simp only [List.map_cons, List.map_nil] at be1 be2
  have ch : ([1] : List Nat).contains 1 = true := rfl
  have hrate := fun w m h => rate_of_eq w m sb h
  have q1 := hrate 150 60 (by omega)
  have q2 := hrate 151 60 (by omega)
  have q3 := hrate 100 61 (by omega)
  have q4 := hrate (-400) 0 (by omega)
  have v1 : rateI 150 60 = 64 := by decide +kernel
  have v2 : rateI 151 60 = 128 := by decide +kernel
  have v3 : rateI 100 61 = 64 := by decide +kernel
  have v4 : rateI (-400) 0 = 1 := by decide +kernel
  rw [v1] at q1; rw [v2] at q2; rw [v3] at q3; rw [v4] at q4
  have hwear := wear_ok rm.air (rm.yes ka) (fun y hy => (rA.inr y hy).1)
  have hw0 : wearI (rowsIn [([97], [((0 : Int), (150 : Int), (50 : Int))])] [97]) = 0 := rfl
  rw [hw0] at hwear
  have he : oEq sb (.val (.lst [.int 64, .int 128, .int 64, .int 1])) (.val (.lst [.int 64, .int 128, .int 64, .int 1])) = some (.bl true) := by
    unfold oEq; rw [eqD_refl (fun n e => by cases e) (by decide)]; rfl
  refine ⟨sb, fn_rt rfl ?_⟩
  rw [b_law_same]
  unfold b_law_cut
  refine (seq_nx s1).trans ?_
  refine (seq_nx s2).trans ?_
  refine (seq_nx s3).trans ?_
  unfold sBad
  rw [if_pos l16, ← hr3]
  unfold sBadThen
  rw [bad_cons (x := 1) (by simp only [op1K_ap, op2B_ap, op2A_ap, acB_ap, acA_ap, opnK_ap, eifK_ap, valK_ap, frK_ap, nwK_ap, truK_ap, taK_ap, toK_ap, tnK_ap, ieK_ap, ienK_ap, no1K_ap, no2B_ap, no2A_ap, nonK_ap, chB_ap, chA_ap, etK_ap, ecK_ap, mtB_ap, mtA_ap, fdA_ap, nlK_ap, rgB_ap, rgA_ap, nlcK_ap, ownK_ap, sroK_ap, parB_ap, parA_ap, sifK_ap, sexK_ap, sfK_ap, apK_ap, eMeth_ap, eV_ap, c2, slotO_val, bindok, insOf_ref, ii, insK_some, methK_some, aCons_ap, eC_ap, aNil_ap, valsOf_cons, valsOf_nil, Option.map_some, callK_some, rd1, bindexc]) ch,
    bad_cons (x := 1) (by simp only [op1K_ap, op2B_ap, op2A_ap, acB_ap, acA_ap, opnK_ap, eifK_ap, valK_ap, frK_ap, nwK_ap, truK_ap, taK_ap, toK_ap, tnK_ap, ieK_ap, ienK_ap, no1K_ap, no2B_ap, no2A_ap, nonK_ap, chB_ap, chA_ap, etK_ap, ecK_ap, mtB_ap, mtA_ap, fdA_ap, nlK_ap, rgB_ap, rgA_ap, nlcK_ap, ownK_ap, sroK_ap, parB_ap, parA_ap, sifK_ap, sexK_ap, sfK_ap, apK_ap, eMeth_ap, eV_ap, c2, slotO_val, bindok, insOf_ref, ii, insK_some, methK_some, aCons_ap, eC_ap, aNil_ap, valsOf_cons, valsOf_nil, Option.map_some, callK_some, rd2, bindexc]) ch,
    bad_cons (x := 1) (by simp only [op1K_ap, op2B_ap, op2A_ap, acB_ap, acA_ap, opnK_ap, eifK_ap, valK_ap, frK_ap, nwK_ap, truK_ap, taK_ap, toK_ap, tnK_ap, ieK_ap, ienK_ap, no1K_ap, no2B_ap, no2A_ap, nonK_ap, chB_ap, chA_ap, etK_ap, ecK_ap, mtB_ap, mtA_ap, fdA_ap, nlK_ap, rgB_ap, rgA_ap, nlcK_ap, ownK_ap, sroK_ap, parB_ap, parA_ap, sifK_ap, sexK_ap, sfK_ap, apK_ap, eMeth_ap, eV_ap, c2, slotO_val, bindok, insOf_ref, ii, insK_some, methK_some, aCons_ap, eC_ap, aNil_ap, valsOf_cons, valsOf_nil, Option.map_some, callK_some, eOp1_ap, oNeg_int, orBad_some, rd3, bindexc]) ch,
    bad_cons (x := 1) (by simp only [op1K_ap, op2B_ap, op2A_ap, acB_ap, acA_ap, opnK_ap, eifK_ap, valK_ap, frK_ap, nwK_ap, truK_ap, taK_ap, toK_ap, tnK_ap, ieK_ap, ienK_ap, no1K_ap, no2B_ap, no2A_ap, nonK_ap, chB_ap, chA_ap, etK_ap, ecK_ap, mtB_ap, mtA_ap, fdA_ap, nlK_ap, rgB_ap, rgA_ap, nlcK_ap, ownK_ap, sroK_ap, parB_ap, parA_ap, sifK_ap, sexK_ap, sfK_ap, apK_ap, eMeth_ap, eV_ap, c2, slotO_val, bindok, insOf_ref, ii, insK_some, methK_some, aCons_ap, eC_ap, aNil_ap, valsOf_cons, valsOf_nil, Option.map_some, callK_some, eOp1_ap, oNeg_int, orBad_some, rd4, bindexc]) ch,
    bad_cons (x := 1) (by simp only [op1K_ap, op2B_ap, op2A_ap, acB_ap, acA_ap, opnK_ap, eifK_ap, valK_ap, frK_ap, nwK_ap, truK_ap, taK_ap, toK_ap, tnK_ap, ieK_ap, ienK_ap, no1K_ap, no2B_ap, no2A_ap, nonK_ap, chB_ap, chA_ap, etK_ap, ecK_ap, mtB_ap, mtA_ap, fdA_ap, nlK_ap, rgB_ap, rgA_ap, nlcK_ap, ownK_ap, sroK_ap, parB_ap, parA_ap, sifK_ap, sexK_ap, sfK_ap, apK_ap, eMeth_ap, eV_ap, c2, slotO_val, bindok, insOf_ref, ii, insK_some, methK_some, aCons_ap, eC_ap, aNil_ap, valsOf_cons, valsOf_nil, Option.map_some, callK_some, ro, bindexc]) ch,
    bad_cons (x := 1) (by simp only [op1K_ap, op2B_ap, op2A_ap, acB_ap, acA_ap, opnK_ap, eifK_ap, valK_ap, frK_ap, nwK_ap, truK_ap, taK_ap, toK_ap, tnK_ap, ieK_ap, ienK_ap, no1K_ap, no2B_ap, no2A_ap, nonK_ap, chB_ap, chA_ap, etK_ap, ecK_ap, mtB_ap, mtA_ap, fdA_ap, nlK_ap, rgB_ap, rgA_ap, nlcK_ap, ownK_ap, sroK_ap, parB_ap, parA_ap, sifK_ap, sexK_ap, sfK_ap, apK_ap, eMeth_ap, eV_ap, c2, slotO_val, bindok, insOf_ref, ii, insK_some, methK_some, aCons_ap, eC_ap, aNil_ap, valsOf_cons, valsOf_nil, Option.map_some, callK_some, eOp1_ap, oNeg_int, orBad_some, sw1, bindexc]) ch,
    bad_cons (x := 1) (by simp only [op1K_ap, op2B_ap, op2A_ap, acB_ap, acA_ap, opnK_ap, eifK_ap, valK_ap, frK_ap, nwK_ap, truK_ap, taK_ap, toK_ap, tnK_ap, ieK_ap, ienK_ap, no1K_ap, no2B_ap, no2A_ap, nonK_ap, chB_ap, chA_ap, etK_ap, ecK_ap, mtB_ap, mtA_ap, fdA_ap, nlK_ap, rgB_ap, rgA_ap, nlcK_ap, ownK_ap, sroK_ap, parB_ap, parA_ap, sifK_ap, sexK_ap, sfK_ap, apK_ap, eMeth_ap, eV_ap, c2, slotO_val, bindok, insOf_ref, ii, insK_some, methK_some, aCons_ap, eC_ap, aNil_ap, valsOf_cons, valsOf_nil, Option.map_some, callK_some, sw2, bindexc]) ch,
    bad_cons (x := 1) (by simp only [op1K_ap, op2B_ap, op2A_ap, acB_ap, acA_ap, opnK_ap, eifK_ap, valK_ap, frK_ap, nwK_ap, truK_ap, taK_ap, toK_ap, tnK_ap, ieK_ap, ienK_ap, no1K_ap, no2B_ap, no2A_ap, nonK_ap, chB_ap, chA_ap, etK_ap, ecK_ap, mtB_ap, mtA_ap, fdA_ap, nlK_ap, rgB_ap, rgA_ap, nlcK_ap, ownK_ap, sroK_ap, parB_ap, parA_ap, sifK_ap, sexK_ap, sfK_ap, apK_ap, eMeth_ap, eV_ap, c2, slotO_val, bindok, insOf_ref, ii, insK_some, methK_some, aCons_ap, eC_ap, aNil_ap, valsOf_cons, valsOf_nil, Option.map_some, callK_some, eTup_ap, tupK_some, List.length_cons, List.length_nil, show (0 + 1 + 1 ≤ lim) = True by simp [lim], if_true, ou, bindexc]) ch,
    bad_cons (x := 1) (by simp only [op1K_ap, op2B_ap, op2A_ap, acB_ap, acA_ap, opnK_ap, eifK_ap, valK_ap, frK_ap, nwK_ap, truK_ap, taK_ap, toK_ap, tnK_ap, ieK_ap, ienK_ap, no1K_ap, no2B_ap, no2A_ap, nonK_ap, chB_ap, chA_ap, etK_ap, ecK_ap, mtB_ap, mtA_ap, fdA_ap, nlK_ap, rgB_ap, rgA_ap, nlcK_ap, ownK_ap, sroK_ap, parB_ap, parA_ap, sifK_ap, sexK_ap, sfK_ap, apK_ap, eMeth_ap, eV_ap, c2, slotO_val, bindok, insOf_ref, ii, insK_some, methK_some, aCons_ap, eC_ap, aNil_ap, valsOf_cons, valsOf_nil, Option.map_some, callK_some, we, bindexc]) ch,
    bad_cons (x := 1) (by simp only [op1K_ap, op2B_ap, op2A_ap, acB_ap, acA_ap, opnK_ap, eifK_ap, valK_ap, frK_ap, nwK_ap, truK_ap, taK_ap, toK_ap, tnK_ap, ieK_ap, ienK_ap, no1K_ap, no2B_ap, no2A_ap, nonK_ap, chB_ap, chA_ap, etK_ap, ecK_ap, mtB_ap, mtA_ap, fdA_ap, nlK_ap, rgB_ap, rgA_ap, nlcK_ap, ownK_ap, sroK_ap, parB_ap, parA_ap, sifK_ap, sexK_ap, sfK_ap, apK_ap, eMeth_ap, eV_ap, c2, slotO_val, bindok, insOf_ref, ii, insK_some, methK_some, aCons_ap, eC_ap, aNil_ap, valsOf_cons, valsOf_nil, Option.map_some, callK_some, eFrz_ap, nLst_ap, lstK_some, List.length_cons, List.length_nil, show (0 + 1 ≤ lim) = True by simp [lim], if_true, frz_lst, orBad_some, be1, bindexc]) ch,
    bad_cons (x := 1) (by simp only [op1K_ap, op2B_ap, op2A_ap, acB_ap, acA_ap, opnK_ap, eifK_ap, valK_ap, frK_ap, nwK_ap, truK_ap, taK_ap, toK_ap, tnK_ap, ieK_ap, ienK_ap, no1K_ap, no2B_ap, no2A_ap, nonK_ap, chB_ap, chA_ap, etK_ap, ecK_ap, mtB_ap, mtA_ap, fdA_ap, nlK_ap, rgB_ap, rgA_ap, nlcK_ap, ownK_ap, sroK_ap, parB_ap, parA_ap, sifK_ap, sexK_ap, sfK_ap, apK_ap, eMeth_ap, eV_ap, c2, slotO_val, bindok, insOf_ref, ii, insK_some, methK_some, aCons_ap, eC_ap, aNil_ap, valsOf_cons, valsOf_nil, Option.map_some, callK_some, eFrz_ap, nLst_ap, lstK_some, List.length_cons, List.length_nil, show (0 ≤ lim) = True by simp [lim], if_true, frz_lst, orBad_some, be2, bindexc]) ch,
    bad_cons (x := 1) (by simp only [op1K_ap, op2B_ap, op2A_ap, acB_ap, acA_ap, opnK_ap, eifK_ap, valK_ap, frK_ap, nwK_ap, truK_ap, taK_ap, toK_ap, tnK_ap, ieK_ap, ienK_ap, no1K_ap, no2B_ap, no2A_ap, nonK_ap, chB_ap, chA_ap, etK_ap, ecK_ap, mtB_ap, mtA_ap, fdA_ap, nlK_ap, rgB_ap, rgA_ap, nlcK_ap, ownK_ap, sroK_ap, parB_ap, parA_ap, sifK_ap, sexK_ap, sfK_ap, apK_ap, eMeth_ap, eV_ap, c2, slotO_val, bindok, insOf_ref, ii, insK_some, methK_some, aCons_ap, eC_ap, aNil_ap, valsOf_cons, valsOf_nil, Option.map_some, callK_some, eFrz_ap, nLst_ap, lstK_some, List.length_cons, List.length_nil, show (0 + 1 ≤ lim) = True by simp [lim], if_true, frz_lst, orBad_some, be3, bindexc]) ch]
  show (if 24 < r3.length then _ else _) = _
  rw [if_pos (by rw [hr3]; simpa using l24)]
  simp [-getElem?_pos, q1, q2, q3, q4, lim, he, c2, ii, hwear]
end K09
/-! k09: the head's facts, the end (printed). -/
namespace K09
open PySem PySem.Spec PyProof.Rows L2 Mir
theorem tb_at {K : PySem.W.Frag} {H : Hp} (h : ∀ p ∈ [(("law" : Str), (none : Option Str))].map (fun p => (Hd.cdAt K p, Hd.tbAt K p)), H p.2 = some (.tbl #[])) : ∀ p ∈ (gg K).tb, H p.1 = some (.tbl #[]) := fun p hp => by
  rw [List.mem_singleton.mp hp]
  exact h _ (List.mem_singleton.mpr rfl)
abbrev fa : List He.Fa := [.free "abs", .free "dict", .free "enumerate", .free "int", .free "len", .free "list", .free "max", .free "range", .free "sorted", .free "sum", .free "tuple", .free "zip", .glo "Air", .glo "_law_dice", .glo "_law_rate", .glo "_law_roll", .glo "_law_rounds", .glo "rate_of", .int "MOST_READINGS" 5000, .noat "Air" "rooms", .cls "Air", .mkr "Air", .meth "Air" "best_room", .meth "Air" "outside", .meth "Air" "read", .meth "Air" "rows_of", .meth "Air" "swing", .meth "Air" "wear", .glo "ArchiveError", .exc "ArchiveError", .glo "LoanError", .exc "LoanError", .glo "_law_told", .exm "LoanError" "LoanError" true, .glo "law"]
abbrev dd_Air___init__ : He.DefD := ⟨("Air", some "__init__"), "__init__", "Air.__init__", defArgs s_Air___init__, defBody s_Air___init__, defScope s_Air___init__, [], []⟩
abbrev dd_Air_read : He.DefD := ⟨("Air", some "read"), "read", "Air.read", defArgs s_Air_read, defBody s_Air_read, defScope s_Air_read, [], []⟩
abbrev dd_Air_rows_of : He.DefD := ⟨("Air", some "rows_of"), "rows_of", "Air.rows_of", defArgs s_Air_rows_of, defBody s_Air_rows_of, defScope s_Air_rows_of, [], []⟩
abbrev dd_Air_swing : He.DefD := ⟨("Air", some "swing"), "swing", "Air.swing", defArgs s_Air_swing, defBody s_Air_swing, defScope s_Air_swing, [], []⟩
abbrev dd_Air_outside : He.DefD := ⟨("Air", some "outside"), "outside", "Air.outside", defArgs s_Air_outside, defBody s_Air_outside, defScope s_Air_outside, [], []⟩
abbrev dd_rate_of : He.DefD := ⟨("rate_of", none), "rate_of", "rate_of", defArgs s_rate_of, defBody s_rate_of, defScope s_rate_of, [], []⟩
abbrev dd_Air_wear : He.DefD := ⟨("Air", some "wear"), "wear", "Air.wear", defArgs s_Air_wear, defBody s_Air_wear, defScope s_Air_wear, [], []⟩
abbrev dd_Air_best_room : He.DefD := ⟨("Air", some "best_room"), "best_room", "Air.best_room", defArgs s_Air_best_room, defBody s_Air_best_room, defScope s_Air_best_room, [], []⟩
abbrev dd_law_dice : He.DefD := ⟨("_law_dice", none), "_law_dice", "_law_dice", defArgs s_law_dice, defBody s_law_dice, defScope s_law_dice, [], []⟩
abbrev dd_law_roll : He.DefD := ⟨("_law_roll", none), "_law_roll", "_law_roll", defArgs s_law_roll, defBody s_law_roll, defScope s_law_roll, [], []⟩
abbrev dd_law_rounds : He.DefD := ⟨("_law_rounds", none), "_law_rounds", "_law_rounds", defArgs s_law_rounds, defBody s_law_rounds, defScope s_law_rounds, [], []⟩
abbrev dd_law_rate : He.DefD := ⟨("_law_rate", none), "_law_rate", "_law_rate", defArgs s_law_rate, defBody s_law_rate, defScope s_law_rate, [], []⟩
abbrev dd_law : He.DefD := ⟨("law", none), "law", "law", defArgs s_law, defBody s_law, defScope s_law, [], []⟩
abbrev dd_law_told : He.DefD := ⟨("_law_told", none), "_law_told", "_law_told", defArgs s_law_told, defBody s_law_told, defScope s_law_told, [], []⟩
abbrev fns : List He.DefD := [dd_Air___init__, dd_Air_read, dd_Air_rows_of, dd_Air_swing, dd_Air_outside, dd_rate_of, dd_Air_wear, dd_Air_best_room, dd_law_dice, dd_law_roll, dd_law_rounds, dd_law_rate, dd_law, dd_law_told]
abbrev cp : List (Str × Option Str) := [("law", none)]
abbrev exF : PySem.W.Frag → Bool := fun _ => true
theorem tx_of {K : PySem.W.Frag} {h : Heap} {mg : Str → Option Value} (c : Hd.Says fa fns cp exF K h) (G : h.Ns mainGlobals mg) : TxF K mg where
  n_abs := He.free_ok c.hK G (c.says.fact 0 rfl)
  n_dict := He.free_ok c.hK G (c.says.fact 1 rfl)
  n_enumerate := He.free_ok c.hK G (c.says.fact 2 rfl)
  n_int := He.free_ok c.hK G (c.says.fact 3 rfl)
  n_len := He.free_ok c.hK G (c.says.fact 4 rfl)
  n_list := He.free_ok c.hK G (c.says.fact 5 rfl)
  n_max := He.free_ok c.hK G (c.says.fact 6 rfl)
  n_range := He.free_ok c.hK G (c.says.fact 7 rfl)
  n_sorted := He.free_ok c.hK G (c.says.fact 8 rfl)
  n_sum := He.free_ok c.hK G (c.says.fact 9 rfl)
  n_tuple := He.free_ok c.hK G (c.says.fact 10 rfl)
  n_zip := He.free_ok c.hK G (c.says.fact 11 rfl)
  g_Air := He.glo_ok c.hK G (c.says.fact 12 rfl)
  g__law_dice := He.glo_ok c.hK G (c.says.fact 13 rfl)
  g__law_rate := He.glo_ok c.hK G (c.says.fact 14 rfl)
  g__law_roll := He.glo_ok c.hK G (c.says.fact 15 rfl)
  g__law_rounds := He.glo_ok c.hK G (c.says.fact 16 rfl)
  g_rate_of := He.glo_ok c.hK G (c.says.fact 17 rfl)
  i_MOST_READINGS := He.int_ok c.hK G (c.says.fact 18 rfl)
  q_Air := ⟨He.cls_ok (c.says.fact 20 rfl), rfl, by decide +kernel, by decide, List.forall_mem_cons.mpr ⟨He.noat_ok (c.says.fact 19 rfl), List.forall_mem_nil _⟩⟩
  mk_Air := He.mkr_ok (c.says.fact 21 rfl)
  m_Air_best_room := He.meth_ok (c.says.fact 22 rfl)
  m_Air_outside := He.meth_ok (c.says.fact 23 rfl)
  m_Air_read := He.meth_ok (c.says.fact 24 rfl)
  m_Air_rows_of := He.meth_ok (c.says.fact 25 rfl)
  m_Air_swing := He.meth_ok (c.says.fact 26 rfl)
  m_Air_wear := He.meth_ok (c.says.fact 27 rfl)
  e_ArchiveError := ⟨rfl, He.glo_ok c.hK G (c.says.fact 28 rfl), He.exc_ok (c.says.fact 29 rfl)⟩
  e_LoanError := ⟨rfl, He.glo_ok c.hK G (c.says.fact 30 rfl), He.exc_ok (c.says.fact 31 rfl)⟩
  g__law_told := He.glo_ok c.hK G (c.says.fact 32 rfl)
  x_told := Hd.caught1 rfl (He.exm_ok (c.says.fact 33 rfl))
  g_LoanError := He.glo_ok c.hK G (c.says.fact 30 rfl)
theorem law_fn {P : Program} {w : PySem.World} {K : PySem.W.Frag} {h : Heap} {mg : Str → Option Value} (c : Hd.Says fa fns cp exF K h) (G : h.Ns mainGlobals mg) :
    ∃ fd : FuncData, (∀ (s : Shared) (v : Value), BindsTo s fd ⟨[v], []⟩ [("script", v)]) ∧ ∀ base : Heap, (∀ p ∈ cp.map (fun p => (Hd.cdAt K p, Hd.tbAt K p)), LamX.TabB base mg p.1 p.2) → FnOk P w K mg base (L2.CX P w) 7 (He.fAd K ("law", none)) fd ["script"] (spOf (gg K) 1 f_law) := by
  have T := tx_of c G
  obtain ⟨f0, F_Air___init__⟩ := c.says.def_ 0 (d := dd_Air___init__) rfl
  obtain ⟨f1, F_Air_read⟩ := c.says.def_ 1 (d := dd_Air_read) rfl
  obtain ⟨f2, F_Air_rows_of⟩ := c.says.def_ 2 (d := dd_Air_rows_of) rfl
  obtain ⟨f3, F_Air_swing⟩ := c.says.def_ 3 (d := dd_Air_swing) rfl
  obtain ⟨f4, F_Air_outside⟩ := c.says.def_ 4 (d := dd_Air_outside) rfl
  obtain ⟨f5, F_rate_of⟩ := c.says.def_ 5 (d := dd_rate_of) rfl
  obtain ⟨f6, F_Air_wear⟩ := c.says.def_ 6 (d := dd_Air_wear) rfl
  obtain ⟨f7, F_Air_best_room⟩ := c.says.def_ 7 (d := dd_Air_best_room) rfl
  obtain ⟨f8, F_law_dice⟩ := c.says.def_ 8 (d := dd_law_dice) rfl
  obtain ⟨f9, F_law_roll⟩ := c.says.def_ 9 (d := dd_law_roll) rfl
  obtain ⟨f10, F_law_rounds⟩ := c.says.def_ 10 (d := dd_law_rounds) rfl
  obtain ⟨f11, F_law_rate⟩ := c.says.def_ 11 (d := dd_law_rate) rfl
  obtain ⟨f12, F_law⟩ := c.says.def_ 12 (d := dd_law) rfl
  obtain ⟨f13, F_law_told⟩ := c.says.def_ 13 (d := dd_law_told) rfl
  have b := FunD.bindsA (ps := ["script"]) F_law fun _ _ _ _ _ _ us hl => match us, hl with | [_], _ => rfl
  refine ⟨_, fun s v => b s [v] rfl, fun base TBS => ?_⟩
  have DT : ToldOk K := ⟨_, F_law_told⟩
  have TB : LamX.TabB base mg (Hd.cdAt K ("law", none)) (tbA K) := TBS _ (List.mem_singleton.mpr rfl)
  have hc := Hd.cdIs_ok (c.one (p := ("law", none)) (List.mem_singleton.mpr rfl)).1 F_law
  have d_Air___init__ := w_Air___init__ (P := P) (w := w) (base := base) T F_Air___init__  
  have d_Air_read := w_Air_read (P := P) (w := w) (base := base) T F_Air_read  
  have d_Air_rows_of := w_Air_rows_of (P := P) (w := w) (base := base) T F_Air_rows_of  
  have d_Air_swing := w_Air_swing (P := P) (w := w) (base := base) T F_Air_swing d_Air_rows_of 
  have d_Air_outside := w_Air_outside (P := P) (w := w) (base := base) T F_Air_outside d_Air_rows_of 
  have d_rate_of := w_rate_of (P := P) (w := w) (base := base) T F_rate_of  
  have d_Air_wear := w_Air_wear (P := P) (w := w) (base := base) T F_Air_wear d_Air_rows_of d_rate_of 
  have d_Air_best_room := w_Air_best_room (P := P) (w := w) (base := base) T F_Air_best_room d_Air_rows_of d_Air_wear 
  have d_law_dice := w_law_dice (P := P) (w := w) (base := base) T F_law_dice  
  have d_law_roll := w_law_roll (P := P) (w := w) (base := base) T F_law_roll  
  have d_law_rounds := w_law_rounds (P := P) (w := w) (base := base) T F_law_rounds d_law_dice 
  have d_law_rate := w_law_rate (P := P) (w := w) (base := base) T F_law_rate  
  exact w_law T F_law d_Air___init__ d_Air_read d_Air_rows_of d_Air_swing d_Air_outside d_rate_of d_Air_wear d_Air_best_room d_law_roll d_law_rounds d_law_rate DT TB hc
abbrev R : PySem.W.OpenRow := PySem.W.OpenLaw.row PySem.Challenge.rw_archivestack_k09_the_air_of_rooms
abbrev hk : PySem.W.Hook := Hd.hookT 5 fa fns cp exF
def ob (s : PySem.W.SharedT) : Hd.AlT := Hd.obsT 5 fa fns cp exF (HandSHeadRun.getT s)
theorem ob_eq (s : PySem.W.SharedT) : ob s = hk.obs s.abs := Hd.obsT_eq (HandSHeadRun.getT_eq s)
abbrev names : List PySem.Str := ["ArchiveError", "LoanError", "MOST_READINGS", "Air", "rate_of", "_law_dice", "_law_roll", "_law_rounds", "_law_told", "_law_rate"]
theorem run (w : PySem.World) : HandSHeadRun.RunEq R (PySem.W.view R.prog [13]) hk ob 4000 names w := by
  intro os
  kernel_rfl
end K09
open PySem PySem.W PySem.Calls PyProof.Rows
theorem PySem.Challenge.cw_archivestack_k09_the_air_of_rooms_holds : PySem.Challenge.rw_archivestack_k09_the_air_of_rooms.Holds := by
  w_on; o_law
  refine HandSHeadRun.head_any (r := OpenLaw.row PySem.Challenge.rw_archivestack_k09_the_air_of_rooms) (q := view (OpenLaw.row PySem.Challenge.rw_archivestack_k09_the_air_of_rooms).prog [13]) (H := K09.hk) (ob := K09.ob) (M := 4000) (loose := K09.names) (d := HandSHeadRun.topDef (OpenLaw.row PySem.Challenge.rw_archivestack_k09_the_air_of_rooms).prog 13) (kwd := []) K09.ob_eq
    (by kernel_rfl) (fun s => by kernel_rfl) K09.run (by kernel_rfl) (by kernel_rfl) (by kernel_rfl) (by rfl) (by first | assumption | decide +kernel) (by decide +kernel) ⟨rfl, rfl, rfl, rfl, rfl, by decide +kernel⟩ ?hw ?hc
  case hw => w_witness2
  case hc =>
    refine LamX.walk_ofTsE (l := PySem.Challenge.rw_archivestack_k09_the_air_of_rooms) (n := 63) (k := 7) (x := "script") (CX := fun w => L2.CX (PySem.Challenge.rw_archivestack_k09_the_air_of_rooms).prog w) rfl (by decide) (by kernel_rfl) ⟨rfl, by decide, by decide⟩ ?F (fun w H s e s' z => Hd.noLeave H s e s' z)
    intro w mg fa h Y G hmg0
    obtain ⟨K, c⟩ := Y
    have hmg : mg ("law" : PySem.Str) = some (.ref fa) := by
      have e : (HandSHeadRun.topDef (OpenLaw.row PySem.Challenge.rw_archivestack_k09_the_air_of_rooms).prog 13).name = ("law" : PySem.Str) := by kernel_rfl
      rw [← e]
      exact hmg0
    have e := hmg.symm.trans (He.glo_ok c.hK G (c.says.fact 34 rfl))
    cases e
    obtain ⟨fd, hb, hF⟩ := K09.law_fn (P := (PySem.Challenge.rw_archivestack_k09_the_air_of_rooms).prog) (w := w) c G
    refine ⟨K, c.hK, fd, K09.cp.map (fun p => (Hd.cdAt K p, Hd.tbAt K p)), Mir.spOf (K09.gg K) 1 K09.f_law, fun p hp => ?_, fun p hp => ?_, fun p hp => ?_, hb, fun H a ns hl _ hT hS => Hd.lawSp (g := K09.gg K) (fun p hp => ?_) hS (K09.law_true ns), fun base _ _ hTB => hF base hTB⟩
    · obtain ⟨z, hz, rfl⟩ := List.mem_map.mp hp
      exact c.tab z hz
    · obtain ⟨z, hz, rfl⟩ := List.mem_map.mp hp
      exact (c.one hz).2.2
    · obtain ⟨z, hz, rfl⟩ := List.mem_map.mp hp
      exact (c.one hz).2.1
    · exact K09.tb_at (K := K) hT p hp
