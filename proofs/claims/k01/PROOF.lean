import PyProof.Rows.All
import Wide.All
import OpenK.AllK
import Wide.FinOn
import PySem.Challenge.RW_twosweeps_k01_numbers_and_names
import HandS.Lambda
import HandS.Base
import HandS.ForMost
import HandS.ForExc
import HandS.ExcCtx
import HandS.Defaults
import HandS.ExcInit
import HandS.IsInst
import HandS.TupAny
import HandS.Wide
import HandS.Deep
import HandS.TupLe
import HandS.SortOrd
import HandS.SortRule
import HandS.Text
import KE.KSortTupAny
import HandS.Comp
import HandS.Iter
import HandS.Words
import HandS.Codes
import HandS.ExcInitHot
import HandS.ExcIs
import HandS.ExcField
import HandS.HotCalls
import HandS.List
import PyProof.MinMaxWalk
import PyProof.WalksMore
import HandS.Conv
import HandS.More
import PyProof.EnumMake
import PyProof.Draws
import KE.GoesMore
import HandS.Property
import HandS.OwnEq
import PyProof.InstEq
import HandS.RaiseMore
import HandS.Head0
import HandS.Head1
import HandS.Head2
import HandS.HeadEnd
import HandS.HeadHook1
import HandS.HeadHook2
import HandS.HeadHook3
import HandS.EndTab
import HandS.EndBits
import KE.KNestM
import KE.IntTextLaws
namespace Z
open PySem
def LamT : List (Addr × Str) := [(539, "_law_number_holds.<locals>.<lambda>"), (546, "_law_name_holds.<locals>.<lambda>")]
end Z
set_option linter.all false
namespace Z
open PySem

/-- what never changes while it is looked at: numbers, texts, tuples; lists, dicts, sets, instances as they stand -/
inductive P where
  | non | bl (b : Bool) | int (i : Int) | str (s : Str)
  | tup (xs : List P) | lst (xs : List P) | dct (ks vs : List P) | set (xs : List P)
  | ins (C : Str) (fs : List Str) (vs : List P)
  | exc (a d c : Nat) (C : Str) (fs : List Str) (vs : List P)
  | ty (n : String) | cls (C : Str) | fn (x : Str)
  /-- a lambda without parameters, at a: it holds the values us, which stand for xs -/
  | thk (a c : Nat) (q : Str) (us : List L2.V) (xs : List P)
  /-- a tuple of the written part (a constant of the module) -/
  | wt (xs : List P)
  /-- the script -/
  | scr (ns : List Int)
  deriving Inhabited

/-- a value of a def that runs: p a value as it stands; the others are its own and may be changed -/
inductive D where
  | p (x : P)
  | l (xs : List D)
  | d (ks : List P) (vs : List D)
  | s (xs : List P)
  | i (C : Str) (fs : List Str) (vs : List D)
  deriving Inhabited

mutual
def vw : D → P
  | .p x => x
  | .l xs => .lst (vws xs)
  | .d ks vs => .dct ks (vws vs)
  | .s xs => .set xs
  | .i C fs vs => .ins C fs (vws vs)
def vws : List D → List P
  | [] => []
  | x :: xs => vw x :: vws xs
end
theorem vws_map : ∀ xs : List D, vws xs = xs.map vw
  | [] => rfl
  | x :: xs => by rw [vws, List.map_cons, vws_map xs]
theorem vws_p (xs : List P) : vws (xs.map D.p) = xs := by
  induction xs with
  | nil => rfl
  | cons x xs ih => simp only [List.map_cons, vws, vw, ih]
theorem vws_length (xs : List D) : (vws xs).length = xs.length := by rw [vws_map, List.length_map]

/- nothing in it can be changed by anyone -/
mutual
def clean : P → Bool
  | .non => true
  | .bl _ => true
  | .int _ => true
  | .str _ => true
  | .ty _ => true
  | .cls _ => true
  | .fn _ => true
  | .tup xs => cleans xs
  | .lst _ => false
  | .dct _ _ => false
  | .set _ => false
  | .ins _ _ _ => false
  | .exc _ _ _ _ _ _ => false
  | .thk _ _ _ _ _ => false
  | .wt xs => cleans xs
  | .scr _ => false
def cleans : List P → Bool
  | [] => true
  | x :: xs => clean x && cleans xs
end
mutual
def cleanD : D → Bool
  | .p x => clean x
  | .l xs => cleanDs xs
  | .d ks vs => cleans ks && cleanDs vs
  | .s xs => cleans xs
  | .i _ _ vs => cleanDs vs
def cleanDs : List D → Bool
  | [] => true
  | x :: xs => cleanD x && cleanDs xs
end

inductive Slot where
  | no
  | var (d : D)
  /-- a parameter that is changed for the caller -/
  | fix (d : D)
  /-- a thing of the def's own that a loop goes over -/
  | lock (x : P)
  deriving Inhabited
abbrev Env := List Slot
structure Ex where
  C : Str
  fs : List Str
  vs : List P

inductive ER (α : Type) where
  | ok (a : α) (env : Env) | exc (e : Ex) (env : Env) | stuck
abbrev EF := Env → ER D
abbrev TF := Env → ER Bool
/-- what a call tells: the value, the changed first argument -/
inductive FR where
  | ok (r fin : D) | exc (e : Ex) (fin : D) | stuck
abbrev Fn := List D → FR
inductive SR where
  | nx (env : Env) | br (env : Env) | ct (env : Env) | rt (d : D) (env : Env) | exc (e : Ex) (env : Env) | stuck
abbrev SF := Env → SR

@[inline] def ER.bind {α β : Type} (r : ER α) (f : α → Env → ER β) : ER β := match r with
  | .ok a env => f a env
  | .exc e env => .exc e env
  | .stuck => .stuck

def slotD : Slot → Option D
  | .no => none
  | .var d => some d
  | .fix d => some d
  | .lock x => some (.p x)
def isOwn : D → Bool
  | .p _ => false
  | _ => true
def ownAt (env : Env) (i : Nat) : Bool := match env[i]? with
  | some (.var (.p _)) => false
  | some (.fix (.p _)) => false
  | some .no => false
  | none => false
  | _ => true
/-- from now on it is not changed any more -/
def freezeAt (env : Env) (i : Nat) : Env := match env[i]? with
  | some (.var d) => env.set i (.var (.p (vw d)))
  | some (.fix d) => env.set i (.fix (.p (vw d)))
  | some (.lock x) => env.set i (.var (.p x))
  | _ => env

def eC (x : P) : EF := fun env => .ok (.p x) env
def eV (i : Nat) : EF := fun env => match env[i]? with
  | some (.var (.p x)) => .ok (.p x) env
  | some (.fix (.p x)) => .ok (.p x) env
  | some (.var d) => .ok (.p (vw d)) (env.set i (.var (.p (vw d))))
  | some (.lock x) => .ok (.p x) (env.set i (.var (.p x)))
  | _ => .stuck
def eM (i : Nat) : EF := fun env => match env[i]? with
  | some (.var d) => .ok d (env.set i .no)
  | _ => .stuck

inductive Arg where
  | v (i : Nat) | e (f : EF)

def has (env : Env) (i : Nat) : Bool := match env[i]? with
  | some .no => false
  | none => false
  | _ => true
def args1 : List Arg → Env → ER (List (Option D))
  | [], env => .ok [] env
  | .v i :: as, env => if has env i then (args1 as env).bind fun os env => .ok (none :: os) env else .stuck
  | .e f :: as, env => (f env).bind fun d env => (args1 as env).bind fun os env => .ok (some d :: os) env
def args2 (env : Env) : List Arg → List (Option D) → Option (List D)
  | [], [] => some []
  | .v i :: as, none :: os => match env[i]? with
    | some s => match slotD s, args2 env as os with
      | some d, some ds => some (.p (vw d) :: ds)
      | _, _ => none
    | none => none
  | .e _ :: as, some d :: os => match args2 env as os with
    | some ds => some (d :: ds)
    | none => none
  | _, _ => none
def borrows (env : Env) : List Arg → Bool
  | [] => false
  | .v i :: as => ownAt env i || borrows env as
  | .e _ :: as => borrows env as
def freezes (env : Env) : List Arg → Env
  | [] => env
  | .v i :: as => freezes (freezeAt env i) as
  | .e _ :: as => freezes env as
/-- behind a call: what was lent comes back, if nothing of it can be in what came out -/
def settle (as : List Arg) (env : Env) (r : D) : Env := if borrows env as then (if cleanD r then env else freezes env as) else env

def eOp (as : List Arg) (h : Fn) : EF := fun env => (args1 as env).bind fun os env => match args2 env as os with
  | some ds => match h ds with
    | .ok r _ => .ok r (settle as env r)
    | .exc e _ => .exc e (freezes env as)
    | .stuck => .stuck
  | none => .stuck
def noArg (m : Nat) : List Arg → Bool
  | [] => true
  | .v i :: as => decide (i ≠ m) && noArg m as
  | .e _ :: as => noArg m as
/-- a call that changes the thing in slot m, its first argument -/
def eOpM (m : Nat) (as : List Arg) (h : Fn) : EF := fun env => if noArg m as && has env m then (args1 as env).bind fun os env => match args2 env as os with
  | some ds => match env[m]? with
    | some (.var d) => match h (d :: ds) with
      | .ok r fin => .ok r (settle as (env.set m (.var fin)) (.l [r, fin]))
      | .exc e fin => .exc e (freezes (env.set m (.var fin)) as)
      | .stuck => .stuck
    | some (.fix d) => match h (d :: ds) with
      | .ok r fin => .ok r (settle as (env.set m (.fix fin)) (.l [r, fin]))
      | .exc e fin => .exc e (freezes (env.set m (.fix fin)) as)
      | .stuck => .stuck
    | _ => .stuck
  | none => .stuck else .stuck

abbrev VF := Env → Option P
def gC (x : P) : VF := fun _ => some x
def gV (i : Nat) : VF := fun env => match env[i]? with
  | some s => (slotD s).map vw
  | none => none
def g1 (h : P → Option P) (a : VF) : VF := fun env => (a env).bind h
def g2 (h : P → P → Option P) (a b : VF) : VF := fun env => (a env).bind fun x => (b env).bind fun y => h x y
def gL : List VF → Env → Option (List P)
  | [], _ => some []
  | a :: as, env => (a env).bind fun x => (gL as env).bind fun xs => some (x :: xs)
def gN (h : List P → Option P) (as : List VF) : VF := fun env => (gL as env).bind h
def gTu (as : List VF) : VF := fun env => (gL as env).bind fun xs => if xs.length ≤ 16777216 then some (.tup xs) else none
def vArgs (is : List Nat) : List Arg := is.map Arg.v
def eW (is : List Nat) (g : VF) : EF := fun env => match g env with
  | some x => .ok (.p x) (settle (vArgs is) env (.p x))
  | none => .stuck
/-- a plain function as a built-in -/
def lift1 (h : P → Option P) : Fn := fun ds => match ds with
  | [a] => match h (vw a) with
    | some r => .ok (.p r) (.p .non)
    | none => .stuck
  | _ => .stuck
def lift2 (h : P → P → Option P) : Fn := fun ds => match ds with
  | [a, b] => match h (vw a) (vw b) with
    | some r => .ok (.p r) (.p .non)
    | none => .stuck
  | _ => .stuck
def liftN (h : List P → Option P) : Fn := fun ds => match h (vws ds) with
  | some r => .ok (.p r) (.p .non)
  | none => .stuck

def eIf (t : TF) (a b : EF) : EF := fun env => (t env).bind fun c env => if c then a env else b env

def truth : D → Option Bool
  | .p .non => some false
  | .p (.bl b) => some b
  | .p (.int i) => some (decide (i ≠ 0))
  | .p (.str s) => if s.length ≤ 16777216 then some (decide (s.length ≠ 0)) else none
  | .p (.tup xs) => some (!xs.isEmpty)
  | .p (.lst xs) => some (!xs.isEmpty)
  | .l xs => some (!xs.isEmpty)
  | _ => none
def tE (f : EF) : TF := fun env => (f env).bind fun d env => match truth d with
  | some b => .ok b env
  | none => .stuck
def tNot (t : TF) : TF := fun env => (t env).bind fun c env => .ok (!c) env
def tAnd (t u : TF) : TF := fun env => (t env).bind fun c env => if c then u env else .ok false env
def tOr (t u : TF) : TF := fun env => (t env).bind fun c env => if c then .ok true env else u env
def boolOf : D → Option Bool
  | .p (.bl b) => some b
  | _ => none
def eAnd (f g : EF) : EF := fun env => (f env).bind fun d env => match boolOf d with
  | some c => if c then g env else .ok (.p (.bl false)) env
  | none => .stuck
def eOr (f g : EF) : EF := fun env => (f env).bind fun d env => match boolOf d with
  | some c => if c then .ok (.p (.bl true)) env else g env
  | none => .stuck

def sSeq (a b : SF) : SF := fun env => match a env with
  | .nx env => b env
  | r => r
def sNx : SF := fun env => .nx env
def sBr : SF := fun env => .br env
def sCt : SF := fun env => .ct env
def sNever : SF := fun _ => .stuck
def setV (env : Env) (i : Nat) (d : D) : Option Env := match env[i]? with
  | some .no => some (env.set i (.var d))
  | some (.var _) => some (env.set i (.var d))
  | _ => none
inductive Pat where
  | n (i : Nat) | t (ps : List Pat)
mutual
def assignP (env : Env) : Pat → P → Option Env
  | .n i, x => setV env i (.p x)
  | .t ps, .tup xs => assignPs env ps xs
  | .t ps, .wt xs => assignPs env ps xs
  | .t _, _ => none
def assignPs (env : Env) : List Pat → List P → Option Env
  | [], [] => some env
  | q :: qs, x :: xs => match assignP env q x with
    | some env => assignPs env qs xs
    | none => none
  | _, _ => none
end
def bindE (r : ER D) (k : D → Env → SR) : SR := match r with
  | .ok d env => k d env
  | .exc e env => .exc e env
  | .stuck => .stuck
def sAsg (i : Nat) (f : EF) : SF := fun env => bindE (f env) fun d env => match setV env i d with
  | some env => .nx env
  | none => .stuck
def sAsgT (q : List Pat) (f : EF) : SF := fun env => bindE (f env) fun d env => match d with
  | .p x => match assignP env (.t q) x with
    | some env => .nx env
    | none => .stuck
  | _ => .stuck
def sExpr (f : EF) : SF := fun env => bindE (f env) fun _ env => .nx env
def sRet (f : EF) : SF := fun env => bindE (f env) fun d env => .rt d env
def sRetN : SF := fun env => .rt (.p .non) env
def sRaise (C : Str) (fs : List Str) (as : List Arg) : SF := fun env => match args1 as env with
  | .ok os env => match args2 env as os with
    | some ds => .exc ⟨C, fs, vws ds⟩ (freezes env as)
    | none => .stuck
  | .exc e env => .exc e env
  | .stuck => .stuck
def sIf (t : TF) (a b : SF) : SF := fun env => match t env with
  | .ok c env => if c then a env else b env
  | .exc e env => .exc e env
  | .stuck => .stuck
/-- what a loop goes over -/
def itemsD : D → Option (List P)
  | .p (.lst xs) => some xs
  | .p (.tup xs) => some xs
  | .l xs => some (vws xs)
  | _ => none
def rangeL (lo : Int) (n : Nat) : List P := (List.range n).map fun (k : Nat) => P.int (lo + (k : Int))
def forL (q : Pat) (body : SF) : List P → SF
  | [], env => .nx env
  | x :: xs, env => match assignP env q x with
    | some env => match body env with
      | .nx env => forL q body xs env
      | .ct env => forL q body xs env
      | .br env => .nx env
      | r => r
    | none => .stuck
/-- for q in f: body; what f gives is looked at as it stands -/
def sFor (q : Pat) (f : EF) (body : SF) : SF := fun env => bindE (f env) fun d env => match itemsD d with
  | some xs => forL q body xs env
  | none => .stuck
def sRng1 (q : Pat) (f : EF) (body : SF) : SF := fun env => bindE (f env) fun d env => match d with
  | .p (.int j) => if -(2 ^ 62) ≤ j ∧ j < 2 ^ 62 then forL q body (rangeL 0 j.toNat) env else .stuck
  | _ => .stuck
def sRng2 (q : Pat) (as : List Arg) (body : SF) : SF := fun env => match args1 as env with
  | .ok os env => match args2 env as os with
    | some [.p (.int i), .p (.int j)] => if -(2 ^ 62) ≤ i ∧ i < 2 ^ 62 ∧ -(2 ^ 62) ≤ j ∧ j < 2 ^ 62 then forL q body (rangeL i (j - i).toNat) env else .stuck
    | _ => .stuck
  | .exc e env => .exc e env
  | .stuck => .stuck
/-- how many turns a while may take here -/
def mostTurns : Nat := 1000000
def whileL (t : TF) (body : SF) : Nat → SF
  | 0, _ => .stuck
  | n + 1, env => match t env with
    | .ok c env => if c then (match body env with
      | .nx env => whileL t body n env
      | .ct env => whileL t body n env
      | .br env => .nx env
      | r => r) else .nx env
    | .exc e env => .exc e env
    | .stuck => .stuck
def sWhile (t : TF) (body : SF) : SF := whileL t body mostTurns

/-- the slots at a def's entry: ds the arguments; the first one is changed for the caller if m -/
def enter (m : Bool) (n : Nat) : List D → Env
  | [] => List.replicate n .no
  | d :: ds => (if m then Slot.fix d else Slot.var d) :: (ds.map Slot.var ++ List.replicate (n - (ds.length + 1)) .no)
def fixed0 (env : Env) : Option D := match env[0]? with
  | some (Slot.fix d) => some d
  | _ => none
def fin0 (m : Bool) (env : Env) : Option D := if m then fixed0 env else some (.p .non)
def leave (m : Bool) (r : SR) : FR := match r with
  | .nx env => match fin0 m env with
    | some d => .ok (.p .non) d
    | none => .stuck
  | .rt r env => match fin0 m env with
    | some d => .ok r d
    | none => .stuck
  | .exc e env => match fin0 m env with
    | some d => .exc e d
    | none => .stuck
  | _ => .stuck
/-- a def of k parameters and n slots -/
def mkFn (m : Bool) (k n : Nat) (body : SF) : Fn := fun ds => if ds.length = k then leave m (body (enter m n ds)) else .stuck
end Z
set_option Elab.async false
set_option linter.all false
set_option maxRecDepth 100000
namespace Z
open PySem L2

abbrev Zs := Addr → Prop
def kP : Key → P
  | .inl i => .int i
  | .inr s => .str s
def tP (k : List Key) : P := .tup (k.map kP)
def intHead : List P → Bool
  | .int _ :: _ => true
  | _ => false
/-- a tuple; one that begins with a number is none of the written part -/
def SqI (K : PySem.W.Frag) (H : Hp) (a : Addr) (us : List V) (xs : List P) : Prop := SqT K H a us ∧ (intHead xs = true → H a = some (.tup us))
theorem SqI.of {K : PySem.W.Frag} {H : Hp} {a : Addr} {us : List V} {xs : List P} (h : H a = some (.tup us)) : SqI K H a us xs := ⟨SqT.of h, fun _ => h⟩
/-- at a: a dict of the keys ks and the values us -/
def DctAt (H : Hp) (a : Addr) (ks : List P) (us : List V) : Prop :=
  (∃ kvs : List (Key × V), H a = some (.dK kvs) ∧ ks = kvs.map (fun q => kP q.1) ∧ us = kvs.map (·.2)) ∨
  (∃ kvs : List (List Key × V), H a = some (.dT kvs) ∧ ks = kvs.map (fun q => tP q.1) ∧ us = kvs.map (·.2) ∧ kvs ≠ [])

section
variable (K : PySem.W.Frag) (mg : Str → Option Value) (Z : Zs) (H : Hp)
mutual
def RP : V → P → Prop
  | v, .non => v = .non
  | v, .bl b => v = .bl b
  | v, .int i => v = .int i
  | v, .str s => v = .str s
  | v, .ty n => v = .ty n
  | v, .cls C => ∃ a, mg C = some (.ref a) ∧ v = .ref a
  | v, .fn x => ∃ a, mg x = some (.ref a) ∧ v = .ref a
  | v, .scr ns => ∃ a, v = .ref a ∧ ((Z a ∧ H a = some (.lst (ns.map V.int))) ∨ (∃ o, H a = some (.frz o (.lst (ns.map V.int)))) ∨ SqL K (fun _ => none) a (ns.map V.int))
  | v, .wt xs => ∃ a us, v = .ref a ∧ SqT K H a us ∧ RPs us xs
  | v, .thk a c q us xs => v = .ref a ∧ H c = some (LamX.CodeO c q) ∧ RPs us xs
  | v, .tup xs => ∃ a us, v = .ref a ∧ SqI K H a us xs ∧ RPs us xs
  | v, .lst xs => ∃ a us, v = .ref a ∧ Z a ∧ H a = some (.lst us) ∧ RPs us xs
  | v, .dct ks xs => ∃ a us, v = .ref a ∧ Z a ∧ DctAt H a ks us ∧ RPs us xs
  | _, .set _ => False
  | v, .ins C fs xs => ∃ a c dx us, v = .ref a ∧ Z a ∧ mg C = some (.ref c) ∧ H a = some (.ins c dx (fs.zip us)) ∧ us.length = fs.length ∧ RPs us xs
  | v, .exc a d c C fs xs => ∃ us, v = .ref a ∧ mg C = some (.ref c) ∧ Z d ∧ H d = some (.xd (fs.zip us).reverse) ∧ us.length = fs.length ∧ RPs us xs
def RPs : List V → List P → Prop
  | [], [] => True
  | v :: us, x :: xs => RP v x ∧ RPs us xs
  | [], _ :: _ => False
  | _ :: _, [] => False
end
mutual
def RD : V → D → List Addr → Prop
  | v, .p x, O => O = [] ∧ RP K mg Z H v x
  | v, .l xs, O => ∃ a us O', v = .ref a ∧ H a = some (.lst us) ∧ RDs us xs O' ∧ O = a :: O'
  | v, .d ks xs, O => ∃ a us O', v = .ref a ∧ DctAt H a ks us ∧ RDs us xs O' ∧ O = a :: O'
  | _, .s _, _ => False
  | v, .i C fs xs, O => ∃ a c dx us O', v = .ref a ∧ mg C = some (.ref c) ∧ H a = some (.ins c dx (fs.zip us)) ∧ us.length = fs.length ∧ RDs us xs O' ∧ O = a :: O'
def RDs : List V → List D → List Addr → Prop
  | [], [], O => O = []
  | v :: us, x :: xs, O => ∃ O1 O2, RD v x O1 ∧ RDs us xs O2 ∧ O = O1 ++ O2
  | [], _ :: _, _ => False
  | _ :: _, [], _ => False
end
/-- a raised error -/
def RX (cls : Value) (dx : Option Addr) (e : Ex) : Prop := ∃ c d us, mg e.C = some (.ref c) ∧ cls = .ref c ∧ dx = some d ∧ Z d ∧ H d = some (.xd (e.fs.zip us).reverse) ∧ us.length = e.fs.length ∧ RPs K mg Z H us e.vs
variable (ph : Nat → V)
def RSl (k : Nat) : Option V → Slot → List Addr → Prop
  | _, .no, O => O = []
  | v, .var d, O => ∃ u, v = some u ∧ RD K mg Z H u d O
  | v, .fix d, O => v = some (ph k) ∧ RD K mg Z H (ph k) d O
  | v, .lock x, O => O = [] ∧ ∃ u, v = some u ∧ RP K mg Z H u x
def RE0 : Nat → St → Env → List Addr → Prop
  | _, [], [], O => O = []
  | k, v :: sg, s :: env, O => ∃ O1 O2, RSl K mg Z H ph k v s O1 ∧ RE0 (k + 1) sg env O2 ∧ O = O1 ++ O2
  | _, [], _ :: _, _ => False
  | _, _ :: _, [], _ => False
def RE (sg : St) (env : Env) (O : List Addr) : Prop := ∃ O0, RE0 K mg Z H ph 0 sg env O0 ∧ O0.Perm O
/-- what may be written; no code object -/
def MutO (a : Addr) : Option HO → Prop
  | some (.ext φ) => ∀ q, HO.ext φ ≠ LamX.CodeO a q
  | o => Mut o
theorem MutO.mut {a : Addr} {o : Option HO} (h : MutO a o) : Mut o := by
  cases o with
  | none => exact h
  | some o => cases o <;> first | exact h | trivial
/-- the code objects' tables: just those of the list -/
def TbOk : Prop := ∀ p ∈ LamT, LamX.TabS H p.1 p.2
structure Vld (O : List Addr) : Prop where
  nd : O.Nodup
  nz : ∀ a ∈ O, ¬ Z a
  zs : ∀ a, Z a → H a ≠ none
  mu : ∀ a ∈ O, MutO a (H a)
  tb : TbOk H
end
def notTb (o : HO) : Prop := ∀ ps, o ≠ .tbl ps
theorem notTb.of {o : HO} (h : Mut (some o)) : notTb o := fun ps e => by subst e; exact h
/-- what a step does to the rest -/
structure Tr (Z : Zs) (H : Hp) (O : List Addr) (Z' : Zs) (H' : Hp) (O' : List Addr) : Prop where
  z1 : ∀ a, Z a → Z' a
  z2 : ∀ a, Z' a → Z a ∨ a ∈ O ∨ H a = none
  o1 : ∀ a ∈ O', a ∈ O ∨ H a = none
  kp : ∀ a o, H a = some o → a ∉ O → notTb o → H' a = some o
  nn : ∀ a, H' a = none → H a = none
  tb : TbOk H → TbOk H'

theorem Tr.refl (Z : Zs) (H : Hp) (O : List Addr) : Tr Z H O Z H O := ⟨fun _ h => h, fun _ h => .inl h, fun _ h => .inl h, fun _ _ h _ _ => h, fun _ h => h, fun h => h⟩
theorem Tr.perm {Z Z' : Zs} {H H' : Hp} {O O1 O' O1' : List Addr} (t : Tr Z H O Z' H' O') (p : O.Perm O1) (p' : O'.Perm O1') : Tr Z H O1 Z' H' O1' :=
  ⟨t.z1, fun a h => by rcases t.z2 a h with q | q | q; exact .inl q; exact .inr (.inl (p.mem_iff.mp q)); exact .inr (.inr q),
   fun a h => by rcases t.o1 a (p'.mem_iff.mpr h) with q | q; exact .inl (p.mem_iff.mp q); exact .inr q,
   fun a o h n => t.kp a o h fun q => n (p.mem_iff.mp q), t.nn, t.tb⟩
theorem Tr.trans {Z Z1 Z2 : Zs} {H H1 H2 : Hp} {O O1 O2 : List Addr} (t : Tr Z H O Z1 H1 O1) (u : Tr Z1 H1 O1 Z2 H2 O2) : Tr Z H O Z2 H2 O2 where
  z1 a h := u.z1 a (t.z1 a h)
  z2 a h := by
    rcases u.z2 a h with q | q | q
    · exact t.z2 a q
    · exact .inr (t.o1 a q)
    · exact .inr (.inr (t.nn a q))
  o1 a h := by
    rcases u.o1 a h with q | q
    · exact t.o1 a q
    · exact .inr (t.nn a q)
  kp a o h n nt := u.kp a o (t.kp a o h n nt) (fun q => by
    rcases t.o1 a q with z | z
    · exact n z
    · rw [h] at z; cases z) nt
  nn a h := t.nn a (u.nn a h)
  tb h := u.tb (t.tb h)
/-- more is owned beside, and stays -/
theorem Tr.frame {Z Z' : Zs} {H H' : Hp} {O O' F : List Addr} (t : Tr Z H O Z' H' O') : Tr Z H (O ++ F) Z' H' (O' ++ F) where
  z1 := t.z1
  z2 a h := by
    rcases t.z2 a h with q | q | q
    · exact .inl q
    · exact .inr (.inl (List.mem_append_left _ q))
    · exact .inr (.inr q)
  o1 a h := by
    rcases List.mem_append.mp h with q | q
    · rcases t.o1 a q with z | z
      · exact .inl (List.mem_append_left _ z)
      · exact .inr z
    · exact .inl (List.mem_append_right _ q)
  kp a o h n := t.kp a o h fun q => n (List.mem_append_left _ q)
  nn := t.nn
  tb := t.tb
theorem Tr.less {Z Z' : Zs} {H H' : Hp} {O O' O2 : List Addr} (t : Tr Z H O Z' H' O') (h : ∀ a ∈ O2, a ∈ O') : Tr Z H O Z' H' O2 :=
  ⟨t.z1, t.z2, fun a m => t.o1 a (h a m), t.kp, t.nn, t.tb⟩

theorem Vld.perm {Z : Zs} {H : Hp} {O O' : List Addr} (v : Vld Z H O) (p : O.Perm O') : Vld Z H O' :=
  ⟨p.nodup_iff.mp v.nd, fun a h => v.nz a (p.mem_iff.mpr h), v.zs, fun a h => v.mu a (p.mem_iff.mpr h), v.tb⟩
theorem Vld.left {Z : Zs} {H : Hp} {O F : List Addr} (v : Vld Z H (O ++ F)) : Vld Z H O :=
  ⟨(List.nodup_append.mp v.nd).1, fun a h => v.nz a (List.mem_append_left _ h), v.zs, fun a h => v.mu a (List.mem_append_left _ h), v.tb⟩
theorem Vld.right {Z : Zs} {H : Hp} {O F : List Addr} (v : Vld Z H (O ++ F)) : Vld Z H F :=
  ⟨(List.nodup_append.mp v.nd).2.1, fun a h => v.nz a (List.mem_append_right _ h), v.zs, fun a h => v.mu a (List.mem_append_right _ h), v.tb⟩
theorem Vld.apart {Z : Zs} {H : Hp} {O F : List Addr} (v : Vld Z H (O ++ F)) {a : Addr} (h : a ∈ O) : a ∉ F := fun g => (List.nodup_append.mp v.nd).2.2 a h a g rfl
/-- a step beside a frame -/
theorem Vld.step {Z Z' : Zs} {H H' : Hp} {O O' F : List Addr} (v : Vld Z H (O ++ F)) (t : Tr Z H O Z' H' O') (v' : Vld Z' H' O') : Vld Z' H' (O' ++ F) where
  nd := List.nodup_append.mpr ⟨v'.nd, v.right.nd, fun a h b g e => by
    subst e
    rcases t.o1 a h with q | q
    · exact v.apart q g
    · have m := v.right.mu a g
      rw [q] at m
      exact m⟩
  nz a h := by
    rcases List.mem_append.mp h with q | q
    · exact v'.nz a q
    · intro z
      rcases t.z2 a z with y | y | y
      · exact v.right.nz a q y
      · exact v.apart y q
      · have m := v.right.mu a q
        rw [y] at m
        exact m
  zs := v'.zs
  mu a h := by
    rcases List.mem_append.mp h with q | q
    · exact v'.mu a q
    · have m := v.right.mu a q
      cases e : H a with
      | none => rw [e] at m; exact m.elim
      | some o =>
        rw [e] at m
        rw [t.kp a o e (fun z => v.apart z q) (notTb.of m.mut)]
        exact m
  tb := v'.tb

/-- what is frozen, what stands at O, what can't change: all as it was -/
def Kp (Z : Zs) (O : List Addr) (H H' : Hp) : Prop := ∀ a o, H a = some o → (Z a ∨ a ∈ O ∨ ¬ MutO a (some o)) → notTb o → H' a = some o
theorem Kp.less {Z : Zs} {O O2 : List Addr} {H H' : Hp} (k : Kp Z O H H') (h : ∀ a ∈ O2, a ∈ O) : Kp Z O2 H H' := fun a o e c => k a o e (by
  rcases c with c | c | c
  · exact .inl c
  · exact .inr (.inl (h a c))
  · exact .inr (.inr c))
theorem Tr.kept {Z Z' : Zs} {H H' : Hp} {O O' F : List Addr} (t : Tr Z H O Z' H' O') (v : Vld Z H (O ++ F)) : Kp Z F H H' := fun a o e c nt => t.kp a o e (fun m => by
  rcases c with c | c | c
  · exact v.left.nz a m c
  · exact v.apart m c
  · have q := v.left.mu a m
    rw [e] at q
    exact c q) nt
theorem SqT.kp {K : PySem.W.Frag} {Z : Zs} {O : List Addr} {H H' : Hp} (k : Kp Z O H H') {a : Addr} {us : List V} (h : SqT K H a us) : SqT K H' a us := by
  rcases h with (h | ⟨o, h⟩) | h
  · exact .inl (.inl (k _ _ h (.inr (.inr fun z => z)) (fun _ z => nomatch z)))
  · exact .inl (.inr ⟨o, k _ _ h (.inr (.inr fun z => z)) (fun _ z => nomatch z)⟩)
  · exact .inr h
theorem DctAt.kp {H H' : Hp} {a : Addr} {ks : List P} {us : List V} (k : ∀ o, H a = some o → notTb o → H' a = some o) (h : DctAt H a ks us) : DctAt H' a ks us := by
  rcases h with ⟨kvs, h, e1, e2⟩ | ⟨kvs, h, e1, e2, e3⟩
  · exact .inl ⟨kvs, k _ h (fun _ z => nomatch z), e1, e2⟩
  · exact .inr ⟨kvs, k _ h (fun _ z => nomatch z), e1, e2, e3⟩
section
variable {K : PySem.W.Frag} {mg : Str → Option Value} {Z Z' : Zs} {H H' : Hp}
mutual
theorem RP.kp (k : Kp Z [] H H') (hz : ∀ a, Z a → Z' a) : ∀ {x : P} {v : V}, RP K mg Z H v x → RP K mg Z' H' v x
  | .non, _, h => by simpa only [RP] using h
  | .bl _, _, h => by simpa only [RP] using h
  | .int _, _, h => by simpa only [RP] using h
  | .str _, _, h => by simpa only [RP] using h
  | .ty _, _, h => by simpa only [RP] using h
  | .cls _, _, h => by simpa only [RP] using h
  | .fn _, _, h => by simpa only [RP] using h
  | .scr ns, _, h => by
    simp only [RP] at h ⊢
    obtain ⟨a, e, h | ⟨o, h⟩ | h⟩ := h
    · exact ⟨a, e, .inl ⟨hz a h.1, k _ _ h.2 (.inl h.1) (fun _ z => nomatch z)⟩⟩
    · exact ⟨a, e, .inr (.inl ⟨o, k _ _ h (.inr (.inr fun z => z)) (fun _ z => nomatch z)⟩)⟩
    · exact ⟨a, e, .inr (.inr h)⟩
  | .wt xs, _, h => by
    simp only [RP] at h ⊢
    obtain ⟨a, us, e, s, r⟩ := h
    exact ⟨a, us, e, SqT.kp k s, RPs.kp k hz r⟩
  | .thk a c q us xs, _, h => by
    simp only [RP] at h ⊢
    exact ⟨h.1, k _ _ h.2.1 (.inr (.inr fun z => z q rfl)) (fun _ z => nomatch z), RPs.kp k hz h.2.2⟩
  | .tup xs, _, h => by
    simp only [RP] at h ⊢
    obtain ⟨a, us, e, s, r⟩ := h
    exact ⟨a, us, e, ⟨SqT.kp k s.1, fun z => k _ _ (s.2 z) (.inr (.inr fun z => z)) (fun _ z => nomatch z)⟩, RPs.kp k hz r⟩
  | .lst xs, _, h => by
    simp only [RP] at h ⊢
    obtain ⟨a, us, e, z, s, r⟩ := h
    exact ⟨a, us, e, hz a z, k _ _ s (.inl z) (fun _ z => nomatch z), RPs.kp k hz r⟩
  | .dct ks xs, _, h => by
    simp only [RP] at h ⊢
    obtain ⟨a, us, e, z, s, r⟩ := h
    exact ⟨a, us, e, hz a z, s.kp fun o q => k _ _ q (.inl z), RPs.kp k hz r⟩
  | .set _, _, h => by simp only [RP] at h
  | .ins C fs xs, _, h => by
    simp only [RP] at h ⊢
    obtain ⟨a, c, dx, us, e, z, hc, s, l, r⟩ := h
    exact ⟨a, c, dx, us, e, hz a z, hc, k _ _ s (.inl z) (fun _ z => nomatch z), l, RPs.kp k hz r⟩
  | .exc a d c C fs xs, _, h => by
    simp only [RP] at h ⊢
    obtain ⟨us, e, hc, z, s, l, r⟩ := h
    exact ⟨us, e, hc, hz d z, k _ _ s (.inl z) (fun _ z => nomatch z), l, RPs.kp k hz r⟩
theorem RPs.kp (k : Kp Z [] H H') (hz : ∀ a, Z a → Z' a) : ∀ {xs : List P} {us : List V}, RPs K mg Z H us xs → RPs K mg Z' H' us xs
  | [], [], _ => by simp only [RPs]
  | [], _ :: _, h => by simp only [RPs] at h
  | _ :: _, [], h => by simp only [RPs] at h
  | x :: xs, v :: us, h => by
    simp only [RPs] at h ⊢
    exact ⟨RP.kp k hz h.1, RPs.kp k hz h.2⟩
end
mutual
theorem RD.kp (hz : ∀ a, Z a → Z' a) : ∀ {d : D} {v : V} {O : List Addr}, Kp Z O H H' → RD K mg Z H v d O → RD K mg Z' H' v d O
  | .p x, _, _, k, h => by
    simp only [RD] at h ⊢
    exact ⟨h.1, h.2.kp (k.less fun a m => by cases m) hz⟩
  | .l xs, _, _, k, h => by
    simp only [RD] at h ⊢
    obtain ⟨a, us, O', e, s, r, eO⟩ := h
    subst eO
    exact ⟨a, us, O', e, k _ _ s (.inr (.inl List.mem_cons_self)) (fun _ z => nomatch z), RDs.kp hz (k.less fun b m => List.mem_cons_of_mem _ m) r, rfl⟩
  | .d ks xs, _, _, k, h => by
    simp only [RD] at h ⊢
    obtain ⟨a, us, O', e, s, r, eO⟩ := h
    subst eO
    exact ⟨a, us, O', e, s.kp fun o q => k _ _ q (.inr (.inl List.mem_cons_self)), RDs.kp hz (k.less fun b m => List.mem_cons_of_mem _ m) r, rfl⟩
  | .s _, _, _, _, h => by simp only [RD] at h
  | .i C fs xs, _, _, k, h => by
    simp only [RD] at h ⊢
    obtain ⟨a, c, dx, us, O', e, hc, s, l, r, eO⟩ := h
    subst eO
    exact ⟨a, c, dx, us, O', e, hc, k _ _ s (.inr (.inl List.mem_cons_self)) (fun _ z => nomatch z), l, RDs.kp hz (k.less fun b m => List.mem_cons_of_mem _ m) r, rfl⟩
theorem RDs.kp (hz : ∀ a, Z a → Z' a) : ∀ {ds : List D} {us : List V} {O : List Addr}, Kp Z O H H' → RDs K mg Z H us ds O → RDs K mg Z' H' us ds O
  | [], [], _, _, h => by simpa only [RDs] using h
  | [], _ :: _, _, _, h => by simp only [RDs] at h
  | _ :: _, [], _, _, h => by simp only [RDs] at h
  | d :: ds, v :: us, _, k, h => by
    simp only [RDs] at h ⊢
    obtain ⟨O1, O2, h1, h2, eO⟩ := h
    subst eO
    exact ⟨O1, O2, RD.kp hz (k.less fun b m => List.mem_append_left _ m) h1, RDs.kp hz (k.less fun b m => List.mem_append_right _ m) h2, rfl⟩
end
theorem Kp.refl {O : List Addr} : Kp Z O H H := fun _ _ e _ _ => e
theorem RP.mono (hz : ∀ a, Z a → Z' a) {x : P} {v : V} (h : RP K mg Z H v x) : RP K mg Z' H v x := h.kp Kp.refl hz
theorem RD.mono (hz : ∀ a, Z a → Z' a) {d : D} {v : V} {O : List Addr} (h : RD K mg Z H v d O) : RD K mg Z' H v d O := RD.kp hz Kp.refl h
mutual
theorem RP.cl : ∀ {x : P} {v : V}, clean x = true → RP K mg Z H v x → RP K mg Z' H v x
  | .non, _, _, h => by simpa only [RP] using h
  | .bl _, _, _, h => by simpa only [RP] using h
  | .int _, _, _, h => by simpa only [RP] using h
  | .str _, _, _, h => by simpa only [RP] using h
  | .ty _, _, _, h => by simpa only [RP] using h
  | .cls _, _, _, h => by simpa only [RP] using h
  | .fn _, _, _, h => by simpa only [RP] using h
  | .thk _ _ _ _ _, _, c, h => by simp only [clean] at c; cases c
  | .scr ns, _, c, h => by simp only [clean] at c; cases c
  | .wt xs, _, c, h => by
    simp only [RP, clean] at h c ⊢
    obtain ⟨a, us, e, s, r⟩ := h
    exact ⟨a, us, e, s, RPs.cl c r⟩
  | .tup xs, _, c, h => by
    simp only [RP, clean] at h c ⊢
    obtain ⟨a, us, e, s, r⟩ := h
    exact ⟨a, us, e, s, RPs.cl c r⟩
  | .lst xs, _, c, h => by simp only [clean] at c; cases c
  | .dct ks xs, _, c, h => by simp only [clean] at c; cases c
  | .set _, _, _, h => by simp only [RP] at h
  | .ins C fs xs, _, c, h => by simp only [clean] at c; cases c
  | .exc _ _ _ _ _ _, _, c, h => by simp only [clean] at c; cases c
theorem RPs.cl : ∀ {xs : List P} {us : List V}, cleans xs = true → RPs K mg Z H us xs → RPs K mg Z' H us xs
  | [], [], _, _ => by simp only [RPs]
  | [], _ :: _, _, h => by simp only [RPs] at h
  | _ :: _, [], _, h => by simp only [RPs] at h
  | x :: xs, v :: us, c, h => by
    simp only [RPs, cleans, Bool.and_eq_true] at h c ⊢
    exact ⟨RP.cl c.1 h.1, RPs.cl c.2 h.2⟩
end
mutual
theorem RD.cl : ∀ {d : D} {v : V} {O : List Addr}, cleanD d = true → RD K mg Z H v d O → RD K mg Z' H v d O
  | .p x, _, _, c, h => by
    simp only [RD, cleanD] at h c ⊢
    exact ⟨h.1, h.2.cl c⟩
  | .l xs, _, _, c, h => by
    simp only [RD, cleanD] at h c ⊢
    obtain ⟨a, us, O', e, s, r, eO⟩ := h
    exact ⟨a, us, O', e, s, RDs.cl c r, eO⟩
  | .d ks xs, _, _, c, h => by
    simp only [RD, cleanD, Bool.and_eq_true] at h c ⊢
    obtain ⟨a, us, O', e, s, r, eO⟩ := h
    exact ⟨a, us, O', e, s, RDs.cl c.2 r, eO⟩
  | .s _, _, _, _, h => by simp only [RD] at h
  | .i C fs xs, _, _, c, h => by
    simp only [RD, cleanD] at h c ⊢
    obtain ⟨a, cc, dx, us, O', e, hc, s, l, r, eO⟩ := h
    exact ⟨a, cc, dx, us, O', e, hc, s, l, RDs.cl c r, eO⟩
theorem RDs.cl : ∀ {ds : List D} {us : List V} {O : List Addr}, cleanDs ds = true → RDs K mg Z H us ds O → RDs K mg Z' H us ds O
  | [], [], _, _, h => by simpa only [RDs] using h
  | [], _ :: _, _, _, h => by simp only [RDs] at h
  | _ :: _, [], _, _, h => by simp only [RDs] at h
  | d :: ds, v :: us, _, c, h => by
    simp only [RDs, cleanDs, Bool.and_eq_true] at h c ⊢
    obtain ⟨O1, O2, h1, h2, eO⟩ := h
    exact ⟨O1, O2, RD.cl c.1 h1, RDs.cl c.2 h2, eO⟩
end
mutual
theorem RD.vw (hz : ∀ a, Z a → Z' a) : ∀ {d : D} {v : V} {O : List Addr}, (∀ a ∈ O, Z' a) → RD K mg Z H v d O → RP K mg Z' H v (vw d)
  | .p x, _, _, _, h => by
    simp only [RD, _root_.Z.vw] at h ⊢
    exact h.2.mono hz
  | .l xs, _, _, k, h => by
    simp only [RD, RP, _root_.Z.vw] at h ⊢
    obtain ⟨a, us, O', e, s, r, eO⟩ := h
    subst eO
    exact ⟨a, us, e, k a List.mem_cons_self, s, RDs.vw hz (fun b m => k b (List.mem_cons_of_mem _ m)) r⟩
  | .d ks xs, _, _, k, h => by
    simp only [RD, RP, _root_.Z.vw] at h ⊢
    obtain ⟨a, us, O', e, s, r, eO⟩ := h
    subst eO
    exact ⟨a, us, e, k a List.mem_cons_self, s, RDs.vw hz (fun b m => k b (List.mem_cons_of_mem _ m)) r⟩
  | .s _, _, _, _, h => by simp only [RD] at h
  | .i C fs xs, _, _, k, h => by
    simp only [RD, RP, _root_.Z.vw] at h ⊢
    obtain ⟨a, c, dx, us, O', e, hc, s, l, r, eO⟩ := h
    subst eO
    exact ⟨a, c, dx, us, e, k a List.mem_cons_self, hc, s, l, RDs.vw hz (fun b m => k b (List.mem_cons_of_mem _ m)) r⟩
theorem RDs.vw (hz : ∀ a, Z a → Z' a) : ∀ {ds : List D} {us : List V} {O : List Addr}, (∀ a ∈ O, Z' a) → RDs K mg Z H us ds O → RPs K mg Z' H us (vws ds)
  | [], [], _, _, h => by simp only [RPs, vws]
  | [], _ :: _, _, _, h => by simp only [RDs] at h
  | _ :: _, [], _, _, h => by simp only [RDs] at h
  | d :: ds, v :: us, _, k, h => by
    simp only [RDs, RPs, vws] at h ⊢
    obtain ⟨O1, O2, h1, h2, eO⟩ := h
    subst eO
    exact ⟨RD.vw hz (fun b m => k b (List.mem_append_left _ m)) h1, RDs.vw hz (fun b m => k b (List.mem_append_right _ m)) h2⟩
end
end
end Z
set_option Elab.async false
set_option linter.all false
set_option maxRecDepth 100000
namespace Z
open PySem L2
section
variable {K : PySem.W.Frag} {mg : Str → Option Value} {Z Z' : Zs} {H H' : Hp} {ph : Nat → V}
mutual
theorem RD.mu : ∀ {d : D} {v : V} {O : List Addr}, RD K mg Z H v d O → ∀ a ∈ O, MutO a (H a)
  | .p x, _, _, h => by
    simp only [RD] at h
    obtain ⟨e, _⟩ := h
    subst e
    intro a m; cases m
  | .l xs, _, _, h => by
    simp only [RD] at h
    obtain ⟨a, us, O', e, s, r, eO⟩ := h
    subst eO
    intro b m
    rcases List.mem_cons.mp m with q | q
    · subst q; rw [s]; trivial
    · exact RDs.mu r b q
  | .d ks xs, _, _, h => by
    simp only [RD] at h
    obtain ⟨a, us, O', e, s, r, eO⟩ := h
    subst eO
    intro b m
    rcases List.mem_cons.mp m with q | q
    · subst q
      rcases s with ⟨_, s, _⟩ | ⟨_, s, _⟩ <;> rw [s] <;> trivial
    · exact RDs.mu r b q
  | .s _, _, _, h => by simp only [RD] at h
  | .i C fs xs, _, _, h => by
    simp only [RD] at h
    obtain ⟨a, c, dx, us, O', e, hc, s, l, r, eO⟩ := h
    subst eO
    intro b m
    rcases List.mem_cons.mp m with q | q
    · subst q; rw [s]; trivial
    · exact RDs.mu r b q
theorem RDs.mu : ∀ {ds : List D} {us : List V} {O : List Addr}, RDs K mg Z H us ds O → ∀ a ∈ O, MutO a (H a)
  | [], [], _, h => by
    simp only [RDs] at h
    subst h
    intro a m; cases m
  | [], _ :: _, _, h => by simp only [RDs] at h
  | _ :: _, [], _, h => by simp only [RDs] at h
  | d :: ds, v :: us, _, h => by
    simp only [RDs] at h
    obtain ⟨O1, O2, h1, h2, eO⟩ := h
    subst eO
    intro a m
    rcases List.mem_append.mp m with q | q
    · exact RD.mu h1 a q
    · exact RDs.mu h2 a q
end
theorem RDs.length : ∀ {ds : List D} {us : List V} {O : List Addr}, RDs K mg Z H us ds O → us.length = ds.length
  | [], [], _, _ => rfl
  | [], _ :: _, _, h => by simp only [RDs] at h
  | _ :: _, [], _, h => by simp only [RDs] at h
  | d :: ds, v :: us, _, h => by
    simp only [RDs] at h
    obtain ⟨O1, O2, h1, h2, eO⟩ := h
    simp only [List.length_cons, RDs.length h2]
theorem RPs.length : ∀ {ds : List P} {us : List V}, RPs K mg Z H us ds → us.length = ds.length
  | [], [], _ => rfl
  | [], _ :: _, h => by simp only [RPs] at h
  | _ :: _, [], h => by simp only [RPs] at h
  | d :: ds, v :: us, h => by
    simp only [RPs] at h
    simp only [List.length_cons, RPs.length h.2]
theorem RSl.kp {k : Nat} {v : Option V} {s : Slot} {O : List Addr} (hz : ∀ a, Z a → Z' a) (q : Kp Z O H H') (h : RSl K mg Z H ph k v s O) : RSl K mg Z' H' ph k v s O := by
  cases s with
  | no => exact h
  | var d =>
    obtain ⟨u, e, r⟩ := h
    exact ⟨u, e, RD.kp hz q r⟩
  | fix d => exact ⟨h.1, RD.kp hz q h.2⟩
  | lock x =>
    obtain ⟨e, u, eu, r⟩ := h
    exact ⟨e, u, eu, r.kp (q.less fun a m => by cases m) hz⟩
theorem RE0.kp : ∀ {sg : St} {env : Env} {k : Nat} {O : List Addr}, (∀ a, Z a → Z' a) → Kp Z O H H' → RE0 K mg Z H ph k sg env O → RE0 K mg Z' H' ph k sg env O
  | [], [], _, _, _, _, h => h
  | [], _ :: _, _, _, _, _, h => h
  | _ :: _, [], _, _, _, _, h => h
  | v :: sg, s :: env, k, _, hz, q, h => by
    obtain ⟨O1, O2, h1, h2, eO⟩ := h
    subst eO
    exact ⟨O1, O2, h1.kp hz (q.less fun a m => List.mem_append_left _ m), RE0.kp hz (q.less fun a m => List.mem_append_right _ m) h2, rfl⟩
theorem RE.kp {sg : St} {env : Env} {O : List Addr} (hz : ∀ a, Z a → Z' a) (q : Kp Z O H H') (h : RE K mg Z H ph sg env O) : RE K mg Z' H' ph sg env O := by
  obtain ⟨O0, h, p⟩ := h
  exact ⟨O0, h.kp hz (q.less fun a m => p.mem_iff.mp m), p⟩
theorem RE.mono {sg : St} {env : Env} {O : List Addr} (hz : ∀ a, Z a → Z' a) (h : RE K mg Z H ph sg env O) : RE K mg Z' H ph sg env O := h.kp hz Kp.refl
theorem RE.perm {sg : St} {env : Env} {O O' : List Addr} (h : RE K mg Z H ph sg env O) (p : O.Perm O') : RE K mg Z H ph sg env O' := by
  obtain ⟨O0, h, q⟩ := h
  exact ⟨O0, h, q.trans p⟩
theorem RE0.at : ∀ {sg : St} {env : Env} {k i : Nat} {O : List Addr} {s : Slot}, RE0 K mg Z H ph k sg env O → env[i]? = some s →
    ∃ v O1 Or, sg[i]? = some v ∧ RSl K mg Z H ph (k + i) v s O1 ∧ O.Perm (O1 ++ Or) ∧
      ∀ (Z' : Zs) (H' : Hp) v' s' O1', (∀ a, Z a → Z' a) → Kp Z Or H H' → RSl K mg Z' H' ph (k + i) v' s' O1' → ∃ O', RE0 K mg Z' H' ph k (sg.set i v') (env.set i s') O' ∧ O'.Perm (O1' ++ Or)
  | [], [], _, _, _, _, _, e => by simp at e
  | [], _ :: _, _, _, _, _, h, _ => h.elim
  | _ :: _, [], _, _, _, _, h, _ => h.elim
  | v :: sg, s :: env, k, 0, _, s0, h, e => by
    obtain ⟨O1, O2, h1, h2, eO⟩ := h
    subst eO
    have es : s = s0 := by simpa using e
    subst es
    exact ⟨v, O1, O2, rfl, h1, List.Perm.refl _, fun Z' H' v' s' O1' hz kk r => ⟨O1' ++ O2, ⟨O1', O2, r, h2.kp hz kk, rfl⟩, List.Perm.refl _⟩⟩
  | v :: sg, s :: env, k, i + 1, _, s0, h, e => by
    obtain ⟨O1, O2, h1, h2, eO⟩ := h
    subst eO
    obtain ⟨w, P1, Pr, ew, rw_, pp, put⟩ := RE0.at (i := i) (s := s0) h2 (by simpa using e)
    have ek : k + 1 + i = k + (i + 1) := by omega
    rw [ek] at rw_ put
    refine ⟨w, P1, O1 ++ Pr, by simpa using ew, rw_, ?_, fun Z' H' v' s' O1' hz kk r => ?_⟩
    · refine (List.Perm.append_left O1 pp).trans ?_
      rw [← List.append_assoc, ← List.append_assoc]
      exact List.Perm.append_right Pr List.perm_append_comm
    · obtain ⟨O', h', p'⟩ := put Z' H' v' s' O1' hz (kk.less fun a m => List.mem_append_right _ m) r
      refine ⟨O1 ++ O', ⟨O1, O', h1.kp hz (kk.less fun a m => List.mem_append_left _ m), h', rfl⟩, ?_⟩
      refine (List.Perm.append_left O1 p').trans ?_
      rw [← List.append_assoc, ← List.append_assoc]
      exact List.Perm.append_right Pr List.perm_append_comm
theorem set_same {α : Type} : ∀ {l : List α} {i : Nat} {x : α}, l[i]? = some x → l.set i x = l
  | [], _, _, e => by simp at e
  | a :: l, 0, x, e => by
    have q : a = x := by simpa using e
    rw [q]; rfl
  | a :: l, i + 1, x, e => by
    show a :: l.set i x = a :: l
    rw [set_same (by simpa using e)]
/-- one slot, with what it owns, and the rest -/
theorem RE.at {sg : St} {env : Env} {i : Nat} {O : List Addr} {s : Slot} (h : RE K mg Z H ph sg env O) (e : env[i]? = some s) :
    ∃ v O1 Or, sg[i]? = some v ∧ RSl K mg Z H ph i v s O1 ∧ O.Perm (O1 ++ Or) ∧
      (∀ (Z' : Zs) (H' : Hp) v' s' O1', (∀ a, Z a → Z' a) → Kp Z Or H H' → RSl K mg Z' H' ph i v' s' O1' → RE K mg Z' H' ph (sg.set i v') (env.set i s') (O1' ++ Or)) ∧
      (∀ (Z' : Zs) (H' : Hp) s' O1', (∀ a, Z a → Z' a) → Kp Z Or H H' → RSl K mg Z' H' ph i v s' O1' → RE K mg Z' H' ph sg (env.set i s') (O1' ++ Or)) := by
  obtain ⟨O0, h, p⟩ := h
  obtain ⟨v, O1, Or, ev, r, pp, put⟩ := h.at e
  rw [Nat.zero_add] at r put
  refine ⟨v, O1, Or, ev, r, p.symm.trans pp, fun Z' H' v' s' O1' hz kk r' => ?_, fun Z' H' s' O1' hz kk r' => ?_⟩
  · obtain ⟨O', h', p'⟩ := put Z' H' v' s' O1' hz kk r'
    exact ⟨O', h', p'⟩
  · obtain ⟨O', h', p'⟩ := put Z' H' v s' O1' hz kk r'
    rw [set_same ev] at h'
    exact ⟨O', h', p'⟩
end

/-- how a def's frame stands: the slots' trees, what is frozen, what is owned -/
structure At (K : PySem.W.Frag) (mg : Str → Option Value) (ph : Nat → V) (Z : Zs) (H : Hp) (sg : St) (env : Env) (O : List Addr) : Prop where
  re : RE K mg Z H ph sg env O
  vl : Vld Z H O
section
variable (K : PySem.W.Frag) (mg : Str → Option Value) (W : WX)
/-- an error on its way, from a state (Z, H, O) -/
def XcK (ph : Nat → V) (Z : Zs) (H : Hp) (O : List Addr) (sg : St) (e : Ex) (env' : Env) : Prop :=
  ∀ cls dx H' Z' O', At K mg ph Z' H' sg env' O' → Tr Z H O Z' H' O' → RX K mg Z' H' cls dx e → W cls dx sg H'
def rE (f : EF) : TE := fun sg H Q => ∃ env ph Z O, At K mg ph Z H sg env O ∧ match f env with
  | .ok d env' => ∀ v H' Z' O' Od, RE K mg Z' H' ph sg env' O' → RD K mg Z' H' v d Od → Vld Z' H' (O' ++ Od) → Tr Z H O Z' H' (O' ++ Od) → Q v H'
  | .exc e env' => XcK K mg W ph Z H O sg e env'
  | .stuck => False
def rT (t : TF) : TT := fun sg H Q => ∃ env ph Z O, At K mg ph Z H sg env O ∧ match t env with
  | .ok b env' => ∀ H' Z' O', At K mg ph Z' H' sg env' O' → Tr Z H O Z' H' O' → Q b H'
  | .exc e env' => XcK K mg W ph Z H O sg e env'
  | .stuck => False
/-- the arguments' values: a slot's, an expression's -/
def RAs (Z : Zs) (H : Hp) (sg : St) : List V → List Arg → List (Option D) → List Addr → Prop
  | [], [], [], O => O = []
  | v :: vs, .v i :: as, none :: os, O => sg[i]? = some (some v) ∧ RAs Z H sg vs as os O
  | v :: vs, .e _ :: as, some d :: os, O => ∃ O1 O2, RD K mg Z H v d O1 ∧ RAs Z H sg vs as os O2 ∧ O = O1 ++ O2
  | _, _, _, _ => False
def rAs (as : List Arg) : TA := fun sg H Q => ∃ env ph Z O, At K mg ph Z H sg env O ∧ match args1 as env with
  | .ok os env' => ∀ vs H' Z' O' Ot, RE K mg Z' H' ph sg env' O' → RAs K mg Z' H' sg vs as os Ot → Vld Z' H' (O' ++ Ot) → Tr Z H O Z' H' (O' ++ Ot) → Q vs H'
  | .exc e env' => XcK K mg W ph Z H O sg e env'
  | .stuck => False
def rArg : Arg → TE
  | .v i => tVar i
  | .e f => rE K mg W f
variable {K mg W}
theorem At.kp {ph : Nat → V} {Z Z' : Zs} {H H' : Hp} {sg : St} {env : Env} {O O' F : List Addr} (h : RE K mg Z H ph sg env F) (v : Vld Z H (O ++ F)) (t : Tr Z H O Z' H' O') : RE K mg Z' H' ph sg env F :=
  h.kp t.z1 (t.kept v)
theorem RSl.val {ph : Nat → V} {Z : Zs} {H : Hp} {k : Nat} {v : Option V} {s : Slot} {O : List Addr} {d : D} (h : RSl K mg Z H ph k v s O) (e : slotD s = some d) : ∃ u, v = some u ∧ RD K mg Z H u d O := by
  cases s with
  | no => cases e
  | var d' =>
    cases e
    exact h
  | fix d' =>
    cases e
    exact ⟨_, h.1, h.2⟩
  | lock x =>
    cases e
    obtain ⟨eO, u, eu, r⟩ := h
    refine ⟨u, eu, ?_⟩
    simp only [RD]
    exact ⟨eO, r⟩
theorem At.has {ph : Nat → V} {Z : Zs} {H : Hp} {sg : St} {env : Env} {O : List Addr} (A : At K mg ph Z H sg env O) {i : Nat} (h : has env i = true) : ∃ u, sg[i]? = some (some u) := by
  unfold _root_.Z.has at h
  cases e : env[i]? with
  | none => rw [e] at h; cases h
  | some s =>
    rw [e] at h
    obtain ⟨v, O1, Or, ev, r, _⟩ := A.re.at e
    cases s with
    | no => cases h
    | var d => obtain ⟨u, eu, _⟩ := r; exact ⟨u, by rw [ev, eu]⟩
    | fix d => exact ⟨ph i, by rw [ev, r.1]⟩
    | lock x => obtain ⟨_, u, eu, _⟩ := r; exact ⟨u, by rw [ev, eu]⟩
theorem RAs.kp {Z Z' : Zs} {H H' : Hp} {sg : St} : ∀ {as : List Arg} {vs : List V} {os : List (Option D)} {O : List Addr}, (∀ a, Z a → Z' a) → Kp Z O H H' → RAs K mg Z H sg vs as os O → RAs K mg Z' H' sg vs as os O
  | [], [], [], _, _, _, h => h
  | [], [], _ :: _, _, _, _, h => by cases h
  | [], _ :: _, _, _, _, _, h => by cases h
  | .v i :: as, [], _, _, _, _, h => by cases h
  | .e f :: as, [], _, _, _, _, h => by cases h
  | .v i :: as, v :: vs, [], _, _, _, h => by cases h
  | .e f :: as, v :: vs, [], _, _, _, h => by cases h
  | .v i :: as, v :: vs, some d :: os, _, _, _, h => by cases h
  | .e f :: as, v :: vs, none :: os, _, _, _, h => by cases h
  | .v i :: as, v :: vs, none :: os, _, hz, k, h => ⟨h.1, RAs.kp hz k h.2⟩
  | .e f :: as, v :: vs, some d :: os, _, hz, k, h => by
    obtain ⟨O1, O2, h1, h2, e⟩ := h
    subst e
    exact ⟨O1, O2, RD.kp hz (k.less fun a m => List.mem_append_left _ m) h1, RAs.kp hz (k.less fun a m => List.mem_append_right _ m) h2, rfl⟩
theorem RAs.len {Z : Zs} {H : Hp} {sg : St} : ∀ {as : List Arg} {vs : List V} {os : List (Option D)} {O : List Addr}, RAs K mg Z H sg vs as os O → vs.length = as.length
  | [], [], _, _, _ => rfl
  | [], _ :: _, _, _, h => by cases h
  | .v i :: as, [], _, _, h => by cases h
  | .e f :: as, [], _, _, h => by cases h
  | .v i :: as, v :: vs, [], _, h => by cases h
  | .e f :: as, v :: vs, [], _, h => by cases h
  | .v i :: as, v :: vs, some d :: os, _, h => by cases h
  | .e f :: as, v :: vs, none :: os, _, h => by cases h
  | .v i :: as, v :: vs, none :: os, _, h => congrArg Nat.succ (RAs.len h.2)
  | .e f :: as, v :: vs, some d :: os, _, h => by
    obtain ⟨O1, O2, h1, h2, e⟩ := h
    exact congrArg Nat.succ (RAs.len h2)
theorem rAs_nil {sg : St} {H : Hp} {Q : List V → Hp → Prop} (h : rAs K mg W [] sg H Q) : Q [] H := by
  obtain ⟨env, ph, Z, O, A, h⟩ := h
  exact h [] H Z O [] A.re rfl (by rw [List.append_nil]; exact A.vl) (by rw [List.append_nil]; exact Tr.refl ..)
/-- the arguments one by one, from the left -/
theorem rAs_cons {a : Arg} {as : List Arg} {sg : St} {H : Hp} {Q : List V → Hp → Prop} (h : rAs K mg W (a :: as) sg H Q) : rArg K mg W a sg H fun x H1 => rAs K mg W as sg H1 fun xs H2 => Q (x :: xs) H2 := by
  obtain ⟨env, ph, Z, O, A, h⟩ := h
  cases a with
  | v i =>
    unfold args1 at h
    cases e : has env i with
    | false => rw [e] at h; exact h.elim
    | true =>
      rw [e] at h
      obtain ⟨u, eu⟩ := A.has e
      refine ⟨u, eu, env, ph, Z, O, A, ?_⟩
      cases e1 : args1 as env with
      | ok os env' =>
        rw [e1] at h
        intro vs H' Z' O' Ot r ra v t
        exact h (u :: vs) H' Z' O' Ot r ⟨eu, ra⟩ v t
      | exc x env' => rw [e1] at h; exact h
      | stuck => rw [e1] at h; exact h
  | e f =>
    unfold args1 at h
    refine ⟨env, ph, Z, O, A, ?_⟩
    cases e1 : f env with
    | stuck => rw [e1] at h; exact h
    | exc x env' => rw [e1] at h; exact h
    | ok d env1 =>
      rw [e1] at h
      intro v H1 Z1 O1 Od r1 rd v1 t1
      refine ⟨env1, ph, Z1, O1, ⟨r1, v1.left⟩, ?_⟩
      have t1' : Tr Z H O Z1 H1 O1 := t1.less fun a m => List.mem_append_left _ m
      cases e2 : args1 as env1 with
      | stuck => simp only [ER.bind, e2] at h
      | exc x env' =>
        simp only [ER.bind, e2] at h
        intro cls dx H' Z' O' A' t' rx
        exact h cls dx H' Z' O' A' (t1'.trans t') rx
      | ok os env2 =>
        simp only [ER.bind, e2] at h
        intro vs H2 Z2 O2 Ot r2 ra v2 t2
        have kd : Kp Z1 Od H1 H2 := t2.kept v1
        have vv : Vld Z2 H2 ((O2 ++ Ot) ++ Od) := v1.step t2 v2
        have pp : ((O2 ++ Ot) ++ Od).Perm (O2 ++ (Od ++ Ot)) := by
          rw [List.append_assoc]
          exact List.Perm.append_left O2 List.perm_append_comm
        refine h (v :: vs) H2 Z2 O2 (Od ++ Ot) r2 ⟨Od, Ot, RD.kp t2.z1 kd rd, ra, rfl⟩ (vv.perm pp) ?_
        exact (t1.trans (t2.frame (F := Od))).perm (List.Perm.refl _) pp
end
end Z
set_option Elab.async false
set_option linter.all false
set_option maxRecDepth 100000
namespace Z
open PySem L2
section
variable {K : PySem.W.Frag} {mg : Str → Option Value} {W : WX} {ph : Nat → V} {Z : Zs} {H : Hp}
theorem rd_p {v : V} {x : P} (h : RP K mg Z H v x) : RD K mg Z H v (.p x) [] := by
  simp only [RD]
  exact ⟨trivial, h⟩
theorem of_rd_p {v : V} {x : P} {O : List Addr} (h : RD K mg Z H v (.p x) O) : O = [] ∧ RP K mg Z H v x := by simpa only [RD] using h
def plusZ (Z : Zs) (O : List Addr) : Zs := fun a => Z a ∨ a ∈ O
theorem ownAt_no {env : Env} {i : Nat} {s : Slot} {d : D} (e : env[i]? = some s) (ed : slotD s = some d) (h : ownAt env i = false) : ∃ x, d = .p x := by
  unfold ownAt at h
  rw [e] at h
  cases s with
  | no => cases ed
  | var d' =>
    cases ed
    cases d <;> first | exact ⟨_, rfl⟩ | cases h
  | fix d' =>
    cases ed
    cases d <;> first | exact ⟨_, rfl⟩ | cases h
  | lock x => cases h
theorem freezeAt_none {env : Env} {i : Nat} (e : env[i]? = none) : freezeAt env i = env := by unfold freezeAt; rw [e]
/-- one slot is frozen -/
theorem At.freeze {sg : St} {env : Env} {O : List Addr} (A : At K mg ph Z H sg env O) (i : Nat) :
    ∃ Ob O2, O.Perm (Ob ++ O2) ∧ RE K mg (plusZ Z Ob) H ph sg (freezeAt env i) O2 ∧ (ownAt env i = false → Ob = []) ∧
      (∀ d u, (env[i]?).bind slotD = some d → sg[i]? = some (some u) → RP K mg (plusZ Z Ob) H u (vw d)) := by
  cases e : env[i]? with
  | none =>
    rw [freezeAt_none e]
    exact ⟨[], O, List.Perm.refl _, A.re.mono fun a h => .inl h, fun _ => rfl, fun d u h => by cases h⟩
  | some s =>
    obtain ⟨v, O1, Or, ev, r, pp, _, put⟩ := A.re.at e
    have mono : ∀ a, Z a → plusZ Z O1 a := fun a h => .inl h
    have own : ∀ a ∈ O1, plusZ Z O1 a := fun a h => .inr h
    have goal2 : ∀ d u, some s = some s → slotD s = some d → sg[i]? = some (some u) → RP K mg (plusZ Z O1) H u (vw d) := fun d u _ hd hu => by
      obtain ⟨w, ew, rw_⟩ := r.val hd
      rw [ev] at hu
      have : w = u := by rw [ew] at hu; exact Option.some.inj (Option.some.inj hu)
      subst this
      exact RD.vw mono own rw_
    have hown : ownAt env i = false → O1 = [] := fun h => by
      cases hs : slotD s with
      | none => cases s <;> first | exact r | cases hs
      | some d =>
        obtain ⟨x, ex⟩ := ownAt_no e hs h
        obtain ⟨w, ew, rw_⟩ := r.val hs
        subst ex
        simp only [RD] at rw_
        exact rw_.1
    refine ⟨O1, Or, pp, ?_, hown, fun d u h hu => goal2 d u rfl h hu⟩
    unfold freezeAt
    rw [e]
    cases s with
    | no =>
      have h0 : O1 = [] := r
      subst h0
      exact (A.re.perm pp).mono mono
    | var d =>
      obtain ⟨w, ew, rw_⟩ := r
      refine put (plusZ Z O1) H (.var (.p (vw d))) [] mono Kp.refl ⟨w, ew, ?_⟩
      exact rd_p (RD.vw mono own rw_)
    | fix d =>
      refine put (plusZ Z O1) H (.fix (.p (vw d))) [] mono Kp.refl ⟨r.1, ?_⟩
      exact rd_p (RD.vw mono own r.2)
    | lock x =>
      obtain ⟨eO, w, ew, rw_⟩ := r
      refine put (plusZ Z O1) H (.var (.p x)) [] mono Kp.refl ⟨w, ew, ?_⟩
      exact rd_p (rw_.mono mono)
theorem Vld.part {O Ob O2 : List Addr} (v : Vld Z H O) (p : O.Perm (Ob ++ O2)) : Vld (plusZ Z Ob) H O2 := by
  have w := v.perm p
  refine ⟨w.right.nd, fun a h z => ?_, fun a z => ?_, w.right.mu, v.tb⟩
  · rcases z with z | z
    · exact w.right.nz a h z
    · exact w.apart z h
  · rcases z with z | z
    · exact v.zs a z
    · intro q
      have m := w.left.mu a z
      rw [q] at m
      exact m
theorem slotD_freeze {env : Env} {i j : Nat} {d : D} (h : (env[j]?).bind slotD = some d) : ∃ d', ((freezeAt env i)[j]?).bind slotD = some d' ∧ vw d' = vw d := by
  unfold freezeAt
  by_cases q : i = j
  · subst q
    cases e : env[i]? with
    | none => rw [e] at h; cases h
    | some s =>
      rw [e] at h
      have lt : i < env.length := (List.getElem?_eq_some_iff.mp e).1
      cases s with
      | no => cases h
      | var d' =>
        cases h
        refine ⟨.p (vw d), ?_, rfl⟩
        simp only [List.getElem?_set_self lt]
        rfl
      | fix d' =>
        cases h
        refine ⟨.p (vw d), ?_, rfl⟩
        simp only [List.getElem?_set_self lt]
        rfl
      | lock x =>
        cases h
        refine ⟨.p x, ?_, rfl⟩
        simp only [List.getElem?_set_self lt]
        rfl
  · cases e : env[i]? with
    | none => exact ⟨d, h, rfl⟩
    | some s =>
      cases s with
      | no => exact ⟨d, h, rfl⟩
      | var d' =>
        refine ⟨d, ?_, rfl⟩
        simp only [List.getElem?_set_ne q]
        exact h
      | fix d' =>
        refine ⟨d, ?_, rfl⟩
        simp only [List.getElem?_set_ne q]
        exact h
      | lock x =>
        refine ⟨d, ?_, rfl⟩
        simp only [List.getElem?_set_ne q]
        exact h
theorem ownAt_freeze {env : Env} {i j : Nat} (h : ownAt env j = false) : ownAt (freezeAt env i) j = false := by
  by_cases q : i = j
  · subst q
    unfold freezeAt
    cases e : env[i]? with
    | none => exact h
    | some s =>
      have lt : i < env.length := (List.getElem?_eq_some_iff.mp e).1
      cases s with
      | no => exact h
      | var d' =>
        unfold ownAt
        simp only [List.getElem?_set_self lt]
      | fix d' =>
        unfold ownAt
        simp only [List.getElem?_set_self lt]
      | lock x =>
        unfold ownAt
        simp only [List.getElem?_set_self lt]
  · unfold freezeAt
    unfold ownAt at h ⊢
    cases e : env[i]? with
    | none => exact h
    | some s =>
      cases s with
      | no => exact h
      | var d' =>
        simp only [List.getElem?_set_ne q]
        exact h
      | fix d' =>
        simp only [List.getElem?_set_ne q]
        exact h
      | lock x =>
        simp only [List.getElem?_set_ne q]
        exact h
theorem borrows_freeze {i : Nat} : ∀ {as : List Arg} {env : Env}, borrows env as = false → borrows (freezeAt env i) as = false
  | [], _, _ => rfl
  | .v j :: as, env, h => by
    simp only [borrows, Bool.or_eq_false_iff] at h ⊢
    exact ⟨ownAt_freeze h.1, borrows_freeze h.2⟩
  | .e _ :: as, env, h => by
    simp only [borrows] at h ⊢
    exact borrows_freeze h
theorem plusZ_plus {A B : List Addr} : plusZ (plusZ Z A) B = plusZ Z (A ++ B) := by
  funext a
  unfold plusZ
  rw [List.mem_append, or_assoc]
/-- all that is lent is frozen -/
theorem At.freezes : ∀ {as : List Arg} {Z : Zs} {sg : St} {env : Env} {O : List Addr}, At K mg ph Z H sg env O →
    ∃ Ob O2, O.Perm (Ob ++ O2) ∧ RE K mg (plusZ Z Ob) H ph sg (freezes env as) O2 ∧ (borrows env as = false → Ob = []) ∧
      (∀ i d u, Arg.v i ∈ as → (env[i]?).bind slotD = some d → sg[i]? = some (some u) → RP K mg (plusZ Z Ob) H u (vw d))
  | [], Z, sg, env, O, A => ⟨[], O, List.Perm.refl _, A.re.mono fun a h => .inl h, fun _ => rfl, fun i d u m => by cases m⟩
  | .e f :: as, Z, sg, env, O, A => by
    obtain ⟨Ob, O2, p, r, n, v⟩ := At.freezes (as := as) A
    exact ⟨Ob, O2, p, r, n, fun i d u m => v i d u (by rcases List.mem_cons.mp m with q | q; cases q; exact q)⟩
  | .v j :: as, Z, sg, env, O, A => by
    obtain ⟨O1, O2, p, r, n, v⟩ := A.freeze j
    obtain ⟨O3, O4, p', r', n', v'⟩ := At.freezes (as := as) ⟨r, A.vl.part p⟩
    rw [plusZ_plus] at r' v'
    refine ⟨O1 ++ O3, O4, ?_, r', fun b => ?_, fun i d u m hd hu => ?_⟩
    · rw [List.append_assoc]
      exact p.trans (List.Perm.append_left O1 p')
    · simp only [borrows, Bool.or_eq_false_iff] at b
      rw [n b.1, n' (borrows_freeze b.2)]
      rfl
    · rcases List.mem_cons.mp m with q | q
      · cases q
        exact (v d u hd hu).mono fun a h => by
          rcases h with h | h
          · exact .inl h
          · exact .inr (List.mem_append_left _ h)
      · obtain ⟨d', hd', ed⟩ := slotD_freeze (i := j) hd
        rw [← ed]
        exact v' i d' u q hd' hu
def nFin (m : Bool) (v : List V) : List V := if m then v.take 1 else []
def dFin (m : Bool) (d : D) : List D := if m then [d] else []
def Sat (K : PySem.W.Frag) (mg : Str → Option Value) (m : Bool) (n : Nat) (h : Fn) : Sp := fun vs H Q E => vs.length = n ∧ ∃ Z O ds, RDs K mg Z H vs ds O ∧ Vld Z H O ∧ match h ds with
  | .ok r fin => ∀ v Z' H' O', RDs K mg Z' H' (v :: nFin m vs) (r :: dFin m fin) O' → Vld Z' H' O' → Tr Z H O Z' H' O' → Q v H'
  | .exc e fin => ∀ cls dx Z' H' O', RDs K mg Z' H' (nFin m vs) (dFin m fin) O' → Vld Z' H' O' → Tr Z H O Z' H' O' → RX K mg Z' H' cls dx e → E cls dx H'
  | .stuck => False
theorem Tr.unplus {Z Z' : Zs} {H H' : Hp} {O O' Ob : List Addr} (t : Tr (plusZ Z Ob) H O Z' H' O') (hz : ∀ a ∈ Ob, ¬ Z a) : Tr Z H O (fun a => Z' a ∧ a ∉ Ob) H' O' where
  z1 a h := ⟨t.z1 a (.inl h), fun m => hz a m h⟩
  z2 a h := by
    rcases t.z2 a h.1 with (q | q) | q | q
    · exact .inl q
    · exact (h.2 q).elim
    · exact .inr (.inl q)
    · exact .inr (.inr q)
  o1 := t.o1
  kp := t.kp
  nn := t.nn
  tb := t.tb
/-- the values that go into the call -/
theorem RAs.go {Zc : Zs} {sg : St} {env : Env} {as0 : List Arg} (hv : ∀ i d u, (env[i]?).bind slotD = some d → sg[i]? = some (some u) → Arg.v i ∈ as0 → RP K mg Zc H u (vw d)) :
    ∀ {as : List Arg} {vs : List V} {os : List (Option D)} {O : List Addr} {ds : List D}, (∀ a ∈ as, a ∈ as0) → (∀ a, Z a → Zc a) → RAs K mg Z H sg vs as os O → args2 env as os = some ds → RDs K mg Zc H vs ds O
  | [], [], [], _, _, _, _, h, e => by
    cases e
    simp only [RDs]
    exact h
  | [], [], _ :: _, _, _, _, _, h, _ => by cases h
  | [], _ :: _, _, _, _, _, _, h, _ => by cases h
  | .v i :: as, [], _, _, _, _, _, h, _ => by cases h
  | .e f :: as, [], _, _, _, _, _, h, _ => by cases h
  | .v i :: as, v :: vs, [], _, _, _, _, h, _ => by cases h
  | .e f :: as, v :: vs, [], _, _, _, _, h, _ => by cases h
  | .v i :: as, v :: vs, some d :: os, _, _, _, _, h, _ => by cases h
  | .e f :: as, v :: vs, none :: os, _, _, _, _, h, _ => by cases h
  | .v i :: as, v :: vs, none :: os, O, ds, sub, hz, h, e => by
    unfold args2 at e
    cases es : env[i]? with
    | none => rw [es] at e; cases e
    | some s =>
      rw [es] at e
      cases ed : slotD s with
      | none => simp only [ed] at e; cases e
      | some d =>
        cases ea : args2 env as os with
        | none => simp only [ed, ea] at e; cases e
        | some ds2 =>
          simp only [ed, ea] at e
          cases e
          simp only [RDs]
          exact ⟨[], O, rd_p (hv i d v (by rw [es]; exact ed) h.1 (sub _ List.mem_cons_self)), RAs.go hv (fun a m => sub a (List.mem_cons_of_mem _ m)) hz h.2 ea, rfl⟩
  | .e f :: as, v :: vs, some d :: os, _, ds, sub, hz, h, e => by
    obtain ⟨O1, O2, h1, h2, eO⟩ := h
    unfold args2 at e
    cases ea : args2 env as os with
    | none => rw [ea] at e; cases e
    | some ds2 =>
      rw [ea] at e
      cases e
      simp only [RDs]
      exact ⟨O1, O2, RD.mono hz h1, RAs.go hv (fun a m => sub a (List.mem_cons_of_mem _ m)) hz h2 ea, eO⟩
theorem rds1 {v : V} {d : D} {O : List Addr} (h : RDs K mg Z H [v] [d] O) : RD K mg Z H v d O := by
  simp only [RDs] at h
  obtain ⟨O1, O2, h1, h2, e⟩ := h
  subst h2
  rw [List.append_nil] at e
  subst e
  exact h1
theorem rds_cons {v : V} {d : D} {us : List V} {ds : List D} {O1 O2 : List Addr} (h : RD K mg Z H v d O1) (h2 : RDs K mg Z H us ds O2) : RDs K mg Z H (v :: us) (d :: ds) (O1 ++ O2) := by
  simp only [RDs]
  exact ⟨O1, O2, h, h2, rfl⟩
/-- behind a call that changes nothing of the frame's own -/
theorem eOp_ok {as : List Arg} {h : Fn} {sg : St} {H : Hp} {Q : VK} (hr : rE K mg W (eOp as h) sg H Q) : rAs K mg W as sg H fun vs H1 => Sat K mg false as.length h vs H1 Q (WE W sg) := by
  obtain ⟨env, ph, Z, O, A, hh⟩ := hr
  refine ⟨env, ph, Z, O, A, ?_⟩
  unfold eOp at hh
  cases e1 : args1 as env with
  | stuck => simp only [e1, ER.bind] at hh
  | exc x env' => simp only [e1, ER.bind] at hh; exact hh
  | ok os env1 =>
    simp only [e1, ER.bind] at hh
    intro vs H1 Z1 O1 Ot r1 ra v1 t1
    have hlen := ra.len
    refine ⟨hlen, ?_⟩
    cases e2 : args2 env1 as os with
    | none => simp only [e2] at hh
    | some ds =>
      simp only [e2] at hh
      have A1 : At K mg ph Z1 H1 sg env1 O1 := ⟨r1, v1.left⟩
      obtain ⟨Ob, O2, p, rf, nb, hv⟩ := A1.freezes (as := as)
      have hz : ∀ a, Z1 a → plusZ Z1 Ob a := fun a q => .inl q
      have rds : RDs K mg (plusZ Z1 Ob) H1 vs ds Ot := RAs.go (as0 := as) (fun i d u hd hu m => hv i d u m hd hu) (fun a m => m) hz ra e2
      have vall : Vld (plusZ Z1 Ob) H1 (O2 ++ Ot) := v1.part (p.append_right Ot |>.trans (by rw [List.append_assoc]))
      have vc : Vld (plusZ Z1 Ob) H1 (Ot ++ O2) := vall.perm List.perm_append_comm
      refine ⟨plusZ Z1 Ob, Ot, ds, rds, vc.left, ?_⟩
      have pO : (O1 ++ Ot).Perm ((Ob ++ O2) ++ Ot) := p.append_right Ot
      have tz : Tr Z H O (plusZ Z1 Ob) H1 (Ot ++ O2) := by
        have t2 := t1.perm (List.Perm.refl _) pO
        refine ⟨fun a q => .inl (t2.z1 a q), fun a q => ?_, fun a m => t2.o1 a ?_, t2.kp, t2.nn, t2.tb⟩
        · rcases q with q | q
          · exact t2.z2 a q
          · exact .inr (t2.o1 a (List.mem_append_left _ (List.mem_append_left _ q)))
        · rcases List.mem_append.mp m with q | q
          · exact List.mem_append_right _ q
          · exact List.mem_append_left _ (List.mem_append_right _ q)
      cases e3 : h ds with
      | stuck => simp only [e3] at hh
      | exc x fin =>
        simp only [e3] at hh
        intro cls dx Z2 H2 O3 rfin v2 t2 rx
        have e0 : O3 = [] := by
          have z : RDs K mg Z2 H2 [] [] O3 := rfin
          simpa only [RDs] using z
        subst e0
        have rE2 : RE K mg Z2 H2 ph sg (_root_.Z.freezes env1 as) O2 := At.kp rf vc t2
        have vv := vc.step t2 v2
        exact hh cls dx H2 Z2 O2 ⟨rE2, by simpa using vv⟩ ((tz.trans (t2.frame (F := O2))).perm (List.Perm.refl _) (by simp)) rx
      | ok r fin =>
        simp only [e3] at hh
        intro v Z2 H2 O3 rr v2 t2
        have rr : RD K mg Z2 H2 v r O3 := rds1 rr
        have vv := vc.step t2 v2
        have rf2 : RE K mg Z2 H2 ph sg (_root_.Z.freezes env1 as) O2 := At.kp rf vc t2
        -- what is lent comes back
        have back : (borrows env1 as = true → cleanD r = true) → RE K mg (fun a => Z2 a ∧ a ∉ Ob) H2 ph sg env1 O1 ∧ RD K mg (fun a => Z2 a ∧ a ∉ Ob) H2 v r O3 ∧ Vld (fun a => Z2 a ∧ a ∉ Ob) H2 (O1 ++ O3) ∧ Tr Z H O (fun a => Z2 a ∧ a ∉ Ob) H2 (O1 ++ O3) := fun hc => by
          have nz : ∀ a ∈ Ob, ¬ Z1 a := fun a m q => v1.left.nz a (p.mem_iff.mpr (List.mem_append_left _ m)) q
          have tu : Tr Z1 H1 Ot (fun a => Z2 a ∧ a ∉ Ob) H2 O3 := t2.unplus nz
          have vx : Vld Z1 H1 (Ot ++ O1) := v1.perm List.perm_append_comm
          have vr : Vld (fun a => Z2 a ∧ a ∉ Ob) H2 O3 := ⟨v2.nd, fun a m q => v2.nz a m q.1, fun a q => v2.zs a q.1, v2.mu, v2.tb⟩
          have vfin := vx.step tu vr
          refine ⟨At.kp r1 vx tu, ?_, vfin.perm List.perm_append_comm, ?_⟩
          · cases hb : borrows env1 as with
            | true => exact rr.cl (hc hb)
            | false =>
              have e0 := nb hb
              subst e0
              exact rr.mono fun a q => ⟨q, fun m => by cases m⟩
          · exact (t1.trans ((tu.frame (F := O1)).perm List.perm_append_comm List.perm_append_comm))
        unfold settle at hh
        cases hb : borrows env1 as with
        | false =>
          rw [hb] at hh
          obtain ⟨q1, q2, q3, q4⟩ := back fun z => by rw [hb] at z; cases z
          exact hh v H2 _ O1 O3 q1 q2 q3 q4
        | true =>
          rw [hb] at hh
          cases hc : cleanD r with
          | true =>
            rw [hc] at hh
            obtain ⟨q1, q2, q3, q4⟩ := back fun _ => hc
            exact hh v H2 _ O1 O3 q1 q2 q3 q4
          | false =>
            rw [hc] at hh
            exact hh v H2 Z2 O2 O3 rf2 rr (vv.perm List.perm_append_comm) ((tz.trans (t2.frame (F := O2))).perm (List.Perm.refl _) List.perm_append_comm)
end
end Z
set_option Elab.async false
set_option linter.all false
set_option maxRecDepth 100000
namespace Z
open PySem L2
theorem ownAt_set {env : Env} {i m : Nat} {s : Slot} (h : i ≠ m) : ownAt (env.set m s) i = ownAt env i := by
  unfold ownAt
  rw [List.getElem?_set_ne (Ne.symm h)]
theorem freezeAt_set {env : Env} {i m : Nat} {s : Slot} (h : i ≠ m) : freezeAt (env.set m s) i = (freezeAt env i).set m s := by
  unfold freezeAt
  rw [List.getElem?_set_ne (Ne.symm h)]
  cases env[i]? with
  | none => rfl
  | some t =>
    cases t with
    | no => rfl
    | var d => exact List.set_comm _ _ (Ne.symm h)
    | fix d => exact List.set_comm _ _ (Ne.symm h)
    | lock x => exact List.set_comm _ _ (Ne.symm h)
theorem borrows_set {m : Nat} {s : Slot} : ∀ {as : List Arg} {env : Env}, noArg m as = true → borrows (env.set m s) as = borrows env as
  | [], _, _ => rfl
  | .v i :: as, env, h => by
    simp only [noArg, Bool.and_eq_true, decide_eq_true_eq] at h
    simp only [borrows, ownAt_set h.1, borrows_set h.2]
  | .e _ :: as, env, h => by
    simp only [noArg] at h
    simp only [borrows, borrows_set h]
theorem freezes_set {m : Nat} {s : Slot} : ∀ {as : List Arg} {env : Env}, noArg m as = true → freezes (env.set m s) as = (freezes env as).set m s
  | [], _, _ => rfl
  | .v i :: as, env, h => by
    simp only [noArg, Bool.and_eq_true, decide_eq_true_eq] at h
    simp only [freezes, freezeAt_set h.1, freezes_set h.2]
  | .e _ :: as, env, h => by
    simp only [noArg] at h
    simp only [freezes, freezes_set h]
theorem noArg_ne {m i : Nat} : ∀ {as : List Arg}, noArg m as = true → Arg.v i ∈ as → i ≠ m
  | [], _, q => by cases q
  | .v j :: as, h, q => by
    simp only [noArg, Bool.and_eq_true, decide_eq_true_eq] at h
    rcases List.mem_cons.mp q with e | q
    · cases e; exact h.1
    · exact noArg_ne h.2 q
  | .e _ :: as, h, q => by
    simp only [noArg] at h
    rcases List.mem_cons.mp q with e | q
    · cases e
    · exact noArg_ne h q
section
variable {K : PySem.W.Frag} {mg : Str → Option Value} {W : WX} {ph : Nat → V} {Z : Zs} {H : Hp}
theorem freezes_get {m : Nat} {s : Slot} : ∀ {as : List Arg} {env : Env}, noArg m as = true → (freezes env as)[m]? = env[m]?
  | [], _, _ => rfl
  | .v i :: as, env, h => by
    simp only [noArg, Bool.and_eq_true, decide_eq_true_eq] at h
    simp only [freezes]
    rw [freezes_get (s := s) h.2]
    unfold freezeAt
    cases env[i]? with
    | none => rfl
    | some t => cases t <;> first | rfl | exact List.getElem?_set_ne h.1
  | .e _ :: as, env, h => by
    simp only [noArg] at h
    simp only [freezes]
    exact freezes_get (s := s) h
/-- a slot that holds nothing takes a thing; b: it is one that is changed for the caller -/
def slotB (b : Bool) (d : D) : Slot := if b then .fix d else .var d
theorem RE.fill {sg : St} {env : Env} {O Of : List Addr} {m : Nat} {u : V} {d : D} {b : Bool} (h : RE K mg Z H ph sg env O) (e : env[m]? = some .no) (eu : sg[m]? = some (some u)) (r : RD K mg Z H u d Of) (hb : b = true → u = ph m) :
    RE K mg Z H ph sg (env.set m (slotB b d)) (Of ++ O) := by
  obtain ⟨v, O1, Or, ev, r0, pp, _, put⟩ := h.at e
  have h0 : O1 = [] := r0
  subst h0
  rw [ev] at eu
  have ev' : v = some u := Option.some.inj eu
  refine (put Z H (slotB b d) Of (fun a q => q) Kp.refl ?_).perm (List.Perm.append_left Of pp.symm)
  cases b with
  | false => exact ⟨u, ev', r⟩
  | true =>
    have q := hb rfl
    subst q
    exact ⟨ev', r⟩
theorem RE.empty {sg : St} {env : Env} {O : List Addr} {m : Nat} {u : V} {d : D} {b : Bool} (h : RE K mg Z H ph sg env O) (e : env[m]? = some (slotB b d)) (eu : sg[m]? = some (some u)) :
    ∃ Om Or, RD K mg Z H u d Om ∧ O.Perm (Om ++ Or) ∧ RE K mg Z H ph sg (env.set m .no) Or ∧ (b = true → u = ph m) := by
  obtain ⟨v, O1, Or, ev, r0, pp, _, put⟩ := h.at e
  rw [ev] at eu
  have ev' : v = some u := Option.some.inj eu
  have q : RD K mg Z H u d O1 ∧ (b = true → u = ph m) := by
    cases b with
    | false =>
      obtain ⟨w, ew, r⟩ := r0
      rw [ev'] at ew
      cases ew
      exact ⟨r, fun z => by cases z⟩
    | true =>
      obtain ⟨ew, r⟩ := r0
      rw [ev'] at ew
      cases ew
      exact ⟨r, fun _ => rfl⟩
  exact ⟨O1, Or, q.1, pp, by simpa using put Z H .no [] (fun a q => q) Kp.refl rfl, q.2⟩
theorem eOpM_core {as : List Arg} {h : Fn} {sg : St} {H0 : Hp} {Q : VK} {m : Nat} {b : Bool} {env1 : Env} {ds : List D} {os : List (Option D)} {d : D} {Z0 : Zs} {O0 : List Addr} {u : V} {vs : List V} {H1 : Hp} {Z1 : Zs} {O1 Ot : List Addr}
    (hn : noArg m as = true) (eu : sg[m]? = some (some u)) (em : env1[m]? = some (slotB b d)) (e2 : args2 env1 as os = some ds)
    (r1 : RE K mg Z1 H1 ph sg env1 O1) (ra : RAs K mg Z1 H1 sg vs as os Ot) (v1 : Vld Z1 H1 (O1 ++ Ot)) (t1 : Tr Z0 H0 O0 Z1 H1 (O1 ++ Ot)) (hlen : vs.length = as.length)
    (hh : match h (d :: ds) with
      | .ok r fin => ∀ v H' Z' O' Od, RE K mg Z' H' ph sg (settle as (env1.set m (slotB b fin)) (.l [r, fin])) O' → RD K mg Z' H' v r Od → Vld Z' H' (O' ++ Od) → Tr Z0 H0 O0 Z' H' (O' ++ Od) → Q v H'
      | .exc e fin => XcK K mg W ph Z0 H0 O0 sg e (freezes (env1.set m (slotB b fin)) as)
      | .stuck => False) : Sat K mg true (as.length + 1) h (u :: vs) H1 Q (WE W sg) := by
  refine ⟨by simp [hlen], ?_⟩
  obtain ⟨Om, Or, rm, pm, rn, hb⟩ := r1.empty em eu
  have lt : m < env1.length := (List.getElem?_eq_some_iff.mp em).1
  have p1 : (O1 ++ Ot).Perm (Or ++ (Om ++ Ot)) := by
    refine (pm.append_right Ot).trans ?_
    rw [List.append_assoc, ← List.append_assoc Or]
    refine List.Perm.trans ?_ (List.Perm.append_right Ot (List.perm_append_comm (l₁ := Om) (l₂ := Or)))
    rw [List.append_assoc]
  have v1' := v1.perm p1
  have An : At K mg ph Z1 H1 sg (env1.set m .no) Or := ⟨rn, v1'.left⟩
  obtain ⟨Ob, O2, p, rf, nb, hv⟩ := An.freezes (as := as)
  have hz : ∀ a, Z1 a → plusZ Z1 Ob a := fun a q => .inl q
  have rds : RDs K mg (plusZ Z1 Ob) H1 vs ds Ot := RAs.go (as0 := as) (env := env1) (sg := sg) (fun i d u hd hu mm => hv i d u mm (by rw [List.getElem?_set_ne (Ne.symm (noArg_ne hn mm))]; exact hd) hu) (fun a m => m) hz ra e2
  have vall : Vld (plusZ Z1 Ob) H1 (O2 ++ (Om ++ Ot)) := v1'.part (p.append_right _ |>.trans (by rw [List.append_assoc]))
  have vc : Vld (plusZ Z1 Ob) H1 ((Om ++ Ot) ++ O2) := vall.perm List.perm_append_comm
  refine ⟨plusZ Z1 Ob, Om ++ Ot, d :: ds, rds_cons (RD.mono hz rm) rds, vc.left, ?_⟩
  have t1' : Tr Z0 H0 O0 Z1 H1 (Or ++ (Om ++ Ot)) := t1.perm (List.Perm.refl _) p1
  have tz : Tr Z0 H0 O0 (plusZ Z1 Ob) H1 ((Om ++ Ot) ++ O2) := by
    refine ⟨fun a q => .inl (t1'.z1 a q), fun a q => ?_, fun a mm => t1'.o1 a ?_, t1'.kp, t1'.nn, t1'.tb⟩
    · rcases q with q | q
      · exact t1'.z2 a q
      · exact .inr (t1'.o1 a (List.mem_append_left _ (p.mem_iff.mpr (List.mem_append_left _ q))))
    · rcases List.mem_append.mp mm with q | q
      · exact List.mem_append_right _ q
      · exact List.mem_append_left _ (p.mem_iff.mpr (List.mem_append_right _ q))
  have getf : (_root_.Z.freezes (env1.set m .no) as)[m]? = some .no := by
    rw [freezes_get (s := .no) hn, List.getElem?_set_self lt]
  cases e3 : h (d :: ds) with
  | stuck => simp only [e3] at hh
  | exc x fin =>
    simp only [e3] at hh
    intro cls dx Z2 H2 O3 rfin v2 t2 rx
    have rfin : RD K mg Z2 H2 u fin O3 := rds1 rfin
    have rE2 : RE K mg Z2 H2 ph sg (_root_.Z.freezes (env1.set m .no) as) O2 := At.kp rf vc t2
    have vv := vc.step t2 v2
    have rE3 := rE2.fill getf eu rfin hb
    rw [← freezes_set hn, List.set_set] at rE3
    exact hh cls dx H2 Z2 (O3 ++ O2) ⟨rE3, vv⟩ (tz.trans (t2.frame (F := O2))) rx
  | ok r fin =>
    simp only [e3] at hh
    intro v Z2 H2 O3 rr v2 t2
    have rr0 : RDs K mg Z2 H2 [v, u] [r, fin] O3 := rr
    simp only [RDs] at rr0
    obtain ⟨Oa, Ob', rr1, ⟨Of, On, rf1, en, eO2⟩, eO⟩ := rr0
    subst en
    rw [List.append_nil] at eO2
    subst eO2
    subst eO
    have vv := vc.step t2 v2
    have rf2 : RE K mg Z2 H2 ph sg (_root_.Z.freezes (env1.set m .no) as) O2 := At.kp rf vc t2
    have pq : ∀ {X : List Addr}, ((Oa ++ Ob') ++ X).Perm ((Ob' ++ X) ++ Oa) := fun {X} => by
      rw [List.append_assoc]
      exact List.perm_append_comm
    have back : (borrows (env1.set m .no) as = true → cleanD r = true ∧ cleanD fin = true) → RE K mg (fun a => Z2 a ∧ a ∉ Ob) H2 ph sg (env1.set m (slotB b fin)) (Ob' ++ Or) ∧ RD K mg (fun a => Z2 a ∧ a ∉ Ob) H2 v r Oa ∧ Vld (fun a => Z2 a ∧ a ∉ Ob) H2 ((Ob' ++ Or) ++ Oa) ∧ Tr Z0 H0 O0 (fun a => Z2 a ∧ a ∉ Ob) H2 ((Ob' ++ Or) ++ Oa) := fun hc => by
      have nz : ∀ a ∈ Ob, ¬ Z1 a := fun a mm q => v1'.nz a (List.mem_append_left _ (p.mem_iff.mpr (List.mem_append_left _ mm))) q
      have tu : Tr Z1 H1 (Om ++ Ot) (fun a => Z2 a ∧ a ∉ Ob) H2 (Oa ++ Ob') := t2.unplus nz
      have vx : Vld Z1 H1 ((Om ++ Ot) ++ Or) := v1'.perm List.perm_append_comm
      have vr : Vld (fun a => Z2 a ∧ a ∉ Ob) H2 (Oa ++ Ob') := ⟨v2.nd, fun a mm q => v2.nz a mm q.1, fun a q => v2.zs a q.1, v2.mu, v2.tb⟩
      have vfin := vx.step tu vr
      have two : RD K mg (fun a => Z2 a ∧ a ∉ Ob) H2 v r Oa ∧ RD K mg (fun a => Z2 a ∧ a ∉ Ob) H2 u fin Ob' := by
        cases hbb : borrows (env1.set m .no) as with
        | true => exact ⟨rr1.cl (hc hbb).1, rf1.cl (hc hbb).2⟩
        | false =>
          have e0 := nb hbb
          subst e0
          exact ⟨rr1.mono fun a q => ⟨q, fun mm => by cases mm⟩, rf1.mono fun a q => ⟨q, fun mm => by cases mm⟩⟩
      have rn2 : RE K mg (fun a => Z2 a ∧ a ∉ Ob) H2 ph sg (env1.set m .no) Or := At.kp rn vx tu
      have rn3 := rn2.fill (List.getElem?_set_self lt) eu two.2 hb
      rw [List.set_set] at rn3
      refine ⟨rn3, two.1, vfin.perm pq, ?_⟩
      exact (t1'.trans ((tu.frame (F := Or)).perm List.perm_append_comm (List.Perm.refl _))).perm (List.Perm.refl _) pq
    unfold settle at hh
    rw [borrows_set hn] at hh
    rw [borrows_set hn] at back
    cases hbb : borrows env1 as with
    | false =>
      rw [hbb] at hh
      obtain ⟨q1, q2, q3, q4⟩ := back fun z => by rw [hbb] at z; cases z
      exact hh v H2 _ (Ob' ++ Or) Oa q1 q2 q3 q4
    | true =>
      rw [hbb] at hh
      cases hc : cleanD (.l [r, fin]) with
      | true =>
        rw [hc] at hh
        simp only [cleanD, cleanDs, Bool.and_true, Bool.and_eq_true] at hc
        obtain ⟨q1, q2, q3, q4⟩ := back fun _ => hc
        exact hh v H2 _ (Ob' ++ Or) Oa q1 q2 q3 q4
      | false =>
        rw [hc] at hh
        have rE3 := rf2.fill getf eu rf1 hb
        rw [← freezes_set hn, List.set_set] at rE3
        exact hh v H2 Z2 (Ob' ++ O2) Oa rE3 rr1 (vv.perm pq) ((tz.trans (t2.frame (F := O2))).perm (List.Perm.refl _) pq)
theorem eOpM_ok {m : Nat} {as : List Arg} {h : Fn} {sg : St} {H : Hp} {Q : VK} (hr : rE K mg W (eOpM m as h) sg H Q) :
    ∃ u, sg[m]? = some (some u) ∧ rAs K mg W as sg H fun vs H1 => Sat K mg true (as.length + 1) h (u :: vs) H1 Q (WE W sg) := by
  obtain ⟨env, ph, Z, O, A, hh⟩ := hr
  unfold eOpM at hh
  cases hn : noArg m as with
  | false => simp only [hn, Bool.false_and] at hh; exact hh.elim
  | true =>
    cases hs : has env m with
    | false => simp only [hn, hs, Bool.and_false] at hh; exact hh.elim
    | true =>
      obtain ⟨u, eu⟩ := A.has hs
      simp only [hn, hs, Bool.and_self, if_true] at hh
      refine ⟨u, eu, env, ph, Z, O, A, ?_⟩
      cases e1 : args1 as env with
      | stuck => simp only [e1, ER.bind] at hh
      | exc x env' => simp only [e1, ER.bind] at hh; exact hh
      | ok os env1 =>
        simp only [e1, ER.bind] at hh
        intro vs H1 Z1 O1 Ot r1 ra v1 t1
        have hlen := ra.len
        cases e2 : args2 env1 as os with
        | none => simp only [e2] at hh
        | some ds =>
          simp only [e2] at hh
          cases em : env1[m]? with
          | none => simp only [em] at hh
          | some s =>
            simp only [em] at hh
            cases s with
            | no => exact hh.elim
            | lock x => exact hh.elim
            | var d =>
              refine eOpM_core (b := false) hn eu em e2 r1 ra v1 t1 hlen ?_
              cases e3 : h (d :: ds) with
              | ok r fin => simp only [e3] at hh; exact hh
              | exc e fin => simp only [e3] at hh; exact hh
              | stuck => simp only [e3] at hh
            | fix d =>
              refine eOpM_core (b := true) hn eu em e2 r1 ra v1 t1 hlen ?_
              cases e3 : h (d :: ds) with
              | ok r fin => simp only [e3] at hh; exact hh
              | exc e fin => simp only [e3] at hh; exact hh
              | stuck => simp only [e3] at hh
end
end Z
set_option Elab.async false
set_option linter.all false
set_option maxRecDepth 100000
namespace Z
open PySem L2
theorem PEimp {X : Cx} {e : Expr} {t t' : TE} (h : PE X e t) (q : ∀ sg H Q, t' sg H Q → t sg H Q) : PE X e t' := ⟨fun pins s sg H Q I hh => h.run pins s sg H Q I (q sg H Q hh)⟩
theorem PTimp {X : Cx} {e : Expr} {t t' : TT} (h : PT X e t) (q : ∀ sg H Q, t' sg H Q → t sg H Q) : PT X e t' := ⟨fun pins s sg H Q I hh => h.run pins s sg H Q I (q sg H Q hh)⟩
theorem PWimp {X : Cx} {e : Expr} {t t' : TT} (h : PW X e t) (q : ∀ sg H Q, t' sg H Q → t sg H Q) : PW X e t' := ⟨fun wh pins s sg H Q I hh => h.run wh pins s sg H Q I (q sg H Q hh)⟩
theorem PAimp {X : Cx} {es : List Expr} {t t' : TA} (h : PA X es t) (q : ∀ sg H Q, t' sg H Q → t sg H Q) : PA X es t' := ⟨fun pos pins s sg H Q I hh => h.run pos pins s sg H Q I (q sg H Q hh)⟩
theorem PSimp {X : Cx} {st : Stmt} {t t' : TS} (h : PS X st t) (q : ∀ D sg H, t' D sg H → t D sg H) : PS X st t' := ⟨fun pins s sg H D I hh => h.run pins s sg H D I (q D sg H hh)⟩
theorem PSsimp {X : Cx} {st : List Stmt} {t t' : TS} (h : PSs X st t) (q : ∀ D sg H, t' D sg H → t D sg H) : PSs X st t' := ⟨fun pins s sg H D I hh => h.run pins s sg H D I (q D sg H hh)⟩
/-- room for what a comparison goes down -/
structure RU (A : Around) : Prop where
  un : A.units + 200 < cLine
theorem RU.units {A : Around} (r : RU A) : A.units + 64 < cLine := by have := r.un; omega
/-- what a def's body stands in: k calls deep may still be gone -/
structure Cz (X : Cx) (W : WX) (k : Nat) : Prop where
  calm : X.calm = true
  tk : L2N.Takes X W
  hr : Room k X.A
  po : PassesOwn (model X.prog X.w) X.A X.env X.xe
theorem Cz.ru {X : Cx} {W : WX} {k : Nat} (C : Cz X W k) : RU X.A := ⟨by have := C.hr.un; omega⟩
abbrev JE (X : Cx) (W : WX) (e : Expr) (f : EF) : Prop := PE X e (rE X.K X.mg W f)
abbrev JT (X : Cx) (W : WX) (e : Expr) (f : TF) : Prop := PT X e (rT X.K X.mg W f)
abbrev JA (X : Cx) (W : WX) (e : Expr) (a : Arg) : Prop := PE X e (rArg X.K X.mg W a)
abbrev JAs (X : Cx) (W : WX) (es : List Expr) (as : List Arg) : Prop := PA X es (rAs X.K X.mg W as)
section
variable {X : Cx} {W : WX} {pos : Pos} {e : Expr} {es : List Expr} {a : Arg} {as : List Arg} {f : EF}
theorem ja_e (h : JE X W e f) : JA X W e (.e f) := h
theorem ja_v {i : Nat} (h : PE X e (tVar i)) : JA X W e (.v i) := h
theorem jas_nil : JAs X W [] [] := PAimp pa_nil fun sg H Q h => rAs_nil h
theorem jas_cons (ha : JA X W e a) (hr : JAs X W es as) (hs : starEach (e :: es) X.env = (false, eval e X.env) :: starEach es X.env := by rfl) : JAs X W (e :: es) (a :: as) :=
  PAimp (pa_cons ha hr hs) fun sg H Q h => rAs_cons h
theorem rE_c {K : PySem.W.Frag} {mg : Str → Option Value} {x : P} {v : V} (hv : ∀ Z H, RP K mg Z H v x) {sg : St} {H : Hp} {Q : VK} (h : rE K mg W (eC x) sg H Q) : Q v H := by
  obtain ⟨env, ph, Z, O, A, h⟩ := h
  exact h v H Z O [] A.re (rd_p (hv Z H)) (by rw [List.append_nil]; exact A.vl) (by rw [List.append_nil]; exact Tr.refl ..)
theorem je_int {i : Int} {j : Nat} : JE X W (.Constant (.int i) j pos) (eC (.int i)) := PEimp pe_int fun sg H Q h => rE_c (fun _ _ => by simp only [RP]) h
theorem je_bl {b : Bool} {j : Nat} : JE X W (.Constant (.bool b) j pos) (eC (.bl b)) := PEimp pe_bl fun sg H Q h => rE_c (fun _ _ => by simp only [RP]) h
theorem je_non {j : Nat} : JE X W (.Constant .none j pos) (eC .non) := PEimp pe_non fun sg H Q h => rE_c (fun _ _ => by simp only [RP]) h
theorem je_str {x : Str} {j : Nat} : JE X W (.Constant (.str x) j pos) (eC (.str x)) := PEimp pe_str fun sg H Q h => rE_c (fun _ _ => by simp only [RP]) h
/-- a module's name: a value that any state gives -/
theorem je_glob {x : Str} {v : V} {y : P} {u : Value} (hg : Gl X x) (hm : X.mg x = some u) (r : RelV v u) (hv : ∀ Z H, RP X.K X.mg Z H v y) (hd : (x == ("__debug__" : Str)) = false := by decide) : JE X W (.Name x pos) (eC y) :=
  PEimp (pe_glob hg hm r hd) fun sg H Q h => rE_c hv h
theorem rE_v {K : PySem.W.Frag} {mg : Str → Option Value} {i : Nat} {sg : St} {H : Hp} {Q : VK} (h : rE K mg W (eV i) sg H Q) : tVar i sg H Q := by
  obtain ⟨env, ph, Z, O, A, h⟩ := h
  unfold eV at h
  cases e : env[i]? with
  | none => simp only [e] at h
  | some s =>
    simp only [e] at h
    obtain ⟨v, O1, Or, ev, r, pp, put, _⟩ := A.re.at e
    have plain : ∀ {x : P} {u : V}, v = some u → RP K mg Z H u x → (∀ v H' Z' O' Od, RE K mg Z' H' ph sg env O' → RD K mg Z' H' v (.p x) Od → Vld Z' H' (O' ++ Od) → Tr Z H O Z' H' (O' ++ Od) → Q v H') → tVar i sg H Q := fun {x u} eu ru hq =>
      ⟨u, by rw [ev, eu], hq u H Z O [] A.re (rd_p ru) (by rw [List.append_nil]; exact A.vl) (by rw [List.append_nil]; exact Tr.refl ..)⟩
    have frz : ∀ {d : D} {u : V} {env' : Env}, freezeAt env i = env' → slotD s = some d → v = some u → (∀ v H' Z' O' Od, RE K mg Z' H' ph sg env' O' → RD K mg Z' H' v (.p (vw d)) Od → Vld Z' H' (O' ++ Od) → Tr Z H O Z' H' (O' ++ Od) → Q v H') → tVar i sg H Q := fun {d u env'} ef ed eu hq => by
      subst ef
      obtain ⟨Ob, O2, p, rf, _, hv⟩ := A.freeze i
      have vp := A.vl.part p
      refine ⟨u, by rw [ev, eu], hq u H _ O2 [] rf (rd_p (hv d u (by rw [e]; exact ed) (by rw [ev, eu]))) (by rw [List.append_nil]; exact vp) ?_⟩
      rw [List.append_nil]
      exact ⟨fun a q => .inl q, fun a q => q.elim .inl fun m => .inr (.inl (p.mem_iff.mpr (List.mem_append_left _ m))), fun a m => .inl (p.mem_iff.mpr (List.mem_append_right _ m)), fun _ _ q _ _ => q, fun _ q => q, fun q => q⟩
    cases s with
    | no => exact h.elim
    | lock x =>
      obtain ⟨_, u, eu, ru⟩ := r
      exact frz (by unfold freezeAt; rw [e]) rfl eu h
    | fix d =>
      cases d with
      | p x => exact plain r.1 (of_rd_p r.2).2 h
      | l _ => exact h.elim
      | d _ _ => exact h.elim
      | s _ => exact h.elim
      | i _ _ _ => exact h.elim
    | var d =>
      obtain ⟨u, eu, ru⟩ := r
      cases d with
      | p x => exact plain eu (of_rd_p ru).2 h
      | l _ => exact frz (by unfold freezeAt; rw [e]) rfl eu h
      | d _ _ => exact frz (by unfold freezeAt; rw [e]) rfl eu h
      | s _ => exact frz (by unfold freezeAt; rw [e]) rfl eu h
      | i _ _ _ => exact frz (by unfold freezeAt; rw [e]) rfl eu h
theorem je_v {i : Nat} (h : PE X e (tVar i)) : JE X W e (eV i) := PEimp h fun sg H Q q => rE_v q
theorem rE_m {K : PySem.W.Frag} {mg : Str → Option Value} {i : Nat} {sg : St} {H : Hp} {Q : VK} (h : rE K mg W (eM i) sg H Q) : tVar i sg H Q := by
  obtain ⟨env, ph, Z, O, A, h⟩ := h
  unfold eM at h
  cases e : env[i]? with
  | none => simp only [e] at h
  | some s =>
    simp only [e] at h
    obtain ⟨v, O1, Or, ev, r, pp, _, put⟩ := A.re.at e
    cases s with
    | no => exact h.elim
    | lock x => exact h.elim
    | fix d => exact h.elim
    | var d =>
      obtain ⟨u, eu, ru⟩ := r
      have r2 := put Z H .no [] (fun a q => q) Kp.refl rfl
      refine ⟨u, by rw [ev, eu], h u H Z Or O1 (by simpa using r2) ru (A.vl.perm (pp.trans List.perm_append_comm)) ?_⟩
      exact (Tr.refl Z H O).perm (List.Perm.refl _) (pp.trans List.perm_append_comm)
theorem je_m {i : Nat} (h : PE X e (tVar i)) : JE X W e (eM i) := PEimp h fun sg H Q q => rE_m q
/-- a built-in's trees in, a tree out, over a value-level operation -/
def OpZ (X : Cx) (f : Value → Value → Sem Value) (h : Fn) : Prop := OpR X f fun x y H Q => ∃ E, Sat X.K X.mg false 2 h [x, y] H Q E
def UnZ (X : Cx) (f : Value → Sem Value) (h : Fn) : Prop := UnR X f fun x H Q => ∃ E, Sat X.K X.mg false 1 h [x] H Q E
def CallZ (X : Cx) (f : Value) (n : Nat) (h : Fn) : Prop := CallR X f fun xs H Q => ∃ E, Sat X.K X.mg false n h xs H Q E
theorem rE_op2 {K : PySem.W.Frag} {mg : Str → Option Value} {a b : Arg} {h : Fn} {sg : St} {H : Hp} {Q : VK} (q : rE K mg W (eOp [a, b] h) sg H Q) :
    tOp (fun x y H Q => ∃ E, Sat K mg false 2 h [x, y] H Q E) (rArg K mg W a) (rArg K mg W b) sg H Q := by
  have q1 := rAs_cons (eOp_ok q)
  show rArg K mg W a sg H fun x H1 => rArg K mg W b sg H1 fun y H2 => ∃ E, Sat K mg false 2 h [x, y] H2 Q E
  have mono : ∀ {a : Arg} {H : Hp} {Q Q' : VK}, (∀ v H', Q v H' → Q' v H') → rArg K mg W a sg H Q → rArg K mg W a sg H Q' := fun {a H Q Q'} hq z => by
    cases a with
    | v i => obtain ⟨v, e, z⟩ := z; exact ⟨v, e, hq _ _ z⟩
    | e f =>
      obtain ⟨env, ph, Z, O, A, z⟩ := z
      refine ⟨env, ph, Z, O, A, ?_⟩
      cases e1 : f env with
      | ok d env' => rw [e1] at z; exact fun v H' Z' O' Od r1 r2 r3 r4 => hq _ _ (z v H' Z' O' Od r1 r2 r3 r4)
      | exc x env' => rw [e1] at z; exact z
      | stuck => rw [e1] at z; exact z
  exact mono (fun x H1 z => mono (fun y H2 z2 => by have z3 := rAs_nil z2; exact ⟨_, z3⟩) (rAs_cons z)) q1
theorem rArg_mono {K : PySem.W.Frag} {mg : Str → Option Value} {sg : St} : ∀ {a : Arg} {H : Hp} {Q Q' : VK}, (∀ v H', Q v H' → Q' v H') → rArg K mg W a sg H Q → rArg K mg W a sg H Q' := fun {a H Q Q'} hq z => by
    cases a with
    | v i => obtain ⟨v, e, z⟩ := z; exact ⟨v, e, hq _ _ z⟩
    | e f =>
      obtain ⟨env, ph, Z, O, A, z⟩ := z
      refine ⟨env, ph, Z, O, A, ?_⟩
      cases e1 : f env with
      | ok d env' => rw [e1] at z; exact fun v H' Z' O' Od r1 r2 r3 r4 => hq _ _ (z v H' Z' O' Od r1 r2 r3 r4)
      | exc x env' => rw [e1] at z; exact z
      | stuck => rw [e1] at z; exact z
theorem rE_op1 {K : PySem.W.Frag} {mg : Str → Option Value} {a : Arg} {h : Fn} {sg : St} {H : Hp} {Q : VK} (q : rE K mg W (eOp [a] h) sg H Q) :
    rArg K mg W a sg H fun x H1 => Sat K mg false 1 h [x] H1 Q (WE W sg) :=
  rArg_mono (fun x H1 z => by have z3 := rAs_nil z; exact z3) (rAs_cons (eOp_ok q))
theorem je_bin {l r : Expr} {op : Operator} {a b : Arg} {h : Fn} (ho : OpZ X (binaryOp op) h) (ha : JA X W l a) (hb : JA X W r b) : JE X W (.BinOp l op r pos) (eOp [a, b] h) :=
  PEimp (pe_op ho ha hb) fun sg H Q q => rE_op2 q
theorem je_cmp {l r : Expr} {op : CmpOp} {a b : Arg} {h : Fn} (ho : OpZ X (compareOp op) h) (ha : JA X W l a) (hb : JA X W r b) (hm : behindInMarks op r = false) : JE X W (.Compare l [op] [r] pos) (eOp [a, b] h) :=
  PEimp (pe_cmpR ho ha hb hm) fun sg H Q q => rE_op2 q
theorem je_un {op : UnaryOp} {a : Arg} {h : Fn} (ho : UnZ X (unaryOp op) h) (ha : JA X W e a) : JE X W (.UnaryOp op e pos) (eOp [a] h) :=
  PEimp (pe_un ho ha) fun sg H Q q => rArg_mono (fun x H1 z => ⟨_, z⟩) (rE_op1 q)
theorem rE_tru {K : PySem.W.Frag} {mg : Str → Option Value} {f : EF} {sg : St} {H : Hp} {Q : Bool → Hp → Prop} (hq : rT K mg W (tE f) sg H Q) :
    rE K mg W f sg H fun v H' => ∃ b d Z O, RD K mg Z H' v d O ∧ truth d = some b ∧ Q b H' := by
  obtain ⟨env, ph, Z, O, A, h⟩ := hq
  refine ⟨env, ph, Z, O, A, ?_⟩
  unfold tE at h
  cases e1 : f env with
  | stuck => simp only [e1, ER.bind] at h
  | exc x env' => simp only [e1, ER.bind] at h; exact h
  | ok d env' =>
    simp only [e1, ER.bind] at h
    intro v H' Z' O' Od r1 r2 r3 r4
    cases et : truth d with
    | none => simp only [et] at h
    | some b =>
      simp only [et] at h
      exact ⟨b, d, Z', Od, r2, et, h H' Z' O' ⟨r1, r3.left⟩ (r4.less fun a m => List.mem_append_left _ m)⟩
/-- a comparison as a test -/
theorem jt_cmp {l r : Expr} {op : CmpOp} {a b : Arg} {h : Fn} (ho : OpZ X (compareOp op) h) (ha : JA X W l a) (hb : JA X W r b) (hm : behindInMarks op r = false) (hbl : ∀ ds r' fin, h ds = .ok r' fin → ∃ c, r' = .p (.bl c)) :
    JT X W (.Compare l [op] [r] pos) (tE (eOp [a, b] h)) := by
  refine PTimp (pt_cmpR ho ha hb hm) fun sg H Q hq => ?_
  obtain ⟨env, ph, Z, O, A, q⟩ := hq
  show tOp _ _ _ sg H fun x H' => ∃ k, x = .bl k ∧ Q k H'
  refine rE_op2 (W := W) ⟨env, ph, Z, O, A, ?_⟩
  unfold tE at q
  cases e1 : eOp [a, b] h env with
  | stuck => simp only [e1, ER.bind] at q
  | exc x env' => simp only [e1, ER.bind] at q; exact q
  | ok d env' =>
    simp only [e1, ER.bind] at q
    intro v H' Z' O' Od r1 r2 r3 r4
    have hd : ∃ c, d = .p (.bl c) := by
      unfold eOp at e1
      cases e2 : args1 [a, b] env with
      | stuck => simp only [e2, ER.bind] at e1; cases e1
      | exc x env' => simp only [e2, ER.bind] at e1; cases e1
      | ok os env2 =>
        simp only [e2, ER.bind] at e1
        cases e3 : args2 env2 [a, b] os with
        | none => simp only [e3] at e1; cases e1
        | some ds =>
          simp only [e3] at e1
          cases e4 : h ds with
          | stuck => simp only [e4] at e1; cases e1
          | exc x fin => simp only [e4] at e1; cases e1
          | ok r' fin =>
            simp only [e4] at e1
            obtain ⟨c, ec⟩ := hbl _ _ _ e4
            cases e1
            exact ⟨c, ec⟩
    obtain ⟨c, ec⟩ := hd
    subst ec
    simp only [truth] at q
    have rv := (of_rd_p r2).2
    simp only [RP] at rv
    exact ⟨c, rv, q H' Z' O' ⟨r1, r3.left⟩ (r4.less fun a m => List.mem_append_left _ m)⟩
end
end Z
set_option Elab.async false
set_option linter.all false
set_option maxRecDepth 100000
namespace Z
open PySem L2
section
variable {K : PySem.W.Frag} {mg : Str → Option Value} {W : WX} {ph : Nat → V} {Z : Zs} {H : Hp}
theorem tru_of {d : D} {v : V} {O : List Addr} {b : Bool} (r : RD K mg Z H v d O) (e : truth d = some b) : TruV K v H b := by
  cases d with
  | p x =>
    have r := (of_rd_p r).2
    cases x with
    | non => simp only [RP] at r; subst r; cases e; rfl
    | bl c => simp only [RP] at r; subst r; cases e; rfl
    | int i =>
      simp only [RP] at r; subst r; cases e
      show decide (i ≠ 0) = (i != 0)
      by_cases h : i = 0 <;> simp [h]
    | str s =>
      simp only [RP] at r; subst r
      simp only [truth] at e
      split at e
      · rename_i hl
        cases e
        refine ⟨by rw [sizeLine_eq]; exact hl, ?_⟩
        by_cases h : s.length = 0
        · simp [h]
        · have h2 : ¬ (s.length : Int) = 0 := by omega
          simp [h, h2]
      · cases e
    | tup xs =>
      simp only [RP] at r
      obtain ⟨a, us, ev, s, rs⟩ := r
      subst ev; cases e
      refine .inr (.inl ⟨us, s.1, ?_⟩)
      have l := rs.length
      cases us <;> cases xs <;> first | rfl | cases l
    | lst xs =>
      simp only [RP] at r
      obtain ⟨a, us, ev, _, s, rs⟩ := r
      subst ev; cases e
      refine .inl ⟨us, .inl (.inl s), ?_⟩
      have l := rs.length
      cases us <;> cases xs <;> first | rfl | cases l
    | dct _ _ => cases e
    | set _ => cases e
    | ins _ _ _ => cases e
    | exc _ _ _ => cases e
    | ty _ => cases e
    | cls _ => cases e
    | fn _ => cases e
    | thk _ _ _ _ _ => cases e
    | wt _ => cases e
    | scr _ => cases e
  | l xs =>
    simp only [RD] at r
    obtain ⟨a, us, O', ev, s, rs, _⟩ := r
    subst ev; cases e
    refine .inl ⟨us, .inl (.inl s), ?_⟩
    have l := rs.length
    cases us <;> cases xs <;> first | rfl | cases l
  | d _ _ => cases e
  | s _ => cases e
  | i _ _ _ => cases e
theorem rE_mono {f : EF} {sg : St} {H : Hp} {Q Q' : VK} (hq : ∀ v H', Q v H' → Q' v H') (z : rE K mg W f sg H Q) : rE K mg W f sg H Q' := rArg_mono (a := .e f) hq z
theorem rT_mono {t : TF} {sg : St} {H : Hp} {Q Q' : Bool → Hp → Prop} (hq : ∀ v H', Q v H' → Q' v H') (z : rT K mg W t sg H Q) : rT K mg W t sg H Q' := by
  obtain ⟨env, ph, Z, O, A, z⟩ := z
  refine ⟨env, ph, Z, O, A, ?_⟩
  cases e1 : t env with
  | ok d env' => rw [e1] at z; exact fun H' Z' O' r1 r2 => hq _ _ (z H' Z' O' r1 r2)
  | exc x env' => rw [e1] at z; exact z
  | stuck => rw [e1] at z; exact z
/-- a test, then another thing -/
theorem rT_bind {t u : TF} {g : Bool → TF} (hu : ∀ env, u env = (t env).bind fun c env => g c env) {sg : St} {H : Hp} {Q : Bool → Hp → Prop} (h : rT K mg W u sg H Q) : rT K mg W t sg H fun c H1 => rT K mg W (g c) sg H1 Q := by
  obtain ⟨env, ph, Z, O, A, h⟩ := h
  refine ⟨env, ph, Z, O, A, ?_⟩
  rw [hu] at h
  cases e : t env with
  | stuck => rw [e] at h; exact h
  | exc x env' => rw [e] at h; exact h
  | ok c env' =>
    rw [e] at h
    intro H' Z' O' A' t'
    refine ⟨env', ph, Z', O', A', ?_⟩
    simp only [ER.bind] at h
    cases e2 : g c env' with
    | stuck => rw [e2] at h; exact h
    | exc x env2 => rw [e2] at h; exact fun cls dx H2 Z2 O2 A2 t2 rx => h cls dx H2 Z2 O2 A2 (t'.trans t2) rx
    | ok b env2 => rw [e2] at h; exact fun H2 Z2 O2 A2 t2 => h H2 Z2 O2 A2 (t'.trans t2)
theorem rT_ok {b : Bool} {sg : St} {H : Hp} {Q : Bool → Hp → Prop} (h : rT K mg W (fun env => .ok b env) sg H Q) : Q b H := by
  obtain ⟨env, ph, Z, O, A, h⟩ := h
  exact h H Z O A (Tr.refl ..)
/-- a test, then an expression -/
theorem rTE_bind {t : TF} {u : EF} {g : Bool → EF} (hu : ∀ env, u env = (t env).bind fun c env => g c env) {sg : St} {H : Hp} {Q : VK} (h : rE K mg W u sg H Q) : rT K mg W t sg H fun c H1 => rE K mg W (g c) sg H1 Q := by
  obtain ⟨env, ph, Z, O, A, h⟩ := h
  refine ⟨env, ph, Z, O, A, ?_⟩
  rw [hu] at h
  cases e : t env with
  | stuck => rw [e] at h; exact h
  | exc x env' => rw [e] at h; exact h
  | ok c env' =>
    rw [e] at h
    intro H' Z' O' A' t'
    refine ⟨env', ph, Z', O', A', ?_⟩
    simp only [ER.bind] at h
    cases e2 : g c env' with
    | stuck => rw [e2] at h; exact h
    | exc x env2 => rw [e2] at h; exact fun cls dx H2 Z2 O2 A2 t2 rx => h cls dx H2 Z2 O2 A2 (t'.trans t2) rx
    | ok b env2 => rw [e2] at h; exact fun v H2 Z2 O2 Od r1 r2 r3 t2 => h v H2 Z2 O2 Od r1 r2 r3 (t'.trans t2)
/-- an expression that gives a bool, then another one -/
theorem rEb_bind {f u : EF} {g : Bool → EF} (hu : ∀ env, u env = (f env).bind fun d env => match boolOf d with
    | some c => g c env
    | none => .stuck) {sg : St} {H : Hp} {Q : VK} (h : rE K mg W u sg H Q) : rE K mg W f sg H fun v H1 => ∃ c, v = .bl c ∧ rE K mg W (g c) sg H1 Q := by
  obtain ⟨env, ph, Z, O, A, h⟩ := h
  refine ⟨env, ph, Z, O, A, ?_⟩
  rw [hu] at h
  cases e : f env with
  | stuck => rw [e] at h; exact h
  | exc x env' => rw [e] at h; exact h
  | ok d env' =>
    rw [e] at h
    intro v H' Z' O' Od r1 r2 r3 r4
    simp only [ER.bind] at h
    cases d with
    | l _ => exact h.elim
    | d _ _ => exact h.elim
    | s _ => exact h.elim
    | i _ _ _ => exact h.elim
    | p x =>
      cases x with
      | bl c =>
        have rv := (of_rd_p r2).2
        simp only [RP] at rv
        simp only [boolOf] at h
        refine ⟨c, rv, env', ph, Z', O', ⟨r1, r3.left⟩, ?_⟩
        have t' := r4.less (O2 := O') fun a m => List.mem_append_left _ m
        cases e2 : g c env' with
        | stuck => rw [e2] at h; exact h
        | exc x env2 => rw [e2] at h; exact fun cls dx H2 Z2 O2 A2 t2 rx => h cls dx H2 Z2 O2 A2 (t'.trans t2) rx
        | ok b env2 => rw [e2] at h; exact fun v H2 Z2 O2 Od r1 r2 r3 t2 => h v H2 Z2 O2 Od r1 r2 r3 (t'.trans t2)
      | _ => exact h.elim
end
section
variable {X : Cx} {W : WX} {pos : Pos} {e : Expr} {f : EF} {t u : TF} {a b : Expr} {rest : List Expr}
abbrev JW (X : Cx) (W : WX) (e : Expr) (f : TF) : Prop := PW X e (rT X.K X.mg W f)
theorem jt_val (h : JE X W e f) (he : ∀ whole, isTrue e X.env whole = (do let v ← whole; standAt e.pos; holding [v] (truthy v)) := by intro _; rfl) : JT X W e (tE f) := by
  refine ⟨fun pins s sg H Q I hh => ?_⟩
  have h2 := rE_tru hh
  refine PyProof.Rows.isTrue_plain (thn (h.run pins s sg H _ I h2) fun v s1 ⟨x, H1, I1, r1, q1⟩ => ?_) (he _)
  obtain ⟨b, d, Z, O, rd, et, q⟩ := q1
  exact tru_ok pins s1 sg H1 x v Q I1 r1 ⟨b, tru_of rd et, q⟩
theorem jt_not (h : JT X W a t) : JT X W (.UnaryOp .Not a pos) (tNot t) :=
  PTimp (pt_not h) fun sg H Q hq => rT_mono (fun c H1 z => rT_ok z) (rT_bind (g := fun c env => .ok (!c) env) (fun env => rfl) hq)
theorem jw_and1 (h : JT X W a t) : JW X W (.BoolOp .And [a] pos) t := pw_and1 h
theorem jw_or1 (h : JT X W a t) : JW X W (.BoolOp .Or [a] pos) t := pw_or1 h
theorem jw_and (h : JT X W a t) (h2 : JW X W (.BoolOp .And (b :: rest) pos) u) : JW X W (.BoolOp .And (a :: b :: rest) pos) (tAnd t u) :=
  PWimp (pw_and h h2) fun sg H Q hq => rT_mono (fun c H1 z => by
    cases c with
    | true => exact z
    | false => exact rT_ok z) (rT_bind (g := fun c env => if c then u env else .ok false env) (fun env => rfl) hq)
theorem jw_or (h : JT X W a t) (h2 : JW X W (.BoolOp .Or (b :: rest) pos) u) : JW X W (.BoolOp .Or (a :: b :: rest) pos) (tOr t u) :=
  PWimp (pw_or h h2) fun sg H Q hq => rT_mono (fun c H1 z => by
    cases c with
    | false => exact z
    | true => exact rT_ok z) (rT_bind (g := fun c env => if c then .ok true env else u env) (fun env => rfl) hq)
theorem jt_w (h : JW X W e t) : JT X W e t := h.pt
theorem je_if {f g : EF} (h : JT X W e t) (h1 : JE X W a f) (h2 : JE X W b g) : JE X W (.IfExp e a b pos) (eIf t f g) :=
  PEimp (pe_ifExp h h1 h2) fun sg H Q hq => rT_mono (fun c H1 z => by cases c <;> exact z) (rTE_bind (g := fun c env => if c then f env else g env) (fun env => rfl) hq)
theorem je_one {op : BoolOp} (h : JE X W a f) : JE X W (.BoolOp op [a] pos) f := pe_one h
theorem je_and {g : EF} (h : JE X W a f) (h2 : JE X W (.BoolOp .And (b :: rest) pos) g) : JE X W (.BoolOp .And (a :: b :: rest) pos) (eAnd f g) :=
  PEimp (pe_and h h2) fun sg H Q hq => rE_mono (fun v H1 ⟨c, ev, z⟩ => ⟨c, ev, by
    cases c with
    | true => exact z
    | false => exact rE_c (x := .bl false) (fun _ _ => by simp only [RP]) z⟩) (rEb_bind (g := fun c env => if c then g env else .ok (.p (.bl false)) env) (fun env => rfl) hq)
theorem je_or {g : EF} (h : JE X W a f) (h2 : JE X W (.BoolOp .Or (b :: rest) pos) g) : JE X W (.BoolOp .Or (a :: b :: rest) pos) (eOr f g) :=
  PEimp (pe_or h h2) fun sg H Q hq => rE_mono (fun v H1 ⟨c, ev, z⟩ => ⟨c, ev, by
    cases c with
    | false => exact z
    | true => exact rE_c (x := .bl true) (fun _ _ => by simp only [RP]) z⟩) (rEb_bind (g := fun c env => if c then .ok (.p (.bl true)) env else g env) (fun env => rfl) hq)
end
section
variable (K : PySem.W.Frag) (mg : Str → Option Value) (W : WX)
def XcS (ph : Nat → V) (Z : Zs) (H : Hp) (O : List Addr) (e : Ex) (env' : Env) : Prop :=
  ∀ sg' cls dx H' Z' O', At K mg ph Z' H' sg' env' O' → Tr Z H O Z' H' O' → RX K mg Z' H' cls dx e → W cls dx sg' H'
def Fin (D : Ends) (ph : Nat → V) (Z : Zs) (H : Hp) (O : List Addr) : SR → Prop
  | .nx env' => ∀ sg' H' Z' O', At K mg ph Z' H' sg' env' O' → Tr Z H O Z' H' O' → D.nx sg' H'
  | .br env' => ∀ sg' H' Z' O', At K mg ph Z' H' sg' env' O' → Tr Z H O Z' H' O' → D.bk sg' H'
  | .ct env' => ∀ sg' H' Z' O', At K mg ph Z' H' sg' env' O' → Tr Z H O Z' H' O' → D.ct sg' H'
  | .rt d env' => ∀ v sg' H' Z' O' Od, RE K mg Z' H' ph sg' env' O' → RD K mg Z' H' v d Od → Vld Z' H' (O' ++ Od) → Tr Z H O Z' H' (O' ++ Od) → D.rt v H'
  | .exc e env' => XcS K mg W ph Z H O e env'
  | .stuck => False
def rS (s : SF) : TS := fun D sg H => ∃ env ph Z O, At K mg ph Z H sg env O ∧ Fin K mg W D ph Z H O (s env)
end
section
variable {K : PySem.W.Frag} {mg : Str → Option Value} {W : WX} {ph : Nat → V} {Z Z' : Zs} {H H' : Hp} {O O' : List Addr} {N N' : Ends}
theorem Fin.trans {r : SR} (t : Tr Z H O Z' H' O') (h : Fin K mg W N ph Z H O r) : Fin K mg W N ph Z' H' O' r := by
  cases r with
  | nx env => exact fun sg2 H2 Z2 O2 A2 t2 => h sg2 H2 Z2 O2 A2 (t.trans t2)
  | br env => exact fun sg2 H2 Z2 O2 A2 t2 => h sg2 H2 Z2 O2 A2 (t.trans t2)
  | ct env => exact fun sg2 H2 Z2 O2 A2 t2 => h sg2 H2 Z2 O2 A2 (t.trans t2)
  | rt d env => exact fun v sg2 H2 Z2 O2 Od r1 r2 r3 t2 => h v sg2 H2 Z2 O2 Od r1 r2 r3 (t.trans t2)
  | exc e env => exact fun sg2 cls dx H2 Z2 O2 A2 t2 rx => h sg2 cls dx H2 Z2 O2 A2 (t.trans t2) rx
  | stuck => exact h
theorem Fin.xc {e : Ex} {env : Env} {sg : St} (h : XcS K mg W ph Z H O e env) : XcK K mg W ph Z H O sg e env := fun cls dx H2 Z2 O2 A2 t2 rx => h sg cls dx H2 Z2 O2 A2 t2 rx
theorem Vld.sub {A B C : List Addr} (v : Vld Z H A) (p : A.Perm (B ++ C)) : Vld Z H B := (v.perm p).left
/-- an expression, then a statement -/
theorem rSE {f : EF} {k : D → Env → SR} {s : SF} (hs : ∀ env, s env = bindE (f env) k) {sg : St} (h : rS K mg W s N sg H) {R : VK}
    (hk : ∀ ph (Z0 : Zs) (H0 : Hp) (O0 : List Addr) d env' v H' Z' O' Od, Fin K mg W N ph Z0 H0 O0 (k d env') → RE K mg Z' H' ph sg env' O' → RD K mg Z' H' v d Od → Vld Z' H' (O' ++ Od) → Tr Z0 H0 O0 Z' H' (O' ++ Od) → R v H') :
    rE K mg W f sg H R := by
  obtain ⟨env, ph, Z, O, A, h⟩ := h
  refine ⟨env, ph, Z, O, A, ?_⟩
  rw [hs] at h
  cases e : f env with
  | stuck => rw [e] at h; exact h
  | exc x env' => rw [e] at h; exact Fin.xc h
  | ok d env' =>
    rw [e] at h
    exact fun v H' Z' O' Od r1 r2 r3 r4 => hk ph Z H O d env' v H' Z' O' Od h r1 r2 r3 r4
theorem rST {t : TF} {k : Bool → SF} {s : SF} (hs : ∀ env, s env = (match t env with
    | .ok c env => k c env
    | .exc e env => .exc e env
    | .stuck => .stuck)) {sg : St} (h : rS K mg W s N sg H) : rT K mg W t sg H fun c H1 => rS K mg W (k c) N sg H1 := by
  obtain ⟨env, ph, Z, O, A, h⟩ := h
  refine ⟨env, ph, Z, O, A, ?_⟩
  rw [hs] at h
  cases e : t env with
  | stuck => rw [e] at h; exact h
  | exc x env' => rw [e] at h; exact Fin.xc h
  | ok c env' =>
    rw [e] at h
    exact fun H' Z' O' A' t' => ⟨env', ph, Z', O', A', Fin.trans t' h⟩
/-- a slot is stored -/
theorem RE.store {sg : St} {env env' : Env} {i : Nat} {v : V} {d : D} {Od : List Addr} (h : RE K mg Z H ph sg env O) (vl : Vld Z H (O ++ Od)) (e : setV env i d = some env') (r : RD K mg Z H v d Od) :
    ∃ O2 Or, RE K mg Z H ph (sg.set i (some v)) env' (Od ++ O2) ∧ O.Perm (Or ++ O2) := by
  unfold setV at e
  cases es : env[i]? with
  | none => rw [es] at e; cases e
  | some s =>
    rw [es] at e
    obtain ⟨w, O1, O2, ew, rw_, pp, put, _⟩ := h.at es
    cases s with
    | fix _ => cases e
    | lock _ => cases e
    | no =>
      cases e
      exact ⟨O2, O1, put Z H (some v) (.var d) Od (fun a q => q) Kp.refl ⟨v, rfl, r⟩, pp⟩
    | var d0 =>
      cases e
      exact ⟨O2, O1, put Z H (some v) (.var d) Od (fun a q => q) Kp.refl ⟨v, rfl, r⟩, pp⟩
theorem At.store {sg : St} {env env' : Env} {i : Nat} {v : V} {d : D} {Od : List Addr} {Z0 : Zs} {H0 : Hp} {O0 : List Addr} (h : RE K mg Z H ph sg env O) (vl : Vld Z H (O ++ Od)) (t : Tr Z0 H0 O0 Z H (O ++ Od)) (e : setV env i d = some env') (r : RD K mg Z H v d Od) :
    ∃ O', At K mg ph Z H (sg.set i (some v)) env' O' ∧ Tr Z0 H0 O0 Z H O' ∧ ∀ a ∈ O', a ∈ O ++ Od := by
  obtain ⟨O2, Or, r2, p⟩ := h.store vl e r
  have q : (O ++ Od).Perm ((Od ++ O2) ++ Or) := by
    refine (p.append_right Od).trans ?_
    rw [List.append_assoc]
    refine List.perm_append_comm.trans ?_
    rw [List.append_assoc]
    have := List.perm_append_comm (l₁ := O2) (l₂ := Od)
    rw [← List.append_assoc]
    exact (List.Perm.append_right Or this)
  exact ⟨Od ++ O2, ⟨r2, vl.sub q⟩, t.less fun a m => q.mem_iff.mpr (List.mem_append_left _ m), fun a m => q.mem_iff.mpr (List.mem_append_left _ m)⟩
end
end Z
set_option Elab.async false
set_option linter.all false
set_option maxRecDepth 100000
namespace Z
open PySem L2
abbrev JS (X : Cx) (W : WX) (st : Stmt) (s : SF) : Prop := PS X st (rS X.K X.mg W s)
abbrev JSs (X : Cx) (W : WX) (st : List Stmt) (s : SF) : Prop := PSs X st (rS X.K X.mg W s)
section
variable {K : PySem.W.Frag} {mg : Str → Option Value} {W : WX} {ph : Nat → V} {Z Z' : Zs} {H H' : Hp} {O O' : List Addr} {N N' : Ends}
theorem Fin.imp {r : SR} (h : Fin K mg W N ph Z H O r) (h1 : ∀ sg H, N.nx sg H → N'.nx sg H) (h2 : ∀ sg H, N.bk sg H → N'.bk sg H) (h3 : ∀ sg H, N.ct sg H → N'.ct sg H) (h4 : ∀ v H, N.rt v H → N'.rt v H) : Fin K mg W N' ph Z H O r := by
  cases r with
  | nx env => exact fun sg2 H2 Z2 O2 A2 t2 => h1 _ _ (h sg2 H2 Z2 O2 A2 t2)
  | br env => exact fun sg2 H2 Z2 O2 A2 t2 => h2 _ _ (h sg2 H2 Z2 O2 A2 t2)
  | ct env => exact fun sg2 H2 Z2 O2 A2 t2 => h3 _ _ (h sg2 H2 Z2 O2 A2 t2)
  | rt d env => exact fun v sg2 H2 Z2 O2 Od r1 r2 r3 t2 => h4 _ _ (h v sg2 H2 Z2 O2 Od r1 r2 r3 t2)
  | exc e env => exact h
  | stuck => exact h
theorem rS_seq {a b : SF} {sg : St} (h : rS K mg W (sSeq a b) N sg H) : rS K mg W a { N with nx := rS K mg W b N } sg H := by
  obtain ⟨env, ph, Z, O, A, h⟩ := h
  refine ⟨env, ph, Z, O, A, ?_⟩
  unfold sSeq at h
  cases e : a env with
  | nx env1 =>
    rw [e] at h
    exact fun sg2 H2 Z2 O2 A2 t2 => ⟨env1, ph, Z2, O2, A2, Fin.trans t2 h⟩
  | br env1 => rw [e] at h; exact h
  | ct env1 => rw [e] at h; exact h
  | rt d env1 => rw [e] at h; exact h
  | exc x env1 => rw [e] at h; exact h
  | stuck => rw [e] at h; exact h
theorem rS_nx {sg : St} (h : rS K mg W sNx N sg H) : N.nx sg H := by
  obtain ⟨env, ph, Z, O, A, h⟩ := h
  exact h sg H Z O A (Tr.refl ..)
theorem rS_br {sg : St} (h : rS K mg W sBr N sg H) : N.bk sg H := by
  obtain ⟨env, ph, Z, O, A, h⟩ := h
  exact h sg H Z O A (Tr.refl ..)
theorem rS_ct {sg : St} (h : rS K mg W sCt N sg H) : N.ct sg H := by
  obtain ⟨env, ph, Z, O, A, h⟩ := h
  exact h sg H Z O A (Tr.refl ..)
theorem rS_retN {sg : St} (h : rS K mg W sRetN N sg H) : N.rt .non H := by
  obtain ⟨env, ph, Z, O, A, h⟩ := h
  exact h .non sg H Z O [] A.re (rd_p (by simp only [RP])) (by rw [List.append_nil]; exact A.vl) (by rw [List.append_nil]; exact Tr.refl ..)
theorem rS_ret {f : EF} {sg : St} (h : rS K mg W (sRet f) N sg H) : rE K mg W f sg H N.rt :=
  rSE (k := fun d env => .rt d env) (fun env => rfl) h fun ph Z0 H0 O0 d env' v H' Z' O' Od hf r1 r2 r3 r4 => hf v _ H' Z' O' Od r1 r2 r3 r4
theorem rS_expr {f : EF} {sg : St} (h : rS K mg W (sExpr f) N sg H) : rE K mg W f sg H fun _ H1 => N.nx sg H1 :=
  rSE (k := fun d env => .nx env) (fun env => rfl) h fun ph Z0 H0 O0 d env' v H' Z' O' Od hf r1 r2 r3 r4 => hf sg H' Z' O' ⟨r1, r3.left⟩ (r4.less fun a m => List.mem_append_left _ m)
theorem rS_asg {i : Nat} {f : EF} {sg : St} (h : rS K mg W (sAsg i f) N sg H) : rE K mg W f sg H fun x H1 => gName i x sg H1 N.nx :=
  rSE (k := fun d env => match setV env i d with
    | some env => .nx env
    | none => .stuck) (fun env => rfl) h fun ph Z0 H0 O0 d env' v H' Z' O' Od hf r1 r2 r3 r4 => by
    cases e : setV env' i d with
    | none => rw [e] at hf; exact hf.elim
    | some env2 =>
      rw [e] at hf
      obtain ⟨O2, A2, t2, _⟩ := At.store r1 r3 r4 e r2
      exact hf _ H' Z' O2 A2 t2
/- a target's pattern -/
mutual
def gPat (K : PySem.W.Frag) : Pat → TG
  | .n i => gName i
  | .t ps => gTup K ps.length (gPats K ps)
def gPats (K : PySem.W.Frag) : List Pat → TGs
  | [] => gNil
  | q :: qs => gCons (gPat K q) (gPats K qs)
end
theorem assignPs_length : ∀ {ps : List Pat} {xs : List P} {env env' : Env}, assignPs env ps xs = some env' → ps.length = xs.length
  | [], [], _, _, _ => rfl
  | [], _ :: _, _, _, h => by unfold assignPs at h; cases h
  | _ :: _, [], _, _, h => by unfold assignPs at h; cases h
  | q :: qs, x :: xs, env, env', h => by
    unfold assignPs at h
    cases e : assignP env q x with
    | none => rw [e] at h; cases h
    | some env1 =>
      rw [e] at h
      simp only [List.length_cons, assignPs_length h]
mutual
theorem gPat_ok {R : St → Hp → Prop} : ∀ {q : Pat} {x : P} {v : V} {sg : St} {env env' : Env} {O : List Addr}, At K mg ph Z H sg env O → RP K mg Z H v x → assignP env q x = some env' →
    (∀ sg' O', At K mg ph Z H sg' env' O' → (∀ a ∈ O', a ∈ O) → R sg' H) → gPat K q v sg H R
  | .n i, x, v, sg, env, env', O, A, r, e, hR => by
    unfold assignP at e
    unfold gPat
    have vl : Vld Z H (O ++ []) := by rw [List.append_nil]; exact A.vl
    obtain ⟨O2, A2, t2, sub⟩ := At.store A.re vl (Tr.refl Z H (O ++ [])) e (rd_p r)
    exact hR _ O2 A2 fun a m => by simpa using sub a m
  | .t ps, x, v, sg, env, env', O, A, r, e, hR => by
    cases x with
    | tup xs =>
      unfold assignP at e
      unfold gPat
      simp only [RP] at r
      obtain ⟨a, us, ev, s, rs⟩ := r
      refine ⟨a, us, ev, s.1, ?_, gPats_ok A rs e hR⟩
      rw [rs.length, assignPs_length e]
    | wt xs =>
      unfold assignP at e
      unfold gPat
      simp only [RP] at r
      obtain ⟨a, us, ev, s, rs⟩ := r
      refine ⟨a, us, ev, s, ?_, gPats_ok A rs e hR⟩
      rw [rs.length, assignPs_length e]
    | _ => unfold assignP at e; cases e
theorem gPats_ok {R : St → Hp → Prop} : ∀ {ps : List Pat} {xs : List P} {us : List V} {sg : St} {env env' : Env} {O : List Addr}, At K mg ph Z H sg env O → RPs K mg Z H us xs → assignPs env ps xs = some env' →
    (∀ sg' O', At K mg ph Z H sg' env' O' → (∀ a ∈ O', a ∈ O) → R sg' H) → gPats K ps us sg H R
  | [], [], [], sg, env, env', O, A, r, e, hR => by
    unfold assignPs at e
    cases e
    unfold gPats
    exact ⟨rfl, hR _ O A fun a m => m⟩
  | [], [], _ :: _, _, _, _, _, _, r, _, _ => by simp only [RPs] at r
  | [], _ :: _, _, _, _, _, _, _, _, e, _ => by unfold assignPs at e; cases e
  | _ :: _, [], _, _, _, _, _, _, _, e, _ => by unfold assignPs at e; cases e
  | _ :: _, _ :: _, [], _, _, _, _, _, r, _, _ => by simp only [RPs] at r
  | q :: qs, x :: xs, u :: us, sg, env, env', O, A, r, e, hR => by
    unfold assignPs at e
    simp only [RPs] at r
    cases e1 : assignP env q x with
    | none => rw [e1] at e; cases e
    | some env1 =>
      rw [e1] at e
      unfold gPats
      exact ⟨u, us, rfl, gPat_ok A r.1 e1 fun sg1 O1 A1 s1 => gPats_ok A1 r.2 e fun sg2 O2 A2 s2 => hR sg2 O2 A2 fun a m => s1 a (s2 a m)⟩
end
theorem rS_asgT {q : List Pat} {f : EF} {sg : St} (h : rS K mg W (sAsgT q f) N sg H) : rE K mg W f sg H fun x H1 => gPat K (.t q) x sg H1 N.nx :=
  rSE (k := fun d env => match d with
    | .p x => match assignP env (.t q) x with
      | some env => .nx env
      | none => .stuck
    | _ => .stuck) (fun env => rfl) h fun ph Z0 H0 O0 d env' v H' Z' O' Od hf r1 r2 r3 r4 => by
    cases d with
    | p x =>
      obtain ⟨e0, rp⟩ := of_rd_p r2
      subst e0
      rw [List.append_nil] at r3 r4
      cases e : assignP env' (.t q) x with
      | none => simp only [e] at hf; exact hf.elim
      | some env2 =>
        simp only [e] at hf
        exact gPat_ok ⟨r1, r3⟩ rp e fun sg2 O2 A2 s2 => hf sg2 H' Z' O2 A2 (r4.less s2)
    | l _ => exact hf.elim
    | d _ _ => exact hf.elim
    | s _ => exact hf.elim
    | i _ _ _ => exact hf.elim
/-- a loop's turns: what it goes over stays as it is -/
theorem for_ok {J : It} {q : Pat} {body : SF} {xs : List P} {sg : St} {env : Env} {Z0 : Zs} {H0 : Hp} {O0 : List Addr}
    (A : At K mg ph Z H sg env O) (t0 : Tr Z0 H0 O0 Z H O) (hf : Fin K mg W N ph Z0 H0 O0 (forL q body xs env))
    (B : Zs → Hp → Prop) (hB : B Z H) (keep : ∀ Z1 H1 Z2 H2, B Z1 H1 → (∀ a, Z1 a → Z2 a) → Kp Z1 [] H1 H2 → B Z2 H2)
    (item : ∀ i x Z1 H1, B Z1 H1 → xs[i]? = some x → J.go i H1 ∧ ∀ v H2, J.yld i H1 v H2 → H2 = H1 ∧ RP K mg Z1 H1 v x)
    (stop : ∀ Z1 H1, B Z1 H1 → J.stop xs.length H1) :
    ∃ W' : Nat → Nat → St → Hp → Prop, (∃ m, W' 0 m sg H) ∧ ∀ i m sg H, W' i m sg H →
      (J.stop i H ∧ N.nx sg H) ∨ (J.go i H ∧ ∃ M : St → Hp → Prop, (∀ sg' H', M sg' H' → ∃ m', m' < m ∧ W' (i + 1) m' sg' H') ∧ ∀ x H', J.yld i H x H' → gPat K q x sg H' fun sg2 H2 => rS K mg W body { N with nx := M, ct := M, bk := N.nx } sg2 H2) := by
  refine ⟨fun i m sg H => m = xs.length - i ∧ i ≤ xs.length ∧ ∃ env Z O, At K mg ph Z H sg env O ∧ Tr Z0 H0 O0 Z H O ∧ B Z H ∧ Fin K mg W N ph Z0 H0 O0 (forL q body (xs.drop i) env), ⟨xs.length, by simp, Nat.zero_le _, env, Z, O, A, t0, hB, by simpa using hf⟩, ?_⟩
  rintro i m sg H ⟨rfl, hi, env, Z, O, A, t, b, f⟩
  by_cases hlt : i < xs.length
  · have hx : xs[i]? = some xs[i] := by simp [hlt]
    obtain ⟨go, yld⟩ := item i _ Z H b hx
    have ed : xs.drop i = xs[i] :: xs.drop (i + 1) := List.drop_eq_getElem_cons hlt
    rw [ed] at f
    unfold forL at f
    refine .inr ⟨go, fun sg' H' => ∃ env' Z' O', At K mg ph Z' H' sg' env' O' ∧ Tr Z0 H0 O0 Z' H' O' ∧ B Z' H' ∧ Fin K mg W N ph Z0 H0 O0 (forL q body (xs.drop (i + 1)) env'), fun sg' H' ⟨env', Z', O', A', t', b', f'⟩ => ⟨xs.length - (i + 1), by omega, rfl, hlt, env', Z', O', A', t', b', f'⟩, fun v H2 y => ?_⟩
    obtain ⟨eH, rp⟩ := yld v H2 y
    subst eH
    cases e1 : assignP env q xs[i] with
    | none => rw [e1] at f; exact f.elim
    | some env1 =>
      rw [e1] at f
      refine gPat_ok A rp e1 fun sg1 O1 A1 s1 => ⟨env1, ph, Z, O1, A1, ?_⟩
      have t1 : Tr Z0 H0 O0 Z H2 O1 := t.less s1
      have kb : ∀ {H3 : Hp} {Z3 : Zs} {O3 : List Addr}, Tr Z H2 O1 Z3 H3 O3 → B Z3 H3 := fun {H3 Z3 O3} t3 =>
        keep Z H2 Z3 H3 b t3.z1 (t3.kept (F := []) (by rw [List.append_nil]; exact A1.vl))
      simp only at f
      cases e2 : body env1 with
      | nx env2 =>
        rw [e2] at f
        exact fun sg3 H3 Z3 O3 A3 t3 => ⟨env2, Z3, O3, A3, t1.trans t3, kb t3, f⟩
      | ct env2 =>
        rw [e2] at f
        exact fun sg3 H3 Z3 O3 A3 t3 => ⟨env2, Z3, O3, A3, t1.trans t3, kb t3, f⟩
      | br env2 =>
        rw [e2] at f
        exact fun sg3 H3 Z3 O3 A3 t3 => f sg3 H3 Z3 O3 A3 (t1.trans t3)
      | rt d env2 =>
        rw [e2] at f
        exact fun v3 sg3 H3 Z3 O3 Od r1 r2 r3 t3 => f v3 sg3 H3 Z3 O3 Od r1 r2 r3 (t1.trans t3)
      | exc x env2 =>
        rw [e2] at f
        exact fun sg3 cls dx H3 Z3 O3 A3 t3 rx => f sg3 cls dx H3 Z3 O3 A3 (t1.trans t3) rx
      | stuck => rw [e2] at f; exact f.elim
  · have ei : i = xs.length := by omega
    subst ei
    rw [List.drop_length] at f
    exact .inl ⟨stop Z H b, f sg H Z O A t⟩
theorem RPs.get : ∀ {xs : List P} {us : List V} {i : Nat} {x : P}, RPs K mg Z H us xs → xs[i]? = some x → ∃ u, us[i]? = some u ∧ RP K mg Z H u x
  | [], [], _, _, _, e => by simp at e
  | [], _ :: _, _, _, h, _ => by simp only [RPs] at h
  | _ :: _, [], _, _, h, _ => by simp only [RPs] at h
  | x :: xs, u :: us, 0, y, h, e => by
    simp only [RPs] at h
    have q : x = y := by simpa using e
    subst q
    exact ⟨u, rfl, h.1⟩
  | x :: xs, u :: us, i + 1, y, h, e => by
    simp only [RPs] at h
    obtain ⟨w, e1, e2⟩ := RPs.get (i := i) h.2 (by simpa using e)
    exact ⟨w, by simpa using e1, e2⟩
/-- a list or a tuple, whatever it is: what for goes over -/
def iSeq (K : PySem.W.Frag) (tl : TE) : TI := fun sg H R => tl sg H fun x H1 => ∃ a, x = .ref a ∧ ((∃ xs, SqL K H1 a xs) ∧ R (Itl K a) H1 ∨ (∃ xs, SqT K H1 a xs) ∧ R (Itt K a) H1)
theorem pi_seq {X : Cx} {tg : Expr} {l : Expr} {tl : TE} (hl : PE X l tl) : PI X tg l (iSeq X.K tl) := by
  refine ⟨fun pins s sg H R I h => ?_⟩
  refine thn (hl.run pins s sg H _ I h) fun v s1 ⟨x, H1, I1, r1, q1⟩ => ?_
  obtain ⟨a, e, ⟨⟨xs, hq⟩, q⟩ | ⟨⟨xs, hq⟩, q⟩⟩ := q1
  · subst e
    cases r1
    obtain ⟨its, rv, p, hz⟩ := I1.list hq
    refine wpAny_pyIter_list p.isList ?_
    refine ⟨s1.heap.objs.size, [s1.heap.objs.size], _, _, H1, rfl, I1.kept (t' := s1.toks) fun b o e => Heap.get?_push_of_some _ e, turn_list a _, ⟨_, Heap.get?_push_size _ rfl, rfl, rfl⟩, fun b hb => ?_, q⟩
    have e : b = s1.heap.objs.size := by simpa using hb
    subst e
    exact I1.fpOk (Nat.le_refl _) (I1.hok.fresh (Nat.le_refl _))
  · subst e
    cases r1
    obtain ⟨its, rv, p, hz⟩ := I1.tuple hq
    refine wpAny_pyIter_tuple (show s1.heap.IsTuple a its.toArray from p) ?_
    refine ⟨s1.heap.objs.size, [s1.heap.objs.size], _, _, H1, rfl, I1.kept (t' := s1.toks) fun b o e => Heap.get?_push_of_some _ e, turn_tuple a _, ⟨_, Heap.get?_push_size _ rfl, rfl, rfl⟩, fun b hb => ?_, q⟩
    have e : b = s1.heap.objs.size := by simpa using hb
    subst e
    exact I1.fpOk (Nat.le_refl _) (I1.hok.fresh (Nat.le_refl _))
/-- goes over a frozen list, over a tuple -/
theorem for_seq {q : Pat} {body : SF} {x : P} {xs : List P} {v : V} {sg : St} {env : Env} {Z0 : Zs} {H0 : Hp} {O0 : List Addr}
    (A : At K mg ph Z H sg env O) (t0 : Tr Z0 H0 O0 Z H O) (hf : Fin K mg W N ph Z0 H0 O0 (forL q body xs env)) (r : RP K mg Z H v x) (hx : x = .lst xs ∨ x = .tup xs) :
    ∃ a, v = .ref a ∧ ((∃ xs, SqL K H a xs) ∧ (∃ W' : Nat → Nat → St → Hp → Prop, (∃ m, W' 0 m sg H) ∧ ∀ i m sg H, W' i m sg H →
      ((Itl K a).stop i H ∧ N.nx sg H) ∨ ((Itl K a).go i H ∧ ∃ M : St → Hp → Prop, (∀ sg' H', M sg' H' → ∃ m', m' < m ∧ W' (i + 1) m' sg' H') ∧ ∀ x H', (Itl K a).yld i H x H' → gPat K q x sg H' fun sg2 H2 => rS K mg W body { N with nx := M, ct := M, bk := N.nx } sg2 H2)) ∨
      (∃ xs, SqT K H a xs) ∧ (∃ W' : Nat → Nat → St → Hp → Prop, (∃ m, W' 0 m sg H) ∧ ∀ i m sg H, W' i m sg H →
      ((Itt K a).stop i H ∧ N.nx sg H) ∨ ((Itt K a).go i H ∧ ∃ M : St → Hp → Prop, (∀ sg' H', M sg' H' → ∃ m', m' < m ∧ W' (i + 1) m' sg' H') ∧ ∀ x H', (Itt K a).yld i H x H' → gPat K q x sg H' fun sg2 H2 => rS K mg W body { N with nx := M, ct := M, bk := N.nx } sg2 H2))) := by
  rcases hx with e | e
  · subst e
    simp only [RP] at r
    obtain ⟨a, us, ev, z, s, rs⟩ := r
    have B0 : ∀ {Z1 : Zs} {H1 : Hp}, (RP K mg Z1 H1 (.ref a) (.lst xs)) → ∃ us, SqL K H1 a us ∧ RPs K mg Z1 H1 us xs := fun {Z1 H1} h => by
      simp only [RP] at h
      obtain ⟨a', us, e, _, s, rs⟩ := h
      cases e
      exact ⟨us, .inl (.inl s), rs⟩
    have inj : ∀ {H1 : Hp} {us : List V}, Rd H1 a (.lst us) → ∀ ws, SqL K H1 a ws → True := fun _ _ _ => trivial
    refine ⟨a, ev, .inl ⟨⟨us, .inl (.inl s)⟩, for_ok (J := Itl K a) A t0 hf (fun Z1 H1 => RP K mg Z1 H1 (.ref a) (.lst xs)) (by simp only [RP]; exact ⟨a, us, rfl, z, s, rs⟩) (fun Z1 H1 Z2 H2 b hz k => b.kp k hz) (fun i x Z1 H1 b hi => ?_) (fun Z1 H1 b => ?_)⟩⟩
    · obtain ⟨us1, s1, rs1⟩ := B0 b
      obtain ⟨u, eu, ru⟩ := rs1.get hi
      refine ⟨⟨us1, u, s1, eu⟩, fun v H2 ⟨e2, y⟩ => ⟨e2, ?_⟩⟩
      have := y us1 s1
      rw [eu] at this
      cases this
      exact ru
    · obtain ⟨us1, s1, rs1⟩ := B0 b
      exact ⟨us1, s1, by rw [rs1.length]; exact Nat.le_refl _⟩
  · subst e
    simp only [RP] at r
    obtain ⟨a, us, ev, s, rs⟩ := r
    have B0 : ∀ {Z1 : Zs} {H1 : Hp}, (RP K mg Z1 H1 (.ref a) (.tup xs)) → ∃ us, SqT K H1 a us ∧ RPs K mg Z1 H1 us xs := fun {Z1 H1} h => by
      simp only [RP] at h
      obtain ⟨a', us, e, s, rs⟩ := h
      cases e
      exact ⟨us, s.1, rs⟩
    refine ⟨a, ev, .inr ⟨⟨us, s.1⟩, for_ok (J := Itt K a) A t0 hf (fun Z1 H1 => RP K mg Z1 H1 (.ref a) (.tup xs)) (by simp only [RP]; exact ⟨a, us, rfl, s, rs⟩) (fun Z1 H1 Z2 H2 b hz k => b.kp k hz) (fun i x Z1 H1 b hi => ?_) (fun Z1 H1 b => ?_)⟩⟩
    · obtain ⟨us1, s1, rs1⟩ := B0 b
      obtain ⟨u, eu, ru⟩ := rs1.get hi
      refine ⟨⟨us1, u, s1, eu⟩, fun v H2 ⟨e2, y⟩ => ⟨e2, ?_⟩⟩
      have := y us1 s1
      rw [eu] at this
      cases this
      exact ru
    · obtain ⟨us1, s1, rs1⟩ := B0 b
      exact ⟨us1, s1, by rw [rs1.length]; exact Nat.le_refl _⟩
/-- a thing that is only looked at from now on -/
theorem At.seal {sg : St} {env : Env} {Od : List Addr} {d : D} {v : V} (r1 : RE K mg Z H ph sg env O) (r2 : RD K mg Z H v d Od) (vl : Vld Z H (O ++ Od)) {Z0 : Zs} {H0 : Hp} {O0 : List Addr} (t : Tr Z0 H0 O0 Z H (O ++ Od)) :
    At K mg ph (plusZ Z Od) H sg env O ∧ RP K mg (plusZ Z Od) H v (vw d) ∧ Tr Z0 H0 O0 (plusZ Z Od) H O := by
  refine ⟨⟨r1.mono fun a q => .inl q, vl.part List.perm_append_comm⟩, RD.vw (fun a q => .inl q) (fun a m => .inr m) r2, fun a q => .inl (t.z1 a q), fun a q => ?_, fun a m => t.o1 a (List.mem_append_left _ m), t.kp, t.nn, t.tb⟩
  rcases q with q | q
  · exact t.z2 a q
  · exact .inr (t.o1 a (List.mem_append_right _ q))
theorem itemsD_vw {d : D} {xs : List P} (h : itemsD d = some xs) : vw d = .lst xs ∨ vw d = .tup xs := by
  cases d with
  | p x =>
    cases x with
    | lst ys => cases h; exact .inl rfl
    | tup ys => cases h; exact .inr rfl
    | _ => cases h
  | l ys => cases h; exact .inl rfl
  | d _ _ => cases h
  | s _ => cases h
  | i _ _ _ => cases h
theorem rS_for {q : Pat} {f : EF} {body : SF} {sg : St} (h : rS K mg W (sFor q f body) N sg H) : tFor (iSeq K (rE K mg W f)) (gPat K q) (rS K mg W body) N sg H :=
  rSE (k := fun d env => match itemsD d with
    | some xs => forL q body xs env
    | none => .stuck) (fun env => rfl) h fun ph Z0 H0 O0 d env' v H' Z' O' Od hf r1 r2 r3 r4 => by
    cases ei : itemsD d with
    | none => rw [ei] at hf; exact hf.elim
    | some xs =>
      rw [ei] at hf
      obtain ⟨A2, rp, t2⟩ := At.seal r1 r2 r3 r4
      exact for_seq A2 t2 hf rp (itemsD_vw ei)
theorem rng_ok {q : Pat} {body : SF} {lo : Int} {n : Nat} {sg : St} {env : Env} {Z0 : Zs} {H0 : Hp} {O0 : List Addr} (A : At K mg ph Z H sg env O) (t0 : Tr Z0 H0 O0 Z H O) (hf : Fin K mg W N ph Z0 H0 O0 (forL q body (rangeL lo n) env)) :
    ∃ W' : Nat → Nat → St → Hp → Prop, (∃ m, W' 0 m sg H) ∧ ∀ i m sg H, W' i m sg H →
      ((Itr lo n).stop i H ∧ N.nx sg H) ∨ ((Itr lo n).go i H ∧ ∃ M : St → Hp → Prop, (∀ sg' H', M sg' H' → ∃ m', m' < m ∧ W' (i + 1) m' sg' H') ∧ ∀ x H', (Itr lo n).yld i H x H' → gPat K q x sg H' fun sg2 H2 => rS K mg W body { N with nx := M, ct := M, bk := N.nx } sg2 H2) := by
  refine for_ok (J := Itr lo n) A t0 hf (fun _ _ => True) trivial (fun _ _ _ _ _ _ _ => trivial) (fun i x Z1 H1 _ hi => ?_) (fun Z1 H1 _ => ?_)
  · have h2 : i < n ∧ x = .int (lo + (i : Int)) := by
      unfold rangeL at hi
      rw [List.getElem?_map] at hi
      cases e : (List.range n)[i]? with
      | none => rw [e] at hi; cases hi
      | some j =>
        rw [e] at hi
        obtain ⟨h3, h4⟩ := List.getElem?_eq_some_iff.mp e
        rw [List.getElem_range] at h4
        subst h4
        rw [List.length_range] at h3
        exact ⟨h3, (Option.some.inj hi).symm⟩
    obtain ⟨h3, ex⟩ := h2
    subst ex
    exact ⟨h3, fun v H2 ⟨e1, e2⟩ => ⟨e1, by simp only [RP]; exact e2⟩⟩
  · show n ≤ (rangeL lo n).length
    unfold rangeL
    rw [List.length_map, List.length_range]
    exact Nat.le_refl _
theorem rS_rng1 {q : Pat} {f : EF} {body : SF} {sg : St} (h : rS K mg W (sRng1 q f body) N sg H) : tFor (iRng1 (rAs K mg W [.e f])) (gPat K q) (rS K mg W body) N sg H := by
  obtain ⟨env, ph, Z, O, A, h⟩ := h
  refine ⟨env, ph, Z, O, A, ?_⟩
  unfold sRng1 bindE at h
  simp only [args1, ER.bind]
  cases e : f env with
  | stuck => simp only [e] at h; exact h
  | exc x env' => simp only [e] at h; exact Fin.xc h
  | ok d env' =>
    simp only [e] at h
    intro vs H' Z' O' Ot r1 ra vl t
    cases vs with
    | nil => exact ra.elim
    | cons v vs =>
      obtain ⟨O1, O2, rd, rn, eO⟩ := ra
      cases vs with
      | cons _ _ => exact rn.elim
      | nil =>
        have rn' : O2 = [] := rn
        subst rn'
        rw [List.append_nil] at eO
        subst eO
        cases d with
        | p x =>
          cases x with
          | int j =>
            simp only at h
            obtain ⟨e0, rp⟩ := of_rd_p rd
            subst e0
            simp only [RP] at rp
            subst rp
            rw [List.append_nil] at vl t
            by_cases c : -(2 ^ 62) ≤ j ∧ j < 2 ^ 62
            · rw [if_pos c] at h
              exact ⟨j, rfl, c.1, c.2, rng_ok ⟨r1, vl⟩ t h⟩
            · rw [if_neg c] at h
              exact h.elim
          | _ => exact h.elim
        | l _ => exact h.elim
        | d _ _ => exact h.elim
        | s _ => exact h.elim
        | i _ _ _ => exact h.elim
theorem rS_while {t : TF} {body : SF} {sg : St} (h : rS K mg W (sWhile t body) N sg H) : tWhile (rT K mg W t) (rS K mg W body) N sg H := by
  obtain ⟨env, ph, Z0, O0, A0, h⟩ := h
  refine ⟨fun m sg H' => ∃ env Z O, At K mg ph Z H' sg env O ∧ Tr Z0 H O0 Z H' O ∧ Fin K mg W N ph Z0 H O0 (whileL t body m env), ⟨mostTurns, env, Z0, O0, A0, Tr.refl .., h⟩, ?_⟩
  rintro m sg1 H1 ⟨env1, Z1, O1, A1, t1, f⟩
  refine ⟨env1, ph, Z1, O1, A1, ?_⟩
  cases m with
  | zero => exact f.elim
  | succ n =>
    unfold whileL at f
    cases e : t env1 with
    | stuck => rw [e] at f; exact f
    | exc x env2 => rw [e] at f; exact Fin.xc (Fin.trans (r := .exc x env2) t1 f)
    | ok c env2 =>
      rw [e] at f
      intro H2 Z2 O2 A2 t2
      cases c with
      | false =>
        simp only [if_neg Bool.false_ne_true] at f ⊢
        exact f sg1 H2 Z2 O2 A2 (t1.trans t2)
      | true =>
        simp only [if_true] at f ⊢
        have t12 := t1.trans t2
        refine ⟨fun sg' H' => ∃ env Z O, At K mg ph Z H' sg' env O ∧ Tr Z0 H O0 Z H' O ∧ Fin K mg W N ph Z0 H O0 (whileL t body n env), fun sg' H' w => ⟨n, Nat.lt_succ_self n, w⟩, env2, ph, Z2, O2, A2, ?_⟩
        cases e2 : body env2 with
        | nx env3 => rw [e2] at f; exact fun sg3 H3 Z3 O3 A3 t3 => ⟨env3, Z3, O3, A3, t12.trans t3, f⟩
        | ct env3 => rw [e2] at f; exact fun sg3 H3 Z3 O3 A3 t3 => ⟨env3, Z3, O3, A3, t12.trans t3, f⟩
        | br env3 => rw [e2] at f; exact fun sg3 H3 Z3 O3 A3 t3 => f sg3 H3 Z3 O3 A3 (t12.trans t3)
        | rt d env3 => rw [e2] at f; exact fun v3 sg3 H3 Z3 O3 Od r1 r2 r3 t3 => f v3 sg3 H3 Z3 O3 Od r1 r2 r3 (t12.trans t3)
        | exc x env3 => rw [e2] at f; exact fun sg3 cls dx H3 Z3 O3 A3 t3 rx => f sg3 cls dx H3 Z3 O3 A3 (t12.trans t3) rx
        | stuck => rw [e2] at f; exact f.elim
end
section
variable {X : Cx} {W : WX} {k : Nat} {pos : Pos} {e : Expr} {f : EF} {t : TF} {a b : SF} {st : Stmt} {sts sts2 : List Stmt} {q : Pat} {tg : Expr}
theorem jss_nil : JSs X W [] sNx := PSsimp pss_nil fun D sg H h => rS_nx h
theorem jss_one (h : JS X W st a) : JSs X W [st] a := pss_one h
theorem jss_cons (h : JS X W st a) (h2 : JSs X W sts b) : JSs X W (st :: sts) (sSeq a b) := PSsimp (pss_cons h h2) fun D sg H q => rS_seq q
theorem js_pass : JS X W (.Pass pos) sNx := PSimp ps_pass fun D sg H h => rS_nx h
theorem js_break : JS X W (.Break pos) sBr := PSimp ps_break fun D sg H h => rS_br h
theorem js_continue : JS X W (.Continue pos) sCt := PSimp ps_continue fun D sg H h => rS_ct h
theorem js_expr (h : JE X W e f) (hs : swapsWith e none pos.line X.env = pure false := by rfl) : JS X W (.Expr e pos) (sExpr f) := PSimp (ps_expr h hs) fun D sg H q => rS_expr q
theorem js_ret (h : JE X W e f) : JS X W (.Return (some e) pos) (sRet f) := PSimp (ps_ret h) fun D sg H q => rS_ret q
theorem js_retN : JS X W (.Return none pos) sRetN := PSimp ps_retN fun D sg H q => rS_retN q
theorem js_if (h : JT X W e t) (h1 : JSs X W sts a) (h2 : JSs X W sts2 b) : JS X W (.If e sts sts2 pos) (sIf t a b) :=
  PSimp (ps_if h h1 h2) fun D sg H q => rT_mono (fun c H1 z => by cases c <;> exact z) (rST (k := fun c env => if c then a env else b env) (fun env => rfl) q)
theorem js_set {i : Nat} {x : Str} {pos' : Pos} (hN : X.N.Nodup) (hi : X.N[i]? = some x) (hx : Loc X.env.scope x) (h : JE X W e f) (hs : swapsWith e (some (.Name x pos')) pos.line X.env = pure false := by rfl)
    (hf : X.fn x = true ∨ X.env.scope.names.lookup x = some .local := by first | exact .inl rfl | exact .inr rfl | assumption) : JS X W (.Assign [.Name x pos'] e pos) (sAsg i f) :=
  PSimp (ps_set hN hi hx h hs hf) fun D sg H q => rS_asg q
theorem js_asgT {qs : List Pat} {tg : Expr} (h : JE X W e f) (hg : PG X tg (gPat X.K (.t qs))) (hs : swapsWithSole [tg] e pos.line X.env = pure false := by rfl) (hw : swappedStores [tg] e X.env = pure none := by rfl)
    (h1 : (assignEach [tg] X.env).map (·.2) = [assign tg X.env] := by rfl) : JS X W (.Assign [tg] e pos) (sAsgT qs f) :=
  PSimp (ps_asg h hg hs hw h1) fun D sg H q => rS_asgT q
theorem js_for (C : Cz X W k) (h : JE X W e f) (hg : PG X tg (gPat X.K q)) (hb : JSs X W sts b) (hs : ∀ x, foldedSetIterable e X.env x = pure x := by intro _; rfl) : JS X W (.For tg e sts [] pos) (sFor q f b) :=
  PSimp (ps_for C.po C.calm (pi_seq h) hg hb hs) fun D sg H q => rS_for q
theorem js_rng1 {x : Expr} {p pos2 : Pos} (C : Cz X W k) (hg0 : Gl X "range") (hm : X.mg "range" = none) (h : JE X W x f) (hg : PG X tg (gPat X.K q)) (hb : JSs X W sts b) (hs0 : starEach [x] X.env = [(false, eval x X.env)] := by rfl)
    (hs : ∀ y, foldedSetIterable (.Call (.Name "range" p) [x] [] pos2) X.env y = pure y := by intro _; rfl) : JS X W (.For tg (.Call (.Name "range" p) [x] [] pos2) sts [] pos) (sRng1 q f b) :=
  PSimp (ps_for C.po C.calm (pi_range1 hg0 hm (jas_cons (ja_e h) jas_nil hs0) hs0) hg hb hs) fun D sg H q => rS_rng1 q
theorem js_while (C : Cz X W k) (h : JT X W e t) (hb : JSs X W sts b) : JS X W (.While e sts [] pos) (sWhile t b) := PSimp (ps_while C.po h hb) fun D sg H q => rS_while q
theorem pgp_n {i : Nat} {x : Str} {pos' : Pos} (hN : X.N.Nodup) (hi : X.N[i]? = some x) (hx : Loc X.env.scope x) (hf : X.fn x = true ∨ X.env.scope.names.lookup x = some .local := by first | exact .inl rfl | exact .inr rfl | assumption) : PG X (.Name x pos') (gPat X.K (.n i)) := by
  unfold gPat
  exact pg_name hN hi hx hf
theorem pgps_nil : PGs X [] (gPats X.K []) := by
  unfold gPats
  exact pgs_nil
theorem pgps_cons {es : List Expr} {qs : List Pat} (h : PG X e (gPat X.K q)) (h2 : PGs X es (gPats X.K qs)) (hs : (assignEach (e :: es) X.env).map (·.2) = assign e X.env :: (assignEach es X.env).map (·.2) := by rfl) : PGs X (e :: es) (gPats X.K (q :: qs)) := by
  unfold gPats
  exact pgs_cons h h2 hs
theorem pgp_t {es : List Expr} {j : Nat} {qs : List Pat} (C : Cz X W k) (h : PGs X es (gPats X.K qs)) (hn : (assignEach es X.env).length = qs.length := by rfl) (hst : (assignEach es X.env).findIdx? (·.1) = none := by rfl) : PG X (.Tuple es j pos) (gPat X.K (.t qs)) := by
  unfold gPat
  exact pg_tup C.calm h hn hst
end
end Z
set_option Elab.async false
set_option linter.all false
set_option maxRecDepth 100000
namespace Z
open PySem L2
section
variable {K : PySem.W.Frag} {mg : Str → Option Value} {ph : Nat → V} {Z : Zs} {H : Hp}
theorem RE0.nos : ∀ {j k : Nat}, RE0 K mg Z H ph k (List.replicate j none) (List.replicate j .no) []
  | 0, _ => rfl
  | j + 1, k => ⟨[], [], rfl, RE0.nos, rfl⟩
theorem RE0.vars {j : Nat} : ∀ {ds : List D} {us : List V} {O : List Addr} {k : Nat}, RDs K mg Z H us ds O → RE0 K mg Z H ph k (us.map some ++ List.replicate j none) (ds.map Slot.var ++ List.replicate j .no) O
  | [], [], _, k, h => by
    simp only [RDs] at h
    subst h
    exact RE0.nos
  | [], _ :: _, _, _, h => by simp only [RDs] at h
  | _ :: _, [], _, _, h => by simp only [RDs] at h
  | d :: ds, u :: us, _, k, h => by
    simp only [RDs] at h
    obtain ⟨O1, O2, h1, h2, e⟩ := h
    exact ⟨O1, O2, ⟨u, rfl, h1⟩, RE0.vars h2, e⟩
theorem RE.enter {m : Bool} {n : Nat} {ds : List D} {us : List V} {O : List Addr} {N : List Str} (hN : N.length = n) (h : RDs K mg Z H us ds O) (hp : ∀ u, us.head? = some u → ph 0 = u) : RE K mg Z H ph (L2.start N us) (enter m n ds) O := by
  refine ⟨O, ?_, List.Perm.refl _⟩
  cases ds with
  | nil =>
    cases us with
    | nil =>
      simp only [RDs] at h
      subst h
      unfold L2.start _root_.Z.enter
      rw [hN]
      exact RE0.nos
    | cons _ _ => simp only [RDs] at h
  | cons d ds =>
    cases us with
    | nil => simp only [RDs] at h
    | cons u us =>
      have l := h.length
      simp only [List.length_cons] at l
      have l2 : us.length = ds.length := by omega
      simp only [RDs] at h
      obtain ⟨O1, O2, h1, h2, e⟩ := h
      unfold L2.start _root_.Z.enter
      rw [hN, List.length_cons, l2]
      refine ⟨O1, O2, ?_, RE0.vars h2, e⟩
      cases m with
      | false => exact ⟨u, rfl, h1⟩
      | true =>
        have q := hp u rfl
        refine ⟨by rw [q], ?_⟩
        rw [q]
        exact h1
theorem fin_of {m : Bool} {sg : St} {env : Env} {O : List Addr} {d0 : D} {vs : List V} (r : RE K mg Z H ph sg env O) (e : fin0 m env = some d0) (hp : ∀ u, vs.head? = some u → ph 0 = u) (hm : m = true → vs ≠ []) :
    ∃ Of Or, O.Perm (Of ++ Or) ∧ RDs K mg Z H (nFin m vs) (dFin m d0) Of := by
  cases m with
  | false => exact ⟨[], O, List.Perm.refl _, by unfold nFin dFin; simp only [if_neg Bool.false_ne_true, RDs]⟩
  | true =>
    have e : fixed0 env = some d0 := e
    unfold fixed0 at e
    cases e0 : env[0]? with
    | none => rw [e0] at e; cases e
    | some s =>
      rw [e0] at e
      cases s with
      | no => cases e
      | var _ => cases e
      | lock _ => cases e
      | fix d =>
        cases e
        obtain ⟨v, O1, Or, ev, rs, pp, _⟩ := r.at e0
        refine ⟨O1, Or, pp, ?_⟩
        cases vs with
        | nil => exact (hm rfl rfl).elim
        | cons u us =>
          have q := hp u rfl
          have r1 := rs.2
          rw [q] at r1
          unfold nFin dFin
          simp only [if_true, List.take_succ_cons, List.take_zero, RDs]
          exact ⟨O1, [], r1, rfl, by rw [List.append_nil]⟩
/-- a def keeps what its body's function says -/
theorem body_ok {m : Bool} {n k : Nat} {s : SF} {N : List Str} {vs : List V} {Q : VK} {E : XK} (hN : N.length = k) (hm : m = true → 0 < n) (h : Sat K mg m n (mkFn m n k s) vs H Q E) :
    rS K mg (fun cls d _ H => E cls d H) s { nx := fun _ H' => Q .non H', rt := Q } (L2.start N vs) H := by
  obtain ⟨hl, Z, O, ds, rd, vl, h⟩ := h
  have hp : ∀ u, vs.head? = some u → (fun _ : Nat => vs.headD .non) 0 = u := fun u e => by
    cases vs with
    | nil => cases e
    | cons a as => cases e; rfl
  have hm2 : m = true → vs ≠ [] := fun e z => by
    rw [z] at hl
    have := hm e
    simp at hl
    omega
  refine ⟨enter m k ds, fun _ => vs.headD .non, Z, O, ⟨RE.enter hN rd hp, vl⟩, ?_⟩
  unfold mkFn at h
  have hd : ds.length = n := by rw [← rd.length, hl]
  simp only [hd, if_true] at h
  have out : ∀ {r : D} {v : V} {env' : Env} {d0 : D} {sg' : St} {H' : Hp} {Z' : Zs} {O' Od : List Addr}, fin0 m env' = some d0 → RE K mg Z' H' (fun _ => vs.headD .non) sg' env' O' → RD K mg Z' H' v r Od → Vld Z' H' (O' ++ Od) → Tr Z H O Z' H' (O' ++ Od) →
      ∃ O2, RDs K mg Z' H' (v :: nFin m vs) (r :: dFin m d0) O2 ∧ Vld Z' H' O2 ∧ Tr Z H O Z' H' O2 := fun {r v env' d0 sg' H' Z' O' Od} e r1 r2 v1 t1 => by
    obtain ⟨Of, Or, p, rf⟩ := fin_of r1 e hp hm2
    have q : (O' ++ Od).Perm ((Od ++ Of) ++ Or) := by
      refine List.perm_append_comm.trans ?_
      rw [List.append_assoc]
      exact List.Perm.append_left Od p
    exact ⟨Od ++ Of, rds_cons r2 rf, v1.sub q, t1.less fun a mm => q.mem_iff.mpr (List.mem_append_left _ mm)⟩
  cases e : s (enter m k ds) with
  | stuck => rw [e] at h; exact h
  | br _ => rw [e] at h; exact h.elim
  | ct _ => rw [e] at h; exact h.elim
  | nx env' =>
    rw [e] at h
    unfold leave at h
    simp only at h
    cases e2 : fin0 m env' with
    | none => simp only [e2] at h
    | some d0 =>
      simp only [e2] at h
      intro sg' H' Z' O' A t
      obtain ⟨O2, q1, q2, q3⟩ := out e2 A.re (v := .non) (r := .p .non) (Od := []) (rd_p (by simp only [RP])) (by rw [List.append_nil]; exact A.vl) (by rw [List.append_nil]; exact t)
      exact h _ Z' H' O2 q1 q2 q3
  | rt r env' =>
    rw [e] at h
    unfold leave at h
    simp only at h
    cases e2 : fin0 m env' with
    | none => simp only [e2] at h
    | some d0 =>
      simp only [e2] at h
      intro v sg' H' Z' O' Od r1 r2 v1 t1
      obtain ⟨O2, q1, q2, q3⟩ := out e2 r1 r2 v1 t1
      exact h _ Z' H' O2 q1 q2 q3
  | exc x env' =>
    rw [e] at h
    unfold leave at h
    simp only at h
    cases e2 : fin0 m env' with
    | none => simp only [e2] at h
    | some d0 =>
      simp only [e2] at h
      intro sg' cls dx H' Z' O' A t rx
      obtain ⟨Of, Or, p, rf⟩ := fin_of A.re e2 hp hm2
      exact h cls dx Z' H' Of rf (A.vl.sub p) (t.less fun a mm => p.mem_iff.mpr (List.mem_append_left _ mm)) rx
end
section
variable {P : Program} {w : World} {K : PySem.W.Frag} {mg : Str → Option Value} {base : Heap} {x qual : Str} {params : Arguments} {body : List Stmt} {scope : Scope} {dvs : List V} {kws : List (Str × V)} {f : Addr} {fd : FuncData}
/-- THE RULE of a def -/
theorem fn_z {N ps : List Str} {k j n : Nat} {m : Bool} {s : SF} (F : FunD K x qual params body scope dvs kws f fd) (S : FnScope N ps scope) (hp : ps.length = n) (hN : N.length = j) (hm : m = true → 0 < n)
    (hb : ∀ (cdv : Value) (A : Around) (outer : List PySem.Env) (st : Shared) (H : Hp) (E : XK), Cz (cxOf (L2N.CX P w) P w K mg base N qual scope f cdv A outer st H E) (fun cls d _ H => E cls d H) k → JSs (cxOf (L2N.CX P w) P w K mg base N qual scope f cdv A outer st H E) (fun cls d _ H => E cls d H) body s) :
    FnOk P w K mg base (L2N.CX P w) (k + 1) f fd ps (Sat K mg m n (mkFn m n j s)) :=
  F.ok S (fun vs H Q E h => by rw [hp]; exact h.1) fun cdv A outer st H vs Q E hr h =>
    ⟨_, hb cdv A outer st H E ⟨rfl, L2N.takes_of rfl rfl rfl rfl, hr, passes_of rfl⟩, body_ok hN hm h⟩
end
section
variable {X : Cx} {W : WX} {k j n : Nat} {f : Addr} {fd : FuncData} {ps : List Str} {h : Fn} {x : Str} {p pos : Pos} {e : Expr} {es : List Expr} {a : Arg} {as : List Arg} {i : Nat}
theorem je_call (C : Cz X W k) (F : FnOk X.prog X.w X.K X.mg X.base (L2N.CX X.prog X.w) j f fd ps (Sat X.K X.mg false n h)) (hj : j ≤ k) (hg : Gl X x) (hm : X.mg x = some (.ref f)) (hk : PySem.W.keepIn X.K (.ref f) = true) (hb : Binds X.K fd ps [])
    (ha : JAs X W (e :: es) as) (hn : as.length = n) (hdb : (x == ("__debug__" : Str)) = false := by decide) (he : starEach (e :: es) X.env = (false, eval e X.env) :: starEach es X.env := by rfl) (hpl : (backTo pos (starEach es X.env)).any (·.1) = false := by rfl) :
    JE X W (.Call (.Name x p) (e :: es) [] pos) (eOp as h) := by
  refine PEimp (pe_callS (E := WE W) F (C.hr.mono hj) hg hm hk hb (fun sg => L2N.passAt C.tk sg) ha hdb he hpl) fun sg H Q q => ?_
  have q1 := eOp_ok q
  rw [hn] at q1
  exact q1
theorem je_callM (C : Cz X W k) (F : FnOk X.prog X.w X.K X.mg X.base (L2N.CX X.prog X.w) j f fd ps (Sat X.K X.mg true n h)) (hj : j ≤ k) (hg : Gl X x) (hm : X.mg x = some (.ref f)) (hk : PySem.W.keepIn X.K (.ref f) = true) (hb : Binds X.K fd ps [])
    (hv : PE X e (tVar i)) (ha : JAs X W es as) (hn : as.length + 1 = n) (hdb : (x == ("__debug__" : Str)) = false := by decide) (he : starEach (e :: es) X.env = (false, eval e X.env) :: starEach es X.env := by rfl) (hpl : (backTo pos (starEach es X.env)).any (·.1) = false := by rfl) :
    JE X W (.Call (.Name x p) (e :: es) [] pos) (eOpM i as h) := by
  refine PEimp (pe_callS (E := WE W) F (C.hr.mono hj) hg hm hk hb (fun sg => L2N.passAt C.tk sg) (pa_cons hv ha he) hdb he hpl) fun sg H Q q => ?_
  obtain ⟨u, eu, q1⟩ := eOpM_ok q
  rw [hn] at q1
  exact ⟨u, eu, q1⟩
theorem je_call0 (C : Cz X W k) (F : FnOk X.prog X.w X.K X.mg X.base (L2N.CX X.prog X.w) j f fd ps (Sat X.K X.mg false 0 h)) (hj : j ≤ k) (hg : Gl X x) (hm : X.mg x = some (.ref f)) (hk : PySem.W.keepIn X.K (.ref f) = true) (hb : Binds X.K fd ps [])
    (hdb : (x == ("__debug__" : Str)) = false := by decide) : JE X W (.Call (.Name x p) [] [] pos) (eOp [] h) := by
  refine ⟨fun pins s sg H Q I hh => ?_⟩
  have q1 := rAs_nil (eOp_ok hh)
  refine wpAny_Call_Name_kw (ld_glob I hg hm ?_ hdb)
  exact PySem.W.callWith_K0 I.kIn hk (run_fnS (us := []) (vs := []) (E := WE W) F (C.hr.mono hj) hb (L2N.passAt C.tk sg) I .nil q1)
end
end Z
set_option Elab.async false
set_option linter.all false
set_option maxRecDepth 100000
namespace Z
open PySem L2
/-- new things beside; what was stands as it was -/
structure Grow (Z : Zs) (H : Hp) (Z' : Zs) (H' : Hp) : Prop where
  z1 : ∀ a, Z a → Z' a
  z2 : ∀ a, Z' a → Z a ∨ (H a = none ∧ H' a ≠ none)
  kp : ∀ a o, H a = some o → H' a = some o
  tn : ∀ a ps, H' a = some (.tbl ps) → H a = some (.tbl ps)
theorem Grow.refl (Z : Zs) (H : Hp) : Grow Z H Z H := ⟨fun _ h => h, fun _ h => .inl h, fun _ _ h => h, fun _ _ h => h⟩
theorem Grow.trans {Z Z1 Z2 : Zs} {H H1 H2 : Hp} (g : Grow Z H Z1 H1) (u : Grow Z1 H1 Z2 H2) : Grow Z H Z2 H2 where
  z1 a h := u.z1 a (g.z1 a h)
  z2 a h := by
    rcases u.z2 a h with q | ⟨q1, q2⟩
    · rcases g.z2 a q with z | ⟨z1, z2⟩
      · exact .inl z
      · refine .inr ⟨z1, ?_⟩
        cases e : H1 a with
        | none => exact (z2 e).elim
        | some o => rw [u.kp a o e]; exact fun z => by cases z
    · refine .inr ⟨?_, q2⟩
      cases e : H a with
      | none => rfl
      | some o => rw [g.kp a o e] at q1; cases q1
  kp a o h := u.kp a o (g.kp a o h)
  tn a ps h := g.tn a ps (u.tn a ps h)
theorem Grow.tb {Z Z' : Zs} {H H' : Hp} (g : Grow Z H Z' H') (h : TbOk H) : TbOk H' :=
  fun p m => LamX.TabS.ext (h p m) g.kp
theorem upd_tn {H : Hp} {p : Addr} {o : HO} (ho : notTb o) : ∀ a ps, upd H p o a = some (.tbl ps) → H a = some (.tbl ps) := fun a ps e => by
  by_cases q : a = p
  · subst q; rw [upd_same] at e; exact (ho ps (Option.some.inj e)).elim
  · rw [upd_ne q] at e; exact e
theorem Grow.Kp {Z Z' : Zs} {H H' : Hp} {O : List Addr} (g : Grow Z H Z' H') : Kp Z O H H' := fun a o e _ _ => g.kp a o e
theorem Grow.new {Z : Zs} {H : Hp} {p : Addr} {o : HO} (h : H p = none) (ho : notTb o) : Grow Z H Z (upd H p o) := ⟨fun _ q => q, fun _ q => .inl q, fun a u e => by rw [upd_ne (ne_of_none e h)]; exact e, upd_tn ho⟩
theorem Grow.newZ {Z : Zs} {H : Hp} {p : Addr} {o : HO} (h : H p = none) (ho : notTb o) : Grow Z H (plusZ Z [p]) (upd H p o) := ⟨fun _ q => .inl q, fun a q => by
  rcases q with q | q
  · exact .inl q
  · have e : a = p := by simpa using q
    subst e
    exact .inr ⟨h, by rw [upd_same]; exact fun z => by cases z⟩, fun a u e => by rw [upd_ne (ne_of_none e h)]; exact e, upd_tn ho⟩
theorem Grow.Tr {Z Z' : Zs} {H H' : Hp} {O : List Addr} (g : Grow Z H Z' H') : Tr Z H O Z' H' O where
  z1 := g.z1
  z2 a h := by
    rcases g.z2 a h with q | q
    · exact .inl q
    · exact .inr (.inr q.1)
  o1 a h := .inl h
  kp a o h _ _ := g.kp a o h
  tb := g.tb
  nn a h := by
    cases e : H a with
    | none => rfl
    | some o => rw [g.kp a o e] at h; cases h
section
variable {K : PySem.W.Frag} {mg : Str → Option Value} {W : WX} {ph : Nat → V} {Z Z' : Zs} {H H' : Hp}
theorem Vld.grow {O : List Addr} (v : Vld Z H O) (g : Grow Z H Z' H') : Vld Z' H' O where
  tb := g.tb v.tb
  nd := v.nd
  nz a h q := by
    rcases g.z2 a q with z | ⟨z, _⟩
    · exact v.nz a h z
    · have m := v.mu a h
      rw [z] at m
      exact m
  zs a q := by
    rcases g.z2 a q with z | ⟨_, z⟩
    · intro e
      cases e2 : H a with
      | none => exact v.zs a z e2
      | some o => rw [g.kp a o e2] at e; cases e
    · exact z
  mu a h := by
    have m := v.mu a h
    cases e2 : H a with
    | none => rw [e2] at m; exact m.elim
    | some o => rw [g.kp a o e2]; rw [e2] at m; exact m
theorem At.grow {sg : St} {env : Env} {O : List Addr} (A : At K mg ph Z H sg env O) (g : Grow Z H Z' H') : At K mg ph Z' H' sg env O := ⟨A.re.kp g.z1 g.Kp, A.vl.grow g⟩
theorem RP.grow {x : P} {v : V} (h : RP K mg Z H v x) (g : Grow Z H Z' H') : RP K mg Z' H' v x := h.kp g.Kp g.z1
theorem RPs.grow {xs : List P} {us : List V} (h : RPs K mg Z H us xs) (g : Grow Z H Z' H') : RPs K mg Z' H' us xs := h.kp g.Kp g.z1
end
/-- a value that comes of looking, from (Z, H) on -/
def Got (K : PySem.W.Frag) (mg : Str → Option Value) (Z : Zs) (H : Hp) (x : P) (Q : VK) : Prop := ∀ v Z' H', Grow Z H Z' H' → RP K mg Z' H' v x → Q v H'
def rV (K : PySem.W.Frag) (mg : Str → Option Value) (is : List Nat) (g : VF) : TE := fun sg H Q => ∃ env ph Z O, At K mg ph Z H sg env O ∧ (∀ i ∈ is, ownAt env i = false) ∧ ∃ x, g env = some x ∧ Got K mg Z H x Q
/-- an expression that looks at the slots is -/
structure JF (X : Cx) (e : Expr) (is : List Nat) (g : VF) : Prop where
  run : PE X e (rV X.K X.mg is g)
  inv : ∀ env i, g (freezeAt env i) = g env
structure JFs (X : Cx) (es : List Expr) (is : List Nat) (gs : List VF) : Prop where
  run : PA X es fun sg H Q => ∃ env ph Z O, At X.K X.mg ph Z H sg env O ∧ (∀ i ∈ is, ownAt env i = false) ∧ ∃ xs, gL gs env = some xs ∧ ∀ vs Z' H', Grow Z H Z' H' → RPs X.K X.mg Z' H' vs xs → Q vs H'
  inv : ∀ env i, gL gs (freezeAt env i) = gL gs env
def OpV (X : Cx) (f : Value → Value → Sem Value) (h : P → P → Option P) : Prop := OpR X f fun x y H Q => ∃ Z a b r, RP X.K X.mg Z H x a ∧ RP X.K X.mg Z H y b ∧ h a b = some r ∧ Got X.K X.mg Z H r Q
def UnV (X : Cx) (f : Value → Sem Value) (h : P → Option P) : Prop := UnR X f fun x H Q => ∃ Z a r, RP X.K X.mg Z H x a ∧ h a = some r ∧ Got X.K X.mg Z H r Q
def CallV (X : Cx) (f : Value) (h : List P → Option P) : Prop := CallR X f fun xs H Q => ∃ Z as r, RPs X.K X.mg Z H xs as ∧ h as = some r ∧ Got X.K X.mg Z H r Q
section
variable {K : PySem.W.Frag} {mg : Str → Option Value} {ph : Nat → V} {Z : Zs} {H : Hp}
theorem freezeAt_freezes_own : ∀ {is : List Nat} {env : Env} {j : Nat}, (j ∈ is ∨ ownAt env j = false) → ownAt (freezes env (vArgs is)) j = false
  | [], env, j, h => by
    rcases h with h | h
    · cases h
    · exact h
  | i :: is, env, j, h => by
    show ownAt (freezes (freezeAt env i) (vArgs is)) j = false
    refine freezeAt_freezes_own ?_
    rcases h with h | h
    · rcases List.mem_cons.mp h with e | e
      · subst e
        refine .inr ?_
        unfold freezeAt
        cases e : env[j]? with
        | none => unfold ownAt; rw [e]
        | some s =>
          have lt : j < env.length := (List.getElem?_eq_some_iff.mp e).1
          cases s with
          | no => unfold ownAt; rw [e]
          | var d => unfold ownAt; simp only [List.getElem?_set_self lt]
          | fix d => unfold ownAt; simp only [List.getElem?_set_self lt]
          | lock x => unfold ownAt; simp only [List.getElem?_set_self lt]
      · exact .inl e
    · exact .inr (ownAt_freeze h)
theorem inv_freezes {g : VF} (hi : ∀ env i, g (freezeAt env i) = g env) : ∀ {is : List Nat} {env : Env}, g (freezes env (vArgs is)) = g env
  | [], _ => rfl
  | i :: is, env => by
    show g (freezes (freezeAt env i) (vArgs is)) = g env
    rw [inv_freezes hi, hi]
end
section
variable {X : Cx} {W : WX} {pos : Pos} {e a b : Expr} {es : List Expr} {is js : List Nat} {g ga gb : VF} {gs : List VF}
theorem rE_w {K : PySem.W.Frag} {mg : Str → Option Value} {sg : St} {H : Hp} {Q : VK} (hi : ∀ env i, g (freezeAt env i) = g env) (h : rE K mg W (eW is g) sg H Q) : rV K mg is g sg H Q := by
  obtain ⟨env, ph, Z, O, A, h⟩ := h
  unfold eW at h
  cases e : g env with
  | none => simp only [e] at h
  | some x =>
    simp only [e] at h
    obtain ⟨Ob, O2, p, rf, nb, _⟩ := A.freezes (as := vArgs is)
    have vp := A.vl.part p
    refine ⟨freezes env (vArgs is), ph, plusZ Z Ob, O2, ⟨rf, vp⟩, fun i m => freezeAt_freezes_own (.inl m), x, by rw [inv_freezes hi]; exact e, fun v Z' H' gr rp => ?_⟩
    have nz : ∀ a ∈ Ob, ¬ Z a := fun a m q => A.vl.nz a (p.mem_iff.mpr (List.mem_append_left _ m)) q
    have back : (borrows env (vArgs is) = true → clean x = true) → Q v H' ∨ True → (∀ v H' Z' O' Od, RE K mg Z' H' ph sg env O' → RD K mg Z' H' v (.p x) Od → Vld Z' H' (O' ++ Od) → Tr Z H O Z' H' (O' ++ Od) → Q v H') → Q v H' := fun hc _ hq => by
      have gr2 : Grow Z H (fun a => Z' a ∧ a ∉ Ob) H' := ⟨fun a q => ⟨gr.z1 a (.inl q), fun m => nz a m q⟩, fun a q => by
        rcases gr.z2 a q.1 with (z | z) | z
        · exact .inl z
        · exact (q.2 z).elim
        · exact .inr z, gr.kp, gr.tn⟩
      have rx : RP K mg (fun a => Z' a ∧ a ∉ Ob) H' v x := by
        cases hb : borrows env (vArgs is) with
        | true => exact rp.cl (hc hb)
        | false =>
          have e0 := nb hb
          subst e0
          exact rp.mono fun a q => ⟨q, fun m => by cases m⟩
      have A2 := A.grow gr2
      exact hq v H' _ O [] A2.re (rd_p rx) (by rw [List.append_nil]; exact A2.vl) (by rw [List.append_nil]; exact gr2.Tr)
    unfold settle at h
    cases hb : borrows env (vArgs is) with
    | false =>
      rw [hb] at h
      exact back (fun z => by rw [hb] at z; cases z) (.inr trivial) h
    | true =>
      rw [hb] at h
      cases hc : cleanD (.p x) with
      | true =>
        rw [hc] at h
        exact back (fun _ => by simpa only [cleanD] using hc) (.inr trivial) h
      | false =>
        rw [hc] at h
        have A2 : At K mg ph Z' H' sg (freezes env (vArgs is)) O2 := At.grow ⟨rf, vp⟩ gr
        refine h v H' Z' O2 [] A2.re (rd_p rp) (by rw [List.append_nil]; exact A2.vl) ?_
        rw [List.append_nil]
        have t1 : Tr Z H O (plusZ Z Ob) H O2 := ⟨fun a q => .inl q, fun a q => q.elim .inl fun m => .inr (.inl (p.mem_iff.mpr (List.mem_append_left _ m))), fun a m => .inl (p.mem_iff.mpr (List.mem_append_right _ m)), fun _ _ q _ _ => q, fun _ q => q, fun q => q⟩
        exact t1.trans gr.Tr
theorem je_w (h : JF X e is g) : JE X W e (eW is g) := PEimp h.run fun sg H Q q => rE_w h.inv q
theorem jt_w' (h : JF X e is g) (he : ∀ whole, isTrue e X.env whole = (do let v ← whole; standAt e.pos; holding [v] (truthy v)) := by intro _; rfl) : JT X W e (tE (eW is g)) := jt_val (je_w h) he
theorem rV_c {K : PySem.W.Frag} {mg : Str → Option Value} {x : P} {v : V} (hv : ∀ Z H, RP K mg Z H v x) {sg : St} {H : Hp} {Q : VK} (h : rV K mg is (gC x) sg H Q) : Q v H := by
  obtain ⟨env, ph, Z, O, A, _, y, ey, h⟩ := h
  cases ey
  exact h v Z H (Grow.refl ..) (hv Z H)
theorem jf_int {i : Int} {j : Nat} : JF X (.Constant (.int i) j pos) [] (gC (.int i)) := ⟨PEimp pe_int fun sg H Q h => rV_c (fun _ _ => by simp only [RP]) h, fun _ _ => rfl⟩
theorem jf_bl {i : Bool} {j : Nat} : JF X (.Constant (.bool i) j pos) [] (gC (.bl i)) := ⟨PEimp pe_bl fun sg H Q h => rV_c (fun _ _ => by simp only [RP]) h, fun _ _ => rfl⟩
theorem jf_non {j : Nat} : JF X (.Constant .none j pos) [] (gC .non) := ⟨PEimp pe_non fun sg H Q h => rV_c (fun _ _ => by simp only [RP]) h, fun _ _ => rfl⟩
theorem jf_str {x : Str} {j : Nat} : JF X (.Constant (.str x) j pos) [] (gC (.str x)) := ⟨PEimp pe_str fun sg H Q h => rV_c (fun _ _ => by simp only [RP]) h, fun _ _ => rfl⟩
theorem jf_glob {x : Str} {v : V} {y : P} {u : Value} (hg : Gl X x) (hm : X.mg x = some u) (r : RelV v u) (hv : ∀ Z H, RP X.K X.mg Z H v y) (hd : (x == ("__debug__" : Str)) = false := by decide) : JF X (.Name x pos) [] (gC y) :=
  ⟨PEimp (pe_glob hg hm r hd) fun sg H Q h => rV_c hv h, fun _ _ => rfl⟩
theorem gV_inv {i : Nat} (env : Env) (j : Nat) : gV i (freezeAt env j) = gV i env := by
  unfold gV
  unfold freezeAt
  by_cases q : j = i
  · subst q
    cases e : env[j]? with
    | none => simp only [e]
    | some s =>
      have lt : j < env.length := (List.getElem?_eq_some_iff.mp e).1
      cases s with
      | no => simp only [e]
      | var d => simp only [List.getElem?_set_self lt, slotD, Option.map_some]; rfl
      | fix d => simp only [List.getElem?_set_self lt, slotD, Option.map_some]; rfl
      | lock x => simp only [List.getElem?_set_self lt, slotD, Option.map_some]
  · cases e : env[j]? with
    | none => rfl
    | some s => cases s <;> first | rfl | simp only [List.getElem?_set_ne q]
theorem rV_v {K : PySem.W.Frag} {mg : Str → Option Value} {i : Nat} {sg : St} {H : Hp} {Q : VK} (h : rV K mg [i] (gV i) sg H Q) : tVar i sg H Q := by
  obtain ⟨env, ph, Z, O, A, hn, x, ex, h⟩ := h
  unfold gV at ex
  cases e : env[i]? with
  | none => rw [e] at ex; cases ex
  | some s =>
    rw [e] at ex
    cases ed : slotD s with
    | none => simp only [ed, Option.map_none] at ex; cases ex
    | some d =>
      simp only [ed, Option.map_some] at ex
      have ex' : vw d = x := Option.some.inj ex
      obtain ⟨y, ey⟩ : ∃ y, d = .p y := ownAt_no e ed (hn i List.mem_cons_self)
      subst ey
      have ex2 : y = x := ex'
      subst ex2
      obtain ⟨v, O1, Or, ev, r, pp, _⟩ := A.re.at e
      obtain ⟨u, eu, ru⟩ := r.val ed
      exact ⟨u, by rw [ev, eu], h u Z H (Grow.refl ..) (of_rd_p ru).2⟩
theorem jf_v {i : Nat} (h : PE X e (tVar i)) : JF X e [i] (gV i) := ⟨PEimp h fun sg H Q q => rV_v q, gV_inv⟩
theorem rV_bind {K : PySem.W.Frag} {mg : Str → Option Value} {k : P → VF} {u : VF} (hu : ∀ env, u env = (ga env).bind fun x => k x env) {sg : St} {H : Hp} {Q : VK} (h : rV K mg (is ++ js) u sg H Q) :
    rV K mg is ga sg H fun v H1 => ∃ env ph Z O x, At K mg ph Z H1 sg env O ∧ (∀ i ∈ js, ownAt env i = false) ∧ RP K mg Z H1 v x ∧ ∃ y, k x env = some y ∧ Got K mg Z H1 y Q := by
  obtain ⟨env, ph, Z, O, A, hn, y, ey, h⟩ := h
  rw [hu] at ey
  cases ea : ga env with
  | none => rw [ea] at ey; cases ey
  | some x =>
    rw [ea] at ey
    exact ⟨env, ph, Z, O, A, fun i m => hn i (List.mem_append_left _ m), x, ea, fun v Z' H' gr rp => ⟨env, ph, Z', O, x, A.grow gr, fun i m => hn i (List.mem_append_right _ m), rp, y, ey, fun v2 Z2 H2 gr2 rp2 => h v2 Z2 H2 (gr.trans gr2) rp2⟩⟩
theorem rV_mono {K : PySem.W.Frag} {mg : Str → Option Value} {sg : St} {H : Hp} {Q Q' : VK} (hq : ∀ v H', Q v H' → Q' v H') (h : rV K mg is g sg H Q) : rV K mg is g sg H Q' := by
  obtain ⟨env, ph, Z, O, A, hn, y, ey, h⟩ := h
  exact ⟨env, ph, Z, O, A, hn, y, ey, fun v Z' H' gr rp => hq _ _ (h v Z' H' gr rp)⟩
theorem rV_2 {K : PySem.W.Frag} {mg : Str → Option Value} {hh : P → P → Option P} {sg : St} {H : Hp} {Q : VK} (h : rV K mg (is ++ js) (g2 hh ga gb) sg H Q) :
    tOp (fun x y H Q => ∃ Z a b r, RP K mg Z H x a ∧ RP K mg Z H y b ∧ hh a b = some r ∧ Got K mg Z H r Q) (rV K mg is ga) (rV K mg js gb) sg H Q :=
  rV_mono (fun v H1 ⟨env, ph, Z, O, x, A, hn, rp, y, ey, hg⟩ => by
    cases eb : gb env with
    | none => rw [eb] at ey; cases ey
    | some z =>
      rw [eb] at ey
      exact ⟨env, ph, Z, O, A, hn, z, eb, fun v2 Z2 H2 gr rp2 => ⟨Z2, x, z, y, rp.grow gr, rp2, ey, fun v3 Z3 H3 gr3 rp3 => hg v3 Z3 H3 (gr.trans gr3) rp3⟩⟩) (rV_bind (k := fun x env => (gb env).bind fun y => hh x y) (fun env => rfl) h)
theorem rV_1 {K : PySem.W.Frag} {mg : Str → Option Value} {hh : P → Option P} {sg : St} {H : Hp} {Q : VK} (h : rV K mg is (g1 hh ga) sg H Q) :
    rV K mg is ga sg H fun x H1 => ∃ Z a r, RP K mg Z H1 x a ∧ hh a = some r ∧ Got K mg Z H1 r Q := by
  have h' : rV K mg (is ++ []) (g1 hh ga) sg H Q := by rw [List.append_nil]; exact h
  exact rV_mono (fun v H1 ⟨env, ph, Z, O, x, A, hn, rp, y, ey, hg⟩ => ⟨Z, x, y, rp, ey, hg⟩) (rV_bind (k := fun x env => hh x) (fun env => rfl) h')
theorem g2_inv {hh : P → P → Option P} (ia : ∀ env i, ga (freezeAt env i) = ga env) (ib : ∀ env i, gb (freezeAt env i) = gb env) (env : Env) (i : Nat) : g2 hh ga gb (freezeAt env i) = g2 hh ga gb env := by
  unfold g2
  rw [ia, ib]
theorem g1_inv {hh : P → Option P} (ia : ∀ env i, ga (freezeAt env i) = ga env) (env : Env) (i : Nat) : g1 hh ga (freezeAt env i) = g1 hh ga env := by
  unfold g1
  rw [ia]
theorem jf_bin {l r : Expr} {op : Operator} {hh : P → P → Option P} (ho : OpV X (binaryOp op) hh) (ha : JF X l is ga) (hb : JF X r js gb) : JF X (.BinOp l op r pos) (is ++ js) (g2 hh ga gb) :=
  ⟨PEimp (pe_op ho ha.run hb.run) fun sg H Q q => rV_2 q, g2_inv ha.inv hb.inv⟩
theorem jf_cmp {l r : Expr} {op : CmpOp} {hh : P → P → Option P} (ho : OpV X (compareOp op) hh) (ha : JF X l is ga) (hb : JF X r js gb) (hm : behindInMarks op r = false) : JF X (.Compare l [op] [r] pos) (is ++ js) (g2 hh ga gb) :=
  ⟨PEimp (pe_cmpR ho ha.run hb.run hm) fun sg H Q q => rV_2 q, g2_inv ha.inv hb.inv⟩
theorem jf_un {op : UnaryOp} {hh : P → Option P} (ho : UnV X (unaryOp op) hh) (ha : JF X e is ga) : JF X (.UnaryOp op e pos) is (g1 hh ga) :=
  ⟨PEimp (pe_un ho ha.run) fun sg H Q q => rV_1 q, g1_inv ha.inv⟩
/-- a comparison as a test: the value is a bool -/
theorem jtf_cmp {l r : Expr} {op : CmpOp} {hh : P → P → Option P} (ho : OpV X (compareOp op) hh) (ha : JF X l is ga) (hb : JF X r js gb) (hm : behindInMarks op r = false) (hbl : ∀ a b r, hh a b = some r → ∃ c, r = .bl c) :
    JT X W (.Compare l [op] [r] pos) (tE (eW (is ++ js) (g2 hh ga gb))) := by
  refine PTimp (pt_cmpR ho ha.run hb.run hm) fun sg H Q hq => ?_
  show tOp _ _ _ sg H fun x H' => ∃ k, x = .bl k ∧ Q k H'
  refine rV_2 (rE_w (W := W) (g2_inv ha.inv hb.inv) ?_)
  obtain ⟨env, ph, Z, O, A, q⟩ := hq
  refine ⟨env, ph, Z, O, A, ?_⟩
  unfold tE at q
  unfold eW at q ⊢
  cases e : g2 hh ga gb env with
  | none => simp only [e, ER.bind] at q
  | some x =>
    simp only [e, ER.bind] at q ⊢
    intro v H' Z' O' Od r1 r2 r3 r4
    have hx : ∃ c, x = .bl c := by
      unfold g2 at e
      cases ea : ga env with
      | none => rw [ea] at e; cases e
      | some y =>
        rw [ea] at e
        cases eb : gb env with
        | none => rw [eb] at e; cases e
        | some z => rw [eb] at e; exact hbl y z x e
    obtain ⟨c, ec⟩ := hx
    subst ec
    simp only [truth] at q
    have rv := (of_rd_p r2).2
    simp only [RP] at rv
    exact ⟨c, rv, q H' Z' O' ⟨r1, r3.left⟩ (r4.less fun a m => List.mem_append_left _ m)⟩
theorem jfs_nil : JFs X [] [] [] := ⟨PAimp pa_nil fun sg H Q ⟨env, ph, Z, O, A, _, xs, ex, h⟩ => by
  cases ex
  exact h [] Z H (Grow.refl ..) (by simp only [RPs]), fun _ _ => rfl⟩
theorem jfs_cons (ha : JF X e is g) (hr : JFs X es js gs) (hs : starEach (e :: es) X.env = (false, eval e X.env) :: starEach es X.env := by rfl) : JFs X (e :: es) (is ++ js) (g :: gs) := by
  refine ⟨PAimp (pa_cons ha.run hr.run hs) fun sg H Q ⟨env, ph, Z, O, A, hn, xs, ex, h⟩ => ?_, fun env i => ?_⟩
  · unfold gL at ex
    cases ea : g env with
    | none => rw [ea] at ex; cases ex
    | some x =>
      rw [ea] at ex
      cases eb : gL gs env with
      | none => simp only [eb] at ex; cases ex
      | some ys =>
        simp only [eb] at ex
        cases ex
        refine ⟨env, ph, Z, O, A, fun i m => hn i (List.mem_append_left _ m), x, ea, fun v Z' H' gr rp => ?_⟩
        refine ⟨env, ph, Z', O, A.grow gr, fun i m => hn i (List.mem_append_right _ m), ys, eb, fun vs Z2 H2 gr2 rps => ?_⟩
        exact h (v :: vs) Z2 H2 (gr.trans gr2) (by simp only [RPs]; exact ⟨rp.grow gr2, rps⟩)
  · unfold gL
    rw [ha.inv, hr.inv]
theorem jf_tup {j : Nat} (h : JFs X es is gs) : JF X (.Tuple es j pos) is (gTu gs) := by
  refine ⟨PEimp (pe_tup h.run) fun sg H Q ⟨env, ph, Z, O, A, hn, x, ex, hq⟩ => ?_, fun env i => by unfold gTu; rw [h.inv]⟩
  unfold gTu at ex
  cases eb : gL gs env with
  | none => rw [eb] at ex; cases ex
  | some xs =>
    rw [eb] at ex
    simp only [Option.bind_some] at ex
    split at ex
    · rename_i hl
      cases ex
      refine ⟨env, ph, Z, O, A, hn, xs, eb, fun vs Z' H' gr rps => ⟨?_, fun p hp => ?_⟩⟩
      · rw [rps.length, sizeLine_eq]; exact hl
      · refine hq _ _ _ (gr.trans (Grow.new hp (by intro _ z; cases z))) ?_
        simp only [RP]
        exact ⟨p, vs, rfl, SqI.of upd_same, rps.grow (Grow.new hp (by intro _ z; cases z))⟩
    · cases ex
theorem jf_callB {id : String} {x : Str} {p : Pos} {hh : List P → Option P} (hc : CallV X (.builtin id) hh) (hg : Gl X x) (hm : X.mg x = none) (hv : bootBuiltins x = some (.builtin id)) (h : JFs X (e :: es) is gs) (hn : x ≠ "__name__" := by decide) (hdb : (x == ("__debug__" : Str)) = false := by decide)
    (he : starEach (e :: es) X.env = (false, eval e X.env) :: starEach es X.env := by rfl) (hpl : (backTo pos (starEach es X.env)).any (·.1) = false := by rfl) : JF X (.Call (.Name x p) (e :: es) [] pos) is (gN hh gs) := by
  refine ⟨PEimp (pe_callB hc hg hm hv h.run hn hdb he hpl) fun sg H Q ⟨env, ph, Z, O, A, hn, y, ey, hq⟩ => ?_, fun env i => by unfold gN; rw [h.inv]⟩
  unfold gN at ey
  cases eb : gL gs env with
  | none => rw [eb] at ey; cases ey
  | some xs =>
    rw [eb] at ey
    exact ⟨env, ph, Z, O, A, hn, xs, eb, fun vs Z' H' gr rps => ⟨Z', xs, y, rps, ey, fun v Z2 H2 gr2 rp => hq v Z2 H2 (gr.trans gr2) rp⟩⟩
theorem jf_callTy {id : String} {x : Str} {p : Pos} {hh : List P → Option P} (hc : CallV X (.type id) hh) (hg : Gl X x) (hm : X.mg x = none) (hv : bootBuiltins x = some (.type id)) (h : JFs X (e :: es) is gs) (hn : x ≠ "__name__" := by decide) (hdb : (x == ("__debug__" : Str)) = false := by decide)
    (he : starEach (e :: es) X.env = (false, eval e X.env) :: starEach es X.env := by rfl) (hpl : (backTo pos (starEach es X.env)).any (·.1) = false := by rfl) : JF X (.Call (.Name x p) (e :: es) [] pos) is (gN hh gs) := by
  refine ⟨PEimp (pe_callTy hc hg hm hv h.run hn hdb he hpl) fun sg H Q ⟨env, ph, Z, O, A, hn, y, ey, hq⟩ => ?_, fun env i => by unfold gN; rw [h.inv]⟩
  unfold gN at ey
  cases eb : gL gs env with
  | none => rw [eb] at ey; cases ey
  | some xs =>
    rw [eb] at ey
    exact ⟨env, ph, Z, O, A, hn, xs, eb, fun vs Z' H' gr rps => ⟨Z', xs, y, rps, ey, fun v Z2 H2 gr2 rp => hq v Z2 H2 (gr.trans gr2) rp⟩⟩
theorem RDs.seal {K : PySem.W.Frag} {mg : Str → Option Value} {Z : Zs} {H : Hp} {O : List Addr} {us : List V} {ds : List D} (h : RDs K mg Z H us ds O) : RPs K mg (plusZ Z O) H us (vws ds) := RDs.vw (fun a q => .inl q) (fun a m => .inr m) h
theorem got_sat {K : PySem.W.Frag} {mg : Str → Option Value} {Z : Zs} {H : Hp} {O : List Addr} {r : P} {Q : VK} {vs : List V} (vl : Vld Z H O)
    (hq : ∀ v Z' H' O', RDs K mg Z' H' (v :: nFin false vs) (.p r :: dFin false (.p .non)) O' → Vld Z' H' O' → Tr Z H O Z' H' O' → Q v H') : Got K mg (plusZ Z O) H r Q := fun v Z' H' gr rp => by
  have v0 : Vld (plusZ Z O) H [] := vl.part (O := O) (Ob := O) (O2 := []) (by rw [List.append_nil])
  have t0 : Tr Z H O (plusZ Z O) H [] := by
    refine ⟨fun a q => .inl q, fun a q => ?_, fun a m => ?_, fun _ _ q _ _ => q, fun _ q => q, fun q => q⟩
    · rcases q with q | q
      · exact .inl q
      · exact .inr (.inl q)
    · cases m
  refine hq v Z' H' [] ?_ (v0.grow gr) (t0.trans gr.Tr)
  unfold nFin dFin
  simp only [Bool.false_eq_true, if_false]
  simp only [RDs]
  exact ⟨[], [], rd_p rp, rfl, rfl⟩
theorem opz_of {f : Value → Value → Sem Value} {hh : P → P → Option P} (h : OpV X f hh) : OpZ X f (lift2 hh) := by
  intro pins s sg H x y v u Q I rx ry hq
  obtain ⟨E, hl, Z, O, ds, rd, vl, hq⟩ := hq
  refine h pins s sg H x y v u Q I rx ry ?_
  have rp := rd.seal
  match ds, rd, hq, rp with
  | [a, b], rd, hq, rp =>
    unfold lift2 at hq
    simp only [vws, RPs] at rp
    cases e : hh (vw a) (vw b) with
    | none => simp only [e] at hq
    | some r =>
      simp only [e] at hq
      exact ⟨plusZ Z O, vw a, vw b, r, rp.1, rp.2.1, e, got_sat vl hq⟩
  | [], rd, hq, rp => exact hq.elim
  | [_], rd, hq, rp => exact hq.elim
  | _ :: _ :: _ :: _, rd, hq, rp => exact hq.elim
theorem unz_of {f : Value → Sem Value} {hh : P → Option P} (h : UnV X f hh) : UnZ X f (lift1 hh) := by
  intro pins s sg H x v Q I rx hq
  obtain ⟨E, hl, Z, O, ds, rd, vl, hq⟩ := hq
  refine h pins s sg H x v Q I rx ?_
  have rp := rd.seal
  match ds, rd, hq, rp with
  | [a], rd, hq, rp =>
    unfold lift1 at hq
    simp only [vws, RPs] at rp
    cases e : hh (vw a) with
    | none => simp only [e] at hq
    | some r =>
      simp only [e] at hq
      exact ⟨plusZ Z O, vw a, r, rp.1, e, got_sat vl hq⟩
  | [], rd, hq, rp => exact hq.elim
  | _ :: _ :: _, rd, hq, rp => exact hq.elim
theorem callz_of {f : Value} {n : Nat} {hh : List P → Option P} (h : CallV X f hh) : CallZ X f n (liftN hh) := by
  intro pins s sg H xs us Q I rx hq
  obtain ⟨E, hl, Z, O, ds, rd, vl, hq⟩ := hq
  refine h pins s sg H xs us Q I rx ?_
  have rp := rd.seal
  unfold liftN at hq
  cases e : hh (vws ds) with
  | none => simp only [e] at hq
  | some r =>
    simp only [e] at hq
    exact ⟨plusZ Z O, vws ds, r, rp, e, got_sat vl hq⟩
theorem je_callB {n : Nat} {id : String} {x : Str} {p : Pos} {h : Fn} {as : List Arg} (hc : CallZ X (.builtin id) n h) (hg : Gl X x) (hm : X.mg x = none) (hv : bootBuiltins x = some (.builtin id)) (ha : JAs X W (e :: es) as) (hn : as.length = n) (hnn : x ≠ "__name__" := by decide) (hdb : (x == ("__debug__" : Str)) = false := by decide)
    (he : starEach (e :: es) X.env = (false, eval e X.env) :: starEach es X.env := by rfl) (hpl : (backTo pos (starEach es X.env)).any (·.1) = false := by rfl) : JE X W (.Call (.Name x p) (e :: es) [] pos) (eOp as h) :=
  PEimp (pe_callB hc hg hm hv ha hnn hdb he hpl) fun sg H Q q => by
    have q1 := eOp_ok q
    rw [hn] at q1
    obtain ⟨env, ph, Z, O, A, hh⟩ := q1
    refine ⟨env, ph, Z, O, A, ?_⟩
    cases e1 : args1 as env with
    | stuck => rw [e1] at hh; exact hh
    | exc y env' => rw [e1] at hh; exact hh
    | ok os env' => rw [e1] at hh; exact fun vs H' Z' O' Ot r1 r2 r3 r4 => ⟨_, hh vs H' Z' O' Ot r1 r2 r3 r4⟩
theorem je_callTy {n : Nat} {id : String} {x : Str} {p : Pos} {h : Fn} {as : List Arg} (hc : CallZ X (.type id) n h) (hg : Gl X x) (hm : X.mg x = none) (hv : bootBuiltins x = some (.type id)) (ha : JAs X W (e :: es) as) (hn : as.length = n) (hnn : x ≠ "__name__" := by decide) (hdb : (x == ("__debug__" : Str)) = false := by decide)
    (he : starEach (e :: es) X.env = (false, eval e X.env) :: starEach es X.env := by rfl) (hpl : (backTo pos (starEach es X.env)).any (·.1) = false := by rfl) : JE X W (.Call (.Name x p) (e :: es) [] pos) (eOp as h) :=
  PEimp (pe_callTy hc hg hm hv ha hnn hdb he hpl) fun sg H Q q => by
    have q1 := eOp_ok q
    rw [hn] at q1
    obtain ⟨env, ph, Z, O, A, hh⟩ := q1
    refine ⟨env, ph, Z, O, A, ?_⟩
    cases e1 : args1 as env with
    | stuck => rw [e1] at hh; exact hh
    | exc y env' => rw [e1] at hh; exact hh
    | ok os env' => rw [e1] at hh; exact fun vs H' Z' O' Ot r1 r2 r3 r4 => ⟨_, hh vs H' Z' O' Ot r1 r2 r3 r4⟩
end
end Z
set_option linter.all false
namespace Z
open PySem
def lineN : Nat := 16777216
mutual
def okN : Nat → P → Bool
  | _, .non => true
  | _, .bl _ => true
  | _, .int _ => true
  | _, .str s => s.cps.all (· < 0x110000)
  | n + 1, .tup xs => okNs n xs
  | n + 1, .lst xs => okNs n xs
  | _, _ => false
def okNs : Nat → List P → Bool
  | _, [] => true
  | n, x :: xs => okN n x && okNs n xs
end
def okP (x : P) : Bool := okN 40 x
mutual
def eqP : P → P → Bool
  | .non, .non => true
  | .bl a, .bl b => a == b
  | .bl a, .int j => (if a then 1 else 0) == j
  | .int i, .bl b => i == (if b then 1 else 0)
  | .int i, .int j => i == j
  | .str s, .str t => s == t
  | .tup xs, .tup ys => eqPs xs ys
  | .lst xs, .lst ys => eqPs xs ys
  | _, _ => false
def eqPs : List P → List P → Bool
  | [], [] => true
  | x :: xs, y :: ys => eqP x y && eqPs xs ys
  | _, _ => false
end
def pEq (x y : P) : Option P := if okP x && okP y then some (.bl (eqP x y)) else none
def pNe (x y : P) : Option P := if okP x && okP y then some (.bl (!eqP x y)) else none
def cmpI (i j : Int) : Ordering := if i < j then .lt else if j < i then .gt else .eq
def ltS (s t : Str) : Bool := decide (s.cps.toList < t.cps.toList)
def cmpS (s t : Str) : Ordering := if ltS s t then .lt else if ltS t s then .gt else .eq
def codeP : P → Nat
  | .int _ => 0
  | .str _ => 1
  | .tup _ => 2
  | _ => 3
def cmpN (i j : Nat) : Ordering := if i < j then .lt else if j < i then .gt else .eq
mutual
/-- any two trees; what is no number, text, tuple: all alike -/
def cmpP : P → P → Ordering
  | .int i, .int j => cmpI i j
  | .str s, .str t => cmpS s t
  | .tup xs, .tup ys => cmpPs xs ys
  | x, y => cmpN (codeP x) (codeP y)
def cmpPs : List P → List P → Ordering
  | [], [] => .eq
  | [], _ :: _ => .lt
  | _ :: _, [] => .gt
  | x :: xs, y :: ys => match cmpP x y with
    | .eq => cmpPs xs ys
    | o => o
end
mutual
/-- may be compared -/
def cmbN : Nat → P → P → Bool
  | _, .int _, .int _ => true
  | _, .str _, .str _ => true
  | n + 1, .tup xs, .tup ys => cmbNs n xs ys
  | _, _, _ => false
def cmbNs : Nat → List P → List P → Bool
  | _, [], _ => true
  | _, _ :: _, [] => true
  | n, x :: xs, y :: ys => cmbN n x y && cmbNs n xs ys
end
mutual
/-- numbers, texts, tuples of such -/
def okO : Nat → P → Bool
  | _, .int _ => true
  | _, .str s => s.cps.all (· < 0x110000)
  | n + 1, .tup xs => okOs n xs
  | _, _ => false
def okOs : Nat → List P → Bool
  | _, [] => true
  | n, x :: xs => okO n x && okOs n xs
end
def okCmp (x y : P) : Bool := okO 30 x && okO 30 y && cmbN 30 x y
def pLt (x y : P) : Option P := if okCmp x y then some (.bl (cmpP x y == .lt)) else none
def pLe (x y : P) : Option P := if okCmp x y then some (.bl (cmpP x y != .gt)) else none
def pGt (x y : P) : Option P := if okCmp x y then some (.bl (cmpP x y == .gt)) else none
def pGe (x y : P) : Option P := if okCmp x y then some (.bl (cmpP x y != .lt)) else none
def ltP (x y : P) : Bool := cmpP x y == .lt
/-- sorted, equal ones in their order -/
def insP {α : Type} (lt : α → α → Bool) (x : α) : List α → List α
  | [] => [x]
  | y :: ys => if lt y x then y :: insP lt x ys else x :: y :: ys
def srtP {α : Type} (lt : α → α → Bool) : List α → List α
  | [] => []
  | x :: xs => insP lt x (srtP lt xs)
/-- of what kind the keys of a sort are -/
def kindP : P → Nat
  | .int _ => 1
  | .str _ => 2
  | .tup (.int _ :: _) => 3
  | .tup (.str _ :: _) => 4
  | .tup (.tup _ :: _) => 5
  | _ => 0
def oneKind : List P → Bool
  | [] => true
  | x :: xs => decide (kindP x ≠ 0) && xs.all fun y => kindP y == kindP x
/-- may be sorted -/
def okSort (xs : List P) : Bool := decide (xs.length ≤ lineN) && oneKind xs && xs.all fun x => xs.all fun y => okCmp x y
def isNon : P → Bool
  | .non => true
  | _ => false
def isBl (b : Bool) : P → Bool
  | .bl c => c == b
  | _ => false
/-- x is None, x is True, x is False -/
def pIs (x y : P) : Option P := match y with
  | .non => some (.bl (isNon x))
  | .bl b => some (.bl (isBl b x))
  | _ => none
def pIsNot (x y : P) : Option P := match y with
  | .non => some (.bl (!isNon x))
  | .bl b => some (.bl (!isBl b x))
  | _ => none
def mulOk (i j : Int) : Bool := decide (i.natAbs.log2 + j.natAbs.log2 < 1000000)
def pAdd : P → P → Option P
  | .int i, .int j => some (.int (i + j))
  | .str s, .str t => if s.length + t.length ≤ lineN then some (.str (s ++ t)) else none
  | .tup xs, .tup ys => if xs.length + ys.length ≤ lineN then some (.tup (xs ++ ys)) else none
  | .lst xs, .lst ys => if xs.length + ys.length ≤ lineN then some (.lst (xs ++ ys)) else none
  | _, _ => none
def pSub : P → P → Option P
  | .int i, .int j => some (.int (i - j))
  | _, _ => none
def pMul : P → P → Option P
  | .int i, .int j => if mulOk i j then some (.int (i * j)) else none
  | _, _ => none
def pMod : P → P → Option P
  | .int i, .int j => if 0 < j then some (.int (i % j)) else none
  | _, _ => none
def pFdiv : P → P → Option P
  | .int i, .int j => if 0 < j ∧ j.natAbs.log2 < 9000 then some (.int (i / j)) else none
  | _, _ => none
def pPow : P → P → Option P
  | .int i, .int j => if 0 ≤ j ∧ j ≤ 1000000 ∧ i.natAbs < 2 ^ 64 then some (.int (i ^ j.toNat)) else none
  | _, _ => none
def pNeg : P → Option P
  | .int i => some (.int (-i))
  | _ => none
def bAbs : List P → Option P
  | [.int i] => some (.int (if i < 0 then -i else i))
  | _ => none
def bInt : List P → Option P
  | [.int i] => some (.int i)
  | [.bl b] => some (.int (if b then 1 else 0))
  | _ => none
def bMax : List P → Option P
  | [.int i, .int j] => some (.int (if j > i then j else i))
  | _ => none
def bMin : List P → Option P
  | [.int i, .int j] => some (.int (if j < i then j else i))
  | _ => none
def bLen : List P → Option P
  | [.tup xs] => some (.int (xs.length : Nat))
  | [.wt xs] => some (.int (xs.length : Nat))
  | [.lst xs] => some (.int (xs.length : Nat))
  | [.str s] => if s.length ≤ lineN then some (.int (s.length : Nat)) else none
  | _ => none
def ixZ (n : Nat) (i : Int) : Option Nat := if 0 ≤ i then (if i < n then some i.toNat else none) else if -(n : Int) ≤ i then some (i + n).toNat else none
def atZ {α : Type} (xs : List α) (i : Int) : Option α := (ixZ xs.length i).bind fun j => xs[j]?
/-- what stands under a key -/
def lookP : List P → List P → P → Option P
  | k :: ks, v :: vs, x => if eqP k x then some v else lookP ks vs x
  | _, _, _ => none
def keyOk : P → Bool
  | .int _ => true
  | .str _ => true
  | _ => false
/-- a tuple that may be a key -/
def tkOk : P → Bool
  | .tup (.int _ :: xs) => xs.all keyOk
  | _ => false
/-- x[i] -/
def pIx : P → P → Option P
  | .tup xs, .int i => atZ xs i
  | .wt xs, .int i => atZ xs i
  | .lst xs, .int i => atZ xs i
  | .str s, .int i => if s.length ≤ lineN then (atZ s.cps.toList i).map fun c => .str ⟨#[c]⟩ else none
  | .dct ks vs, .str k => if ks.all keyOk then lookP ks vs (.str k) else none
  | .dct ks vs, .int k => if ks.all keyOk then lookP ks vs (.int k) else none
  | .dct ks vs, .tup k => if tkOk (.tup k) && ks.all tkOk then lookP ks vs (.tup k) else none
  | _, _ => none
def inP (x : P) (xs : List P) : Bool := xs.any fun y => eqP y x
def pIn : P → P → Option P
  | x, .lst xs => if okN 39 x && okNs 39 xs then some (.bl (inP x xs)) else none
  | x, .tup xs => if okN 39 x && okNs 39 xs then some (.bl (inP x xs)) else none
  | .int i, .dct ks vs => if ks.all keyOk then some (.bl (inP (.int i) ks)) else none
  | .str i, .dct ks vs => if ks.all keyOk then some (.bl (inP (.str i) ks)) else none
  | .tup k, .dct ks vs => if tkOk (.tup k) && ks.all tkOk then some (.bl (inP (.tup k) ks)) else none
  | _, _ => none
def pNotIn : P → P → Option P
  | x, .lst xs => if okN 39 x && okNs 39 xs then some (.bl (!inP x xs)) else none
  | x, .tup xs => if okN 39 x && okNs 39 xs then some (.bl (!inP x xs)) else none
  | .int i, .dct ks vs => if ks.all keyOk then some (.bl (!inP (.int i) ks)) else none
  | .str i, .dct ks vs => if ks.all keyOk then some (.bl (!inP (.str i) ks)) else none
  | .tup k, .dct ks vs => if tkOk (.tup k) && ks.all tkOk then some (.bl (!inP (.tup k) ks)) else none
  | _, _ => none
/-- the place that an end of a slice means -/
def sIx (n : Nat) (dflt : Nat) : Option Int → Nat
  | none => dflt
  | some i => if i < 0 then (i + n).toNat else min i.toNat n
def cutZ {α : Type} (xs : List α) (lo hi : Option Int) : List α := (xs.drop (sIx xs.length 0 lo)).take (sIx xs.length xs.length hi - sIx xs.length 0 lo)
def isTyP : String → P → Option Bool
  | "int", .int _ => some true
  | "int", .bl _ => some true
  | "int", .non => some false
  | "int", .str _ => some false
  | "int", .tup _ => some false
  | "int", .lst _ => some false
  | "bool", .bl _ => some true
  | "bool", .int _ => some false
  | "bool", .non => some false
  | "bool", .str _ => some false
  | "bool", .tup _ => some false
  | "bool", .lst _ => some false
  | "str", .str _ => some true
  | "str", .int _ => some false
  | "str", .bl _ => some false
  | "str", .non => some false
  | "str", .tup _ => some false
  | "str", .lst _ => some false
  | "tuple", .tup _ => some true
  | "tuple", .int _ => some false
  | "tuple", .bl _ => some false
  | "tuple", .non => some false
  | "tuple", .str _ => some false
  | "tuple", .lst _ => some false
  | "list", .lst _ => some true
  | "list", .int _ => some false
  | "list", .bl _ => some false
  | "list", .non => some false
  | "list", .str _ => some false
  | "list", .tup _ => some false
  | _, _ => none
def bIsTy : List P → Option P
  | [x, .ty n] => (isTyP n x).map .bl
  | _ => none
/-- tuple(x) -/
def bTuple : List P → Option P
  | [.tup xs] => some (.tup xs)
  | [.lst xs] => some (.tup xs)
  | _ => none
def seqD : D → Option (List D)
  | .l xs => some xs
  | .p (.lst xs) => some (xs.map .p)
  | .p (.tup xs) => some (xs.map .p)
  | _ => none
/-- [a, b, ..] -/
def hList : Fn := fun ds => if ds.length ≤ lineN then .ok (.l ds) (.p .non) else .stuck
/-- list(x): of a list of one's own: its things are frozen (they are in both) -/
def hListOf : Fn
  | [.p (.lst xs)] => .ok (.l (xs.map .p)) (.p .non)
  | [.p (.tup xs)] => .ok (.l (xs.map .p)) (.p .non)
  | [.p (.scr ns)] => .ok (.l (ns.map fun n => .p (.int n))) (.p .non)
  | [.l xs] => .ok (.l xs) (.p .non)
  | _ => .stuck
def hCat : Fn
  | [a, b] => match seqL a, seqL b with
    | some xs, some ys => if xs.length + ys.length ≤ lineN then .ok (.l (xs ++ ys)) (.p .non) else .stuck
    | _, _ => .stuck
  | _ => .stuck
where seqL : D → Option (List D)
  | .l xs => some xs
  | .p (.lst xs) => some (xs.map .p)
  | _ => none
/-- x.append(y) -/
def hAppend : Fn
  | [.l xs, y] => if xs.length < lineN then .ok (.p .non) (.l (xs ++ [y])) else .stuck
  | _ => .stuck
/-- x.pop(i) -/
def hPopAt : Fn
  | [.l xs, .p (.int i)] => match ixZ xs.length i with
    | some j => match xs[j]? with
      | some y => if -(2 ^ 63) ≤ i ∧ i < 2 ^ 63 then .ok y (.l (xs.eraseIdx j)) else .stuck
      | none => .stuck
    | none => .stuck
  | _ => .stuck
def hPop : Fn
  | [.l xs] => match xs[xs.length - 1]? with
    | some y => .ok y (.l xs.dropLast)
    | none => .stuck
  | _ => .stuck
/-- x[i] = v, of a list -/
def hSetL : Fn
  | [.l xs, v, .p (.int i)] => match ixZ xs.length i with
    | some j => .ok (.p .non) (.l (xs.set j v))
    | none => .stuck
  | _ => .stuck
def nodupP : List P → Bool
  | [] => true
  | x :: xs => !inP x xs && nodupP xs
def putP : List P → List D → P → D → List P × List D
  | k :: ks, v :: vs, x, d => if eqP k x then (k :: ks, d :: vs) else let r := putP ks vs x d; (k :: r.1, v :: r.2)
  | _, _, x, d => ([x], [d])
/-- d[k] = v, k a text or a number -/
def hSetD : Fn
  | [.d ks vs, v, .p k] => if (keyOk k && ks.all keyOk || tkOk k && ks.all tkOk) && nodupP ks && decide (ks.length < lineN) then .ok (.p .non) (.d (putP ks vs k v).1 (putP ks vs k v).2) else .stuck
  | _ => .stuck
end Z
namespace Z
open PySem
/-- x[lo:hi] -/
def pSl : P → Option Int → Option Int → Option P
  | .tup xs, lo, hi => some (.tup (cutZ xs lo hi))
  | .lst xs, lo, hi => some (.lst (cutZ xs lo hi))
  | .str s, lo, hi => if s.length ≤ lineN then some (.str ⟨(cutZ s.cps.toList lo hi).toArray⟩) else none
  | _, _, _ => none
def gPart : Option VF → Env → Option (Option Int)
  | none, _ => some none
  | some g, env => match g env with
    | some (.int i) => some (some i)
    | _ => none
def gSl (g : VF) (lo hi : Option VF) : VF := fun env => (g env).bind fun x => (gPart lo env).bind fun l => (gPart hi env).bind fun u => pSl x l u
/-- the things of a list that stands -/
def seqL : D → Option (List D)
  | .l xs => some xs
  | .p (.lst xs) => some (xs.map .p)
  | _ => none
/-- x.extend(y) -/
def hExtend : Fn
  | [.l xs, y] => match seqL y with
    | some ys => if xs.length + ys.length ≤ lineN then .ok (.p .non) (.l (xs ++ ys)) else .stuck
    | none => .stuck
  | _ => .stuck
/-- x + y, of lists -/
def hAddL : Fn
  | [x, y] => match seqL x, seqL y with
    | some xs, some ys => if xs.length + ys.length ≤ lineN then .ok (.l (xs ++ ys)) (.p .non) else .stuck
    | _, _ => .stuck
  | _ => .stuck
/-- {k: v, ..}, the keys texts and numbers, no two alike; the new dict comes first -/
def hDict (ks : List P) : Fn
  | .d [] [] :: ds => if ks.length = ds.length ∧ ks.length ≤ 15 ∧ ks.all keyOk = true ∧ nodupP ks = true then .ok (.d ks ds) (.p .non) else .stuck
  | _ => .stuck
def eNewD : EF := fun env => .ok (.d [] []) env
/-- x[i] = v -/
def hSet : Fn
  | [.l xs, v, i] => hSetL [.l xs, v, i]
  | [.d ks vs, v, i] => hSetD [.d ks vs, v, i]
  | _ => .stuck
/-- x + y -/
def hAdd : Fn := fun ds => match hAddL ds with
  | .stuck => lift2 pAdd ds
  | r => r
/-- [a, b, ..], not to be changed -/
def gLs (as : List VF) : VF := fun env => (gL as env).bind fun xs => if xs.length ≤ lineN then some (.lst xs) else none
/-- list(x), not to be changed -/
def bList : List P → Option P
  | [.lst xs] => some (.lst xs)
  | [.tup xs] => some (.lst xs)
  | _ => none
def bSorted : List P → Option P
  | [.lst xs] => if okSort xs then some (.lst (srtP ltP xs)) else none
  | _ => none
end Z
set_option Elab.async false
set_option linter.all false
set_option maxRecDepth 100000
set_option maxHeartbeats 1000000
namespace Z
open PySem L2
mutual
def dat : P → PyData
  | .bl b => .bool b
  | .int i => .int i
  | .str s => .str s
  | .tup xs => .tuple (dats xs)
  | .lst xs => .list (dats xs)
  | _ => .none
def dats : List P → List PyData
  | [] => []
  | x :: xs => dat x :: dats xs
end
section
variable {K : PySem.W.Frag} {mg : Str → Option Value} {Z : Zs} {H : Hp}
mutual
theorem dp_of : ∀ {x : P} {n : Nat} {v : V}, RP K mg Z H v x → okN n x = true → Dp K H v (dat x)
  | .non, _, _, h, _ => by simp only [RP] at h; subst h; exact .non
  | .bl b, _, _, h, _ => by simp only [RP] at h; subst h; exact .bl b
  | .int i, _, _, h, _ => by simp only [RP] at h; subst h; exact .int i
  | .str s, _, _, h, _ => by simp only [RP] at h; subst h; exact .str s
  | .tup xs, 0, _, h, e => by simp only [okN] at e; cases e
  | .tup xs, n + 1, _, h, e => by
    simp only [RP] at h
    simp only [okN] at e
    obtain ⟨a, us, ev, s, rs⟩ := h
    subst ev
    exact .tup s.1 (dps_of rs e)
  | .lst xs, 0, _, h, e => by simp only [okN] at e; cases e
  | .lst xs, n + 1, _, h, e => by
    simp only [RP] at h
    simp only [okN] at e
    obtain ⟨a, us, ev, _, s, rs⟩ := h
    subst ev
    exact .lst (.inl (.inl s)) (dps_of rs e)
  | .dct _ _, _, _, _, e => by simp only [okN] at e; cases e
  | .set _, _, _, _, e => by simp only [okN] at e; cases e
  | .ins _ _ _, _, _, _, e => by simp only [okN] at e; cases e
  | .exc _ _ _ _ _ _, _, _, _, e => by simp only [okN] at e; cases e
  | .ty _, _, _, _, e => by simp only [okN] at e; cases e
  | .cls _, _, _, _, e => by simp only [okN] at e; cases e
  | .fn _, _, _, _, e => by simp only [okN] at e; cases e
  | .thk _ _ _ _ _, _, _, _, e => by simp only [okN] at e; cases e
  | .wt _, _, _, _, e => by simp only [okN] at e; cases e
  | .scr _, _, _, _, e => by simp only [okN] at e; cases e
theorem dps_of : ∀ {xs : List P} {n : Nat} {us : List V}, RPs K mg Z H us xs → okNs n xs = true → DpAll K H us (dats xs)
  | [], _, [], _, _ => .nil
  | [], _, _ :: _, h, _ => by simp only [RPs] at h
  | _ :: _, _, [], h, _ => by simp only [RPs] at h
  | x :: xs, n, v :: us, h, e => by
    simp only [RPs] at h
    simp only [okNs, Bool.and_eq_true] at e
    exact .cons (dp_of h.1 e.1) (dps_of h.2 e.2)
end
mutual
theorem lay_of : ∀ {x : P} {n : Nat}, okN n x = true → (dat x).canLay0 = true ∧ (dat x).depth ≤ n
  | .non, _, _ => by simp [dat, PyData.canLay0, PyData.depth]
  | .bl b, _, _ => by simp [dat, PyData.canLay0, PyData.depth]
  | .int i, _, _ => by simp [dat, PyData.canLay0, PyData.depth]
  | .str s, _, e => by
    simp only [okN] at e
    simp only [dat, PyData.canLay0, PyData.depth]
    exact ⟨e, Nat.zero_le _⟩
  | .tup xs, 0, e => by simp only [okN] at e; cases e
  | .tup xs, n + 1, e => by
    simp only [okN] at e
    have q := lays_of e
    simp only [dat, PyData.canLay0, PyData.depth]
    exact ⟨q.1, Nat.succ_le_succ q.2⟩
  | .lst xs, 0, e => by simp only [okN] at e; cases e
  | .lst xs, n + 1, e => by
    simp only [okN] at e
    have q := lays_of e
    simp only [dat, PyData.canLay0, PyData.depth]
    exact ⟨q.1, Nat.succ_le_succ q.2⟩
  | .dct _ _, _, e => by simp only [okN] at e; cases e
  | .set _, _, e => by simp only [okN] at e; cases e
  | .ins _ _ _, _, e => by simp only [okN] at e; cases e
  | .exc _ _ _ _ _ _, _, e => by simp only [okN] at e; cases e
  | .ty _, _, e => by simp only [okN] at e; cases e
  | .cls _, _, e => by simp only [okN] at e; cases e
  | .fn _, _, e => by simp only [okN] at e; cases e
  | .thk _ _ _ _ _, _, e => by simp only [okN] at e; cases e
  | .wt _, _, e => by simp only [okN] at e; cases e
  | .scr _, _, e => by simp only [okN] at e; cases e
theorem lays_of : ∀ {xs : List P} {n : Nat}, okNs n xs = true → PyData.canLayAll0 (dats xs) = true ∧ PyData.depthAll (dats xs) ≤ n
  | [], _, _ => by simp [dats, PyData.canLayAll0, PyData.depthAll]
  | x :: xs, n, e => by
    simp only [okNs, Bool.and_eq_true] at e
    have q1 := lay_of e.1
    have q2 := lays_of e.2
    simp only [dats, PyData.canLayAll0, PyData.depthAll, q1.1, q2.1, Bool.and_self, true_and]
    exact Nat.max_le.mpr ⟨q1.2, q2.2⟩
end
theorem shaped_of {x : P} {n : Nat} (e : okN n x = true) (hn : n ≤ 64) : SeqAt.shaped (dat x) = true := by
  have q := lay_of e
  unfold SeqAt.shaped
  rw [q.1, Bool.true_and]
  exact decide_eq_true (Nat.le_trans q.2 hn)
mutual
theorem eqv_dat : ∀ {x y : P} {n m : Nat}, okN n x = true → okN m y = true → PyData.eqv (dat x) (dat y) = eqP x y
  | .dct _ _, _, _, _, e, _ => by simp only [okN] at e; cases e
  | .set _, _, _, _, e, _ => by simp only [okN] at e; cases e
  | .ins _ _ _, _, _, _, e, _ => by simp only [okN] at e; cases e
  | .exc _ _ _ _ _ _, _, _, _, e, _ => by simp only [okN] at e; cases e
  | .ty _, _, _, _, e, _ => by simp only [okN] at e; cases e
  | .cls _, _, _, _, e, _ => by simp only [okN] at e; cases e
  | .fn _, _, _, _, e, _ => by simp only [okN] at e; cases e
  | .thk _ _ _ _ _, _, _, _, e, _ => by simp only [okN] at e; cases e
  | .wt _, _, _, _, e, _ => by simp only [okN] at e; cases e
  | .scr _, _, _, _, e, _ => by simp only [okN] at e; cases e
  | .tup _, _, 0, _, e, _ => by simp only [okN] at e; cases e
  | .lst _, _, 0, _, e, _ => by simp only [okN] at e; cases e
  | .non, y, _, m, _, e2 => by cases y <;> first | (simp [dat, PyData.eqv, eqP]; done) | (simp only [okN] at e2; cases e2; done) | (cases m <;> simp [dat, PyData.eqv, eqP])
  | .bl _, y, _, m, _, e2 => by cases y <;> first | (simp [dat, PyData.eqv, eqP]; done) | (simp only [okN] at e2; cases e2; done) | (cases m <;> simp [dat, PyData.eqv, eqP])
  | .int _, y, _, m, _, e2 => by cases y <;> first | (simp [dat, PyData.eqv, eqP]; done) | (simp only [okN] at e2; cases e2; done) | (cases m <;> simp [dat, PyData.eqv, eqP])
  | .str _, y, _, m, _, e2 => by cases y <;> first | (simp [dat, PyData.eqv, eqP]; done) | (simp only [okN] at e2; cases e2; done) | (cases m <;> simp [dat, PyData.eqv, eqP])
  | .tup xs, y, n + 1, m, e, e2 => by
    cases y with
    | tup ys =>
      cases m with
      | zero => simp only [okN] at e2; cases e2
      | succ m =>
        simp only [okN] at e e2
        simp only [dat, PyData.eqv, eqP]
        exact eqvs_dat e e2
    | _ => first | (simp [dat, PyData.eqv, eqP]; done) | (simp only [okN] at e2; cases e2; done)
  | .lst xs, y, n + 1, m, e, e2 => by
    cases y with
    | lst ys =>
      cases m with
      | zero => simp only [okN] at e2; cases e2
      | succ m =>
        simp only [okN] at e e2
        simp only [dat, PyData.eqv, eqP]
        exact eqvs_dat e e2
    | _ => first | (simp [dat, PyData.eqv, eqP]; done) | (simp only [okN] at e2; cases e2; done)
theorem eqvs_dat : ∀ {xs ys : List P} {n m : Nat}, okNs n xs = true → okNs m ys = true → PyData.eqvAll (dats xs) (dats ys) = eqPs xs ys
  | [], [], _, _, _, _ => by simp [dats, PyData.eqvAll, eqPs]
  | [], _ :: _, _, _, _, _ => by simp [dats, PyData.eqvAll, eqPs]
  | _ :: _, [], _, _, _, _ => by simp [dats, PyData.eqvAll, eqPs]
  | x :: xs, y :: ys, n, m, e, e2 => by
    simp only [okNs, Bool.and_eq_true] at e e2
    simp only [dats, PyData.eqvAll, eqPs, eqv_dat e.1 e2.1, eqvs_dat e.2 e2.2]
end
end
section
variable {X : Cx} {W : WX} {k : Nat}
theorem got_p {K : PySem.W.Frag} {mg : Str → Option Value} {Z : Zs} {H : Hp} {x : P} {v : V} {Q : VK} (h : Got K mg Z H x Q) (hv : RP K mg Z H v x) : Q v H := h v Z H (Grow.refl ..) hv
theorem ov_eq (hr : RU X.A) : OpV X (compareOp .Eq) pEq := by
  intro pins s sg H x y v u Q I rx ry ⟨Z, a, b, r, ra, rb, e, q⟩
  unfold pEq at e
  cases ea : okP a with
  | false => rw [ea] at e; cases e
  | true =>
    cases eb : okP b with
    | false => rw [ea, eb] at e; cases e
    | true =>
      rw [ea, eb] at e
      cases e
      refine op_eqD hr.units pins s sg H x y v u Q I rx ry ⟨dat a, dat b, dp_of ra ea, dp_of rb eb, shaped_of ea (by decide), shaped_of eb (by decide), ?_⟩
      rw [eqv_dat ea eb]
      exact got_p q (by simp only [RP])
theorem ov_ne (hr : RU X.A) : OpV X (compareOp .NotEq) pNe := by
  intro pins s sg H x y v u Q I rx ry ⟨Z, a, b, r, ra, rb, e, q⟩
  unfold pNe at e
  cases ea : okP a with
  | false => rw [ea] at e; cases e
  | true =>
    cases eb : okP b with
    | false => rw [ea, eb] at e; cases e
    | true =>
      rw [ea, eb] at e
      cases e
      refine op_neD hr.units pins s sg H x y v u Q I rx ry ⟨dat a, dat b, dp_of ra ea, dp_of rb eb, shaped_of ea (by decide), shaped_of eb (by decide), ?_⟩
      rw [eqv_dat ea eb]
      exact got_p q (by simp only [RP])
theorem ov_sub : OpV X (binaryOp .Sub) pSub := by
  intro pins s sg H x y v u Q I rx ry ⟨Z, a, b, r, ra, rb, e, q⟩
  unfold pSub at e
  split at e
  · cases e
    simp only [RP] at ra rb
    exact op_sub pins s sg H x y v u Q I rx ry ⟨_, _, ra, rb, got_p q (by simp only [RP])⟩
  · cases e
theorem ov_mul : OpV X (binaryOp .Mult) pMul := by
  intro pins s sg H x y v u Q I rx ry ⟨Z, a, b, r, ra, rb, e, q⟩
  unfold pMul at e
  split at e
  · rename_i i j
    split at e
    · rename_i hm
      cases e
      simp only [RP] at ra rb
      exact op_mulW pins s sg H x y v u Q I rx ry ⟨_, _, ra, rb, (show CMulW i j from by unfold mulOk at hm; exact (of_decide_eq_true hm : i.natAbs.log2 + j.natAbs.log2 < 1000000)), got_p q (by simp only [RP])⟩
    · cases e
  · cases e
theorem ov_mod : OpV X (binaryOp .Mod) pMod := by
  intro pins s sg H x y v u Q I rx ry ⟨Z, a, b, r, ra, rb, e, q⟩
  unfold pMod at e
  split at e
  · split at e
    · rename_i hm
      cases e
      simp only [RP] at ra rb
      exact op_mod pins s sg H x y v u Q I rx ry ⟨_, _, ra, rb, hm, got_p q (by simp only [RP])⟩
    · cases e
  · cases e
theorem ov_fdiv : OpV X (binaryOp .FloorDiv) pFdiv := by
  intro pins s sg H x y v u Q I rx ry ⟨Z, a, b, r, ra, rb, e, q⟩
  unfold pFdiv at e
  split at e
  · split at e
    · rename_i hm
      cases e
      simp only [RP] at ra rb
      exact op_fdivW pins s sg H x y v u Q I rx ry ⟨_, _, ra, rb, hm, got_p q (by simp only [RP])⟩
    · cases e
  · cases e
theorem ov_pow : OpV X (binaryOp .Pow) pPow := by
  intro pins s sg H x y v u Q I rx ry ⟨Z, a, b, r, ra, rb, e, q⟩
  unfold pPow at e
  split at e
  · split at e
    · rename_i hm
      cases e
      simp only [RP] at ra rb
      exact op_pow pins s sg H x y v u Q I rx ry ⟨_, _, ra, rb, hm, got_p q (by simp only [RP])⟩
    · cases e
  · cases e
theorem uv_neg : UnV X (unaryOp .USub) pNeg := by
  intro pins s sg H x v Q I rx ⟨Z, a, r, ra, e, q⟩
  unfold pNeg at e
  split at e
  · cases e
    simp only [RP] at ra
    exact un_neg pins s sg H x v Q I rx ⟨_, ra, got_p q (by simp only [RP])⟩
  · cases e
theorem lineN_eq : lineN = sizeLine := by rw [sizeLine_eq]; rfl
theorem ov_add : OpV X (binaryOp .Add) pAdd := by
  intro pins s sg H x y v u Q I rx ry ⟨Z, a, b, r, ra, rb, e, q⟩
  unfold pAdd at e
  split at e
  · cases e
    simp only [RP] at ra rb
    exact op_add pins s sg H x y v u Q I rx ry ⟨_, _, ra, rb, got_p q (by simp only [RP])⟩
  · split at e
    · rename_i hm
      cases e
      simp only [RP] at ra rb
      exact op_add_str pins s sg H x y v u Q I rx ry ⟨_, _, ra, rb, by rw [← lineN_eq]; exact hm, got_p q (by simp only [RP])⟩
    · cases e
  · rename_i xs ys
    split at e
    · rename_i hm
      cases e
      simp only [RP] at ra rb
      obtain ⟨p1, us, e1, s1, r1⟩ := ra
      obtain ⟨p2, ws, e2, s2, r2⟩ := rb
      have rr : ∀ {Z' : Zs} {H' : Hp}, Grow Z H Z' H' → RPs X.K X.mg Z' H' (us ++ ws) (xs ++ ys) := fun {Z' H'} g => RPs.app (r1.grow g) (r2.grow g)
      refine op_catA pins s sg H x y v u Q I rx ry ⟨p1, p2, us, ws, e1, e2, s1.1, s2.1, by rw [r1.length, r2.length, ← lineN_eq]; exact hm, fun en => ?_, fun _ en => ?_, fun _ _ p hp => ?_⟩
      · subst en
        refine got_p q ?_
        simp only [RP]
        have hx : xs = [] := by
          cases xs with
          | nil => rfl
          | cons _ _ => simp only [RPs] at r1
        subst hx
        exact ⟨p2, ws, rfl, s2, by simpa using rr (Grow.refl ..)⟩
      · subst en
        refine got_p q ?_
        simp only [RP]
        have hx : ys = [] := by
          cases ys with
          | nil => rfl
          | cons _ _ => simp only [RPs] at r2
        subst hx
        exact ⟨p1, us, rfl, by rw [List.append_nil]; exact s1, by simpa using rr (Grow.refl ..)⟩
      · refine q _ _ _ (Grow.new hp (by intro _ z; cases z)) ?_
        simp only [RP]
        exact ⟨p, us ++ ws, rfl, SqI.of upd_same, rr (Grow.new hp (by intro _ z; cases z))⟩
    · cases e
  · rename_i xs ys
    split at e
    · rename_i hm
      cases e
      simp only [RP] at ra rb
      obtain ⟨p1, us, e1, z1, s1, r1⟩ := ra
      obtain ⟨p2, ws, e2, z2, s2, r2⟩ := rb
      refine op_cat pins s sg H x y v u Q I rx ry ⟨p1, p2, us, ws, e1, e2, s1, s2, by rw [r1.length, r2.length, ← lineN_eq]; exact hm, fun p hp => ?_⟩
      refine q _ _ _ (Grow.newZ hp (by intro _ z; cases z)) ?_
      simp only [RP]
      exact ⟨p, us ++ ws, rfl, .inr (by simp), upd_same, RPs.app (r1.grow (Grow.newZ hp (by intro _ z; cases z))) (r2.grow (Grow.newZ hp (by intro _ z; cases z)))⟩
    · cases e
  · cases e
where
  RPs.app {K : PySem.W.Frag} {mg : Str → Option Value} {Z : Zs} {H : Hp} : ∀ {xs ys : List P} {us ws : List V}, RPs K mg Z H us xs → RPs K mg Z H ws ys → RPs K mg Z H (us ++ ws) (xs ++ ys)
  | [], _, [], _, _, h => h
  | [], _, _ :: _, _, h, _ => by simp only [RPs] at h
  | _ :: _, _, [], _, h, _ => by simp only [RPs] at h
  | x :: xs, ys, u :: us, ws, h, h2 => by
    simp only [RPs, List.cons_append] at h ⊢
    exact ⟨h.1, RPs.app h.2 h2⟩
theorem is_bool {M : Model} {A : Around} {E : Value → Shared → Prop} {s : Shared} {Q : Value → Shared → Prop} {v : Value} {b : Bool} (hv : absV v ≠ none) (h : Q (.bool (v == .bool b)) s) : wpAny M A (compareOp .Is v (.bool b)) Q E s := by
  cases v <;> first | exact wpAny_pure h | exact absurd rfl hv
theorem isnot_bool {M : Model} {A : Around} {E : Value → Shared → Prop} {s : Shared} {Q : Value → Shared → Prop} {v : Value} {b : Bool} (hv : absV v ≠ none) (h : Q (.bool (!(v == .bool b))) s) : wpAny M A (compareOp .IsNot v (.bool b)) Q E s := by
  cases v <;> first | exact wpAny_pure h | exact absurd rfl hv
theorem isNon_ok {K : PySem.W.Frag} {mg : Str → Option Value} {Z : Zs} {H : Hp} {x : P} {v : V} (h : RP K mg Z H v x) : isNon x = decide (v = .non) := by
  cases x <;> simp only [RP] at h <;> first
    | (subst h; rfl)
    | exact h.elim
    | (obtain ⟨us, e, _, _, _, _, _⟩ := h; subst e; rfl)
    | (obtain ⟨a, us, e, _⟩ := h; subst e; rfl)
    | (obtain ⟨a, c, dx, us, e, _⟩ := h; subst e; rfl)
    | (obtain ⟨a, _, e⟩ := h; subst e; rfl)
    | (obtain ⟨e, _⟩ := h; subst e; rfl)
    | (obtain ⟨a, e, _⟩ := h; subst e; rfl)
theorem isBl_ok {K : PySem.W.Frag} {mg : Str → Option Value} {Z : Zs} {H : Hp} {x : P} {v : V} {u : Value} {b : Bool} (h : RP K mg Z H v x) (r : RelV v u) : isBl b x = (u == .bool b) := by
  cases x <;> simp only [RP] at h <;> first
    | exact h.elim
    | (subst h; cases (show u = _ from r); first | rfl | (rename_i c; cases b <;> cases c <;> rfl))
    | (subst h; obtain ⟨t, e⟩ := r; subst e; rfl)
    | (obtain ⟨us, e, _, _, _, _, _⟩ := h; subst e; cases (show u = _ from r); rfl)
    | (obtain ⟨a, us, e, _⟩ := h; subst e; cases (show u = _ from r); rfl)
    | (obtain ⟨a, c, dx, us, e, _⟩ := h; subst e; cases (show u = _ from r); rfl)
    | (obtain ⟨a, _, e⟩ := h; subst e; cases (show u = _ from r); rfl)
    | (obtain ⟨e, _⟩ := h; subst e; cases (show u = _ from r); rfl)
    | (obtain ⟨a, e, _⟩ := h; subst e; cases (show u = _ from r); rfl)
theorem ov_is : OpV X (compareOp .Is) pIs := by
  intro pins s sg H x y v u Q I rx ry ⟨Z, a, b, r, ra, rb, e, q⟩
  unfold pIs at e
  split at e
  · cases e
    simp only [RP] at rb
    refine op_isN pins s sg H x y v u Q I rx ry ⟨rb, ?_⟩
    rw [← isNon_ok ra]
    exact got_p q (by simp only [RP])
  · cases e
    simp only [RP] at rb
    subst rb
    cases (show u = _ from ry)
    refine is_bool (by rw [rx.abs]; exact fun z => by cases z) ⟨.bl _, H, I, rfl, ?_⟩
    rw [← isBl_ok ra rx]
    exact got_p q (by simp only [RP])
  · cases e
theorem ov_isnot : OpV X (compareOp .IsNot) pIsNot := by
  intro pins s sg H x y v u Q I rx ry ⟨Z, a, b, r, ra, rb, e, q⟩
  unfold pIsNot at e
  split at e
  · cases e
    simp only [RP] at rb
    refine op_notN pins s sg H x y v u Q I rx ry ⟨rb, ?_⟩
    rw [← isNon_ok ra]
    exact got_p q (by simp only [RP])
  · cases e
    simp only [RP] at rb
    subst rb
    cases (show u = _ from ry)
    refine isnot_bool (by rw [rx.abs]; exact fun z => by cases z) ⟨.bl _, H, I, rfl, ?_⟩
    rw [← isBl_ok ra rx]
    exact got_p q (by simp only [RP])
  · cases e
theorem rps1 {K : PySem.W.Frag} {mg : Str → Option Value} {Z : Zs} {H : Hp} {us : List V} {x : P} (h : RPs K mg Z H us [x]) : ∃ u, us = [u] ∧ RP K mg Z H u x := by
  match us, h with
  | [u], h => simp only [RPs] at h; exact ⟨u, rfl, h.1⟩
  | [], h => simp only [RPs] at h
  | _ :: _ :: _, h => simp only [RPs] at h; exact h.2.elim
theorem rps2 {K : PySem.W.Frag} {mg : Str → Option Value} {Z : Zs} {H : Hp} {us : List V} {x y : P} (h : RPs K mg Z H us [x, y]) : ∃ u w, us = [u, w] ∧ RP K mg Z H u x ∧ RP K mg Z H w y := by
  match us, h with
  | [u, w], h => simp only [RPs] at h; exact ⟨u, w, rfl, h.1, h.2.1⟩
  | [], h => simp only [RPs] at h
  | [_], h => simp only [RPs] at h; exact h.2.elim
  | _ :: _ :: _ :: _, h => simp only [RPs] at h; exact h.2.2.elim
theorem cv_abs : CallV X (.builtin "abs") bAbs := by
  intro pins s sg H xs us Q I r ⟨Z, as, y, ra, e, q⟩
  unfold bAbs at e
  split at e
  · cases e
    obtain ⟨w, ew, rw_⟩ := rps1 ra
    simp only [RP] at rw_
    exact call_abs pins s sg H xs us Q I r ⟨_, by rw [ew, rw_], got_p q (by simp only [RP])⟩
  · cases e
theorem cv_max (C : Cz X W k) : CallV X (.builtin "max") bMax := by
  intro pins s sg H xs us Q I r ⟨Z, as, y, ra, e, q⟩
  unfold bMax at e
  split at e
  · cases e
    obtain ⟨w1, w2, ew, r1, r2⟩ := rps2 ra
    simp only [RP] at r1 r2
    exact call_max2 C.calm pins s sg H xs us Q I r ⟨_, _, by rw [ew, r1, r2], got_p q (by simp only [RP])⟩
  · cases e
theorem cv_min (C : Cz X W k) : CallV X (.builtin "min") bMin := by
  intro pins s sg H xs us Q I r ⟨Z, as, y, ra, e, q⟩
  unfold bMin at e
  split at e
  · cases e
    obtain ⟨w1, w2, ew, r1, r2⟩ := rps2 ra
    simp only [RP] at r1 r2
    exact call_min2 C.calm pins s sg H xs us Q I r ⟨_, _, by rw [ew, r1, r2], got_p q (by simp only [RP])⟩
  · cases e
theorem cv_int : CallV X (.type "int") bInt := by
  intro pins s sg H xs us Q I r ⟨Z, as, y, ra, e, q⟩
  unfold bInt at e
  split at e
  · cases e
    obtain ⟨w, ew, rw_⟩ := rps1 ra
    simp only [RP] at rw_
    exact call_int1 pins s sg H xs us Q I r (.inl ⟨_, by rw [ew, rw_], got_p q (by simp only [RP])⟩)
  · cases e
    obtain ⟨w, ew, rw_⟩ := rps1 ra
    simp only [RP] at rw_
    exact call_int1 pins s sg H xs us Q I r (.inr ⟨_, by rw [ew, rw_], got_p q (by simp only [RP])⟩)
  · cases e
theorem cv_len : CallV X (.builtin "len") bLen := by
  intro pins s sg H xs us Q I r ⟨Z, as, y, ra, e, q⟩
  unfold bLen at e
  split at e
  · cases e
    obtain ⟨w, ew, rw_⟩ := rps1 ra
    simp only [RP] at rw_
    obtain ⟨a, ws, e1, s1, r1⟩ := rw_
    refine call_len_seq pins s sg H xs us Q I r ⟨a, ws, by rw [ew, e1], .inr s1.1, ?_⟩
    rw [r1.length]
    exact got_p q (by simp only [RP])
  · cases e
    obtain ⟨w, ew, rw_⟩ := rps1 ra
    simp only [RP] at rw_
    obtain ⟨a, ws, e1, s1, r1⟩ := rw_
    refine call_len_seq pins s sg H xs us Q I r ⟨a, ws, by rw [ew, e1], .inr s1, ?_⟩
    rw [r1.length]
    exact got_p q (by simp only [RP])
  · cases e
    obtain ⟨w, ew, rw_⟩ := rps1 ra
    simp only [RP] at rw_
    obtain ⟨a, ws, e1, _, s1, r1⟩ := rw_
    refine call_len_seq pins s sg H xs us Q I r ⟨a, ws, by rw [ew, e1], .inl (.inl (.inl s1)), ?_⟩
    rw [r1.length]
    exact got_p q (by simp only [RP])
  · split at e
    · rename_i hm
      cases e
      obtain ⟨w, ew, rw_⟩ := rps1 ra
      simp only [RP] at rw_
      exact call_len_str pins s sg H xs us Q I r ⟨_, by rw [ew, rw_], by rw [← lineN_eq]; exact hm, got_p q (by simp only [RP])⟩
    · cases e
  · cases e
theorem cv_tuple : CallV X (.type "tuple") bTuple := by
  intro pins s sg H xs us Q I r ⟨Z, as, y, ra, e, q⟩
  unfold bTuple at e
  split at e
  · cases e
    obtain ⟨w, ew, rw_⟩ := rps1 ra
    have rp := rw_
    simp only [RP] at rw_
    obtain ⟨a, ws, e1, s1, r1⟩ := rw_
    refine call_tuple_of pins s sg H xs us Q I r ⟨a, ws, by rw [ew, e1], .inr ⟨s1.1, ?_⟩⟩
    rw [e1] at rp
    exact got_p q rp
  · cases e
    obtain ⟨w, ew, rw_⟩ := rps1 ra
    simp only [RP] at rw_
    obtain ⟨a, ws, e1, _, s1, r1⟩ := rw_
    refine call_tuple_of pins s sg H xs us Q I r ⟨a, ws, by rw [ew, e1], .inl ⟨.inl (.inl s1), fun l hl => ?_⟩⟩
    refine q _ _ _ (Grow.new hl (by intro _ z; cases z)) ?_
    simp only [RP]
    exact ⟨l, ws, rfl, SqI.of upd_same, r1.grow (Grow.new hl (by intro _ z; cases z))⟩
  · cases e
end
end Z
set_option Elab.async false
set_option linter.all false
set_option maxRecDepth 100000
set_option maxHeartbeats 1000000
namespace Z
open PySem L2
theorem cmpI_eq {i j : Int} : cmpI i j = .eq ↔ i = j := by unfold cmpI; split <;> (try split) <;> simp <;> omega
theorem cmpI_lt {i j : Int} : cmpI i j = .lt ↔ i < j := by unfold cmpI; split <;> (try split) <;> simp <;> omega
theorem cmpI_gt {i j : Int} : cmpI i j = .gt ↔ j < i := by unfold cmpI; split <;> (try split) <;> simp <;> omega
theorem cmpN_eq {i j : Nat} : cmpN i j = .eq ↔ i = j := by unfold cmpN; split <;> (try split) <;> simp <;> omega
theorem cmpN_lt {i j : Nat} : cmpN i j = .lt ↔ i < j := by unfold cmpN; split <;> (try split) <;> simp <;> omega
theorem cmpN_gt {i j : Nat} : cmpN i j = .gt ↔ j < i := by unfold cmpN; split <;> (try split) <;> simp <;> omega
theorem ltS_irr (s : Str) : ltS s s = false := by unfold ltS; simp [List.lt_irrefl]
theorem ltS_asymm {s t : Str} (h : ltS s t = true) : ltS t s = false := by
  unfold ltS at *
  simp only [decide_eq_true_eq, decide_eq_false_iff_not] at *
  exact fun z => List.lt_irrefl _ (List.lt_trans h z)
theorem ltS_trans {s t u : Str} (h : ltS s t = true) (h2 : ltS t u = true) : ltS s u = true := by
  unfold ltS at *
  simp only [decide_eq_true_eq] at *
  exact List.lt_trans h h2
theorem ltS_eq {s t : Str} (h : ltS s t = false) (h2 : ltS t s = false) : s = t := by
  unfold ltS at *
  simp only [decide_eq_false_iff_not, List.not_lt] at *
  have := List.le_antisymm h2 h
  cases s; cases t
  simp only [Str.mk.injEq]
  exact Array.toList_inj.mp this
theorem cmpS_eq {s t : Str} : cmpS s t = .eq ↔ s = t := by
  unfold cmpS
  constructor
  · intro h
    split at h
    · cases h
    · split at h
      · cases h
      · rename_i a b
        exact ltS_eq (by simpa using a) (by simpa using b)
  · intro h
    subst h
    rw [ltS_irr]; rfl
theorem cmpS_lt {s t : Str} : cmpS s t = .lt ↔ ltS s t = true := by
  unfold cmpS
  constructor
  · intro h
    split at h
    · assumption
    · split at h <;> cases h
  · intro h; rw [h]; rfl
theorem cmpS_gt {s t : Str} : cmpS s t = .gt ↔ ltS t s = true := by
  unfold cmpS
  constructor
  · intro h
    split at h
    · cases h
    · split at h
      · assumption
      · cases h
  · intro h; rw [ltS_asymm h, h]; rfl
/-- two trees of unlike kinds -/
theorem cmpP_code {x y : P} (h : codeP x ≠ codeP y ∨ codeP x = 3) : cmpP x y = cmpN (codeP x) (codeP y) := by
  cases x <;> cases y <;> first | rfl | (simp [codeP] at h; done) | simp [cmpP, codeP]
theorem cmpN_swap (i j : Nat) : cmpN j i = (cmpN i j).swap := by
  cases e : cmpN i j with
  | lt => exact cmpN_gt.mpr (cmpN_lt.mp e)
  | gt => exact cmpN_lt.mpr (cmpN_gt.mp e)
  | eq => exact cmpN_eq.mpr (cmpN_eq.mp e).symm
theorem cmpI_swap (i j : Int) : cmpI j i = (cmpI i j).swap := by
  cases e : cmpI i j with
  | lt => exact cmpI_gt.mpr (cmpI_lt.mp e)
  | gt => exact cmpI_lt.mpr (cmpI_gt.mp e)
  | eq => exact cmpI_eq.mpr (cmpI_eq.mp e).symm
theorem cmpS_swap (i j : Str) : cmpS j i = (cmpS i j).swap := by
  cases e : cmpS i j with
  | lt => exact cmpS_gt.mpr (cmpS_lt.mp e)
  | gt => exact cmpS_lt.mpr (cmpS_gt.mp e)
  | eq => exact cmpS_eq.mpr (cmpS_eq.mp e).symm
theorem cmpP_swapC {x y : P} (h : codeP x ≠ codeP y ∨ codeP x = 3) : cmpP y x = (cmpP x y).swap := by
  have h2 : codeP y ≠ codeP x ∨ codeP y = 3 := by
    rcases h with h | h
    · exact .inl (Ne.symm h)
    · by_cases q : codeP y = codeP x
      · exact .inr (q.trans h)
      · exact .inl q
  rw [cmpP_code h, cmpP_code h2, cmpN_swap]
mutual
theorem cmpP_swap : ∀ x y : P, cmpP y x = (cmpP x y).swap
  | .int i, y => by
    cases y with
    | int j => simp only [cmpP]; exact cmpI_swap i j
    | _ => exact cmpP_swapC (.inl (by simp [codeP]))
  | .str s, y => by
    cases y with
    | str t => simp only [cmpP]; exact cmpS_swap s t
    | _ => exact cmpP_swapC (.inl (by simp [codeP]))
  | .tup xs, y => by
    cases y with
    | tup ys => simp only [cmpP]; exact cmpPs_swap xs ys
    | _ => exact cmpP_swapC (.inl (by simp [codeP]))
  | .non, y => cmpP_swapC (.inr rfl)
  | .bl _, y => cmpP_swapC (.inr rfl)
  | .dct _ _, y => cmpP_swapC (.inr rfl)
  | .lst _, y => cmpP_swapC (.inr rfl)
  | .set _, y => cmpP_swapC (.inr rfl)
  | .ins _ _ _, y => cmpP_swapC (.inr rfl)
  | .exc _ _ _ _ _ _, y => cmpP_swapC (.inr rfl)
  | .ty _, y => cmpP_swapC (.inr rfl)
  | .cls _, y => cmpP_swapC (.inr rfl)
  | .fn _, y => cmpP_swapC (.inr rfl)
  | .thk _ _ _ _ _, y => cmpP_swapC (.inr rfl)
  | .wt _, y => cmpP_swapC (.inr rfl)
  | .scr _, y => cmpP_swapC (.inr rfl)
theorem cmpPs_swap : ∀ xs ys : List P, cmpPs ys xs = (cmpPs xs ys).swap
  | [], ys => by cases ys <;> simp [cmpPs]
  | x :: xs, ys => by
    cases ys with
    | nil => simp [cmpPs]
    | cons y ys =>
      simp only [cmpPs]
      rw [cmpP_swap x y, cmpPs_swap xs ys]
      cases cmpP x y <;> rfl
end
/-- at most, and at most again -/
def leO : Ordering → Bool
  | .gt => false
  | _ => true
/-- how z stands to x by y's standing between -/
def chain (a b c : Ordering) : Prop := (a = .eq → c = b) ∧ (b = .eq → c = a) ∧ (a = .lt → b = .lt → c = .lt) ∧ (a = .gt → b = .gt → c = .gt)
theorem chain_of {x y z : P} (h1 : codeP x ≠ codeP y ∨ codeP x = 3) (h2 : codeP y ≠ codeP z ∨ codeP y = 3) (h3 : codeP x ≠ codeP z ∨ codeP x = 3) : chain (cmpP x y) (cmpP y z) (cmpP x z) := by
  rw [cmpP_code h1, cmpP_code h2, cmpP_code h3]
  refine ⟨fun h => ?_, fun h => ?_, fun h h' => ?_, fun h h' => ?_⟩
  · rw [cmpN_eq.mp h]
  · rw [cmpN_eq.mp h]
  · exact cmpN_lt.mpr (Nat.lt_trans (cmpN_lt.mp h) (cmpN_lt.mp h'))
  · exact cmpN_gt.mpr (Nat.lt_trans (cmpN_gt.mp h') (cmpN_gt.mp h))
theorem codeN {x y : P} (h : codeP x ≠ codeP y) : cmpP x y = cmpN (codeP x) (codeP y) := cmpP_code (.inl h)
/-- two of a kind, and a third one of another -/
theorem chain_k {x y z : P} (h : ¬ (codeP x = codeP y ∧ codeP y = codeP z)) (hs : ∀ u v : P, codeP u = 3 → codeP v = 3 → cmpP u v = .eq) : chain (cmpP x y) (cmpP y z) (cmpP x z) := by
  by_cases h1 : codeP x = codeP y
  · have h2 : codeP y ≠ codeP z := fun e => h ⟨h1, e⟩
    have h3 : codeP x ≠ codeP z := by rw [h1]; exact h2
    rw [codeN h2, codeN h3, h1]
    refine ⟨fun _ => rfl, fun e => absurd (cmpN_eq.mp e) h2, fun _ e => e, fun _ e => e⟩
  · by_cases h2 : codeP y = codeP z
    · have h3 : codeP x ≠ codeP z := by rw [← h2]; exact h1
      rw [codeN h1, codeN h3, h2]
      rw [h2] at h1
      refine ⟨fun e => absurd (cmpN_eq.mp e) h1, fun _ => rfl, fun e _ => e, fun e _ => e⟩
    · rw [codeN h1, codeN h2]
      by_cases h3 : codeP x = codeP z
      · refine ⟨fun e => absurd (cmpN_eq.mp e) h1, fun e => absurd (cmpN_eq.mp e) h2, fun e e' => ?_, fun e e' => ?_⟩
        · have := cmpN_lt.mp e; have := cmpN_lt.mp e'; omega
        · have := cmpN_gt.mp e; have := cmpN_gt.mp e'; omega
      · rw [codeN h3]
        refine ⟨fun e => absurd (cmpN_eq.mp e) h1, fun e => absurd (cmpN_eq.mp e) h2, fun e e' => ?_, fun e e' => ?_⟩
        · exact cmpN_lt.mpr (Nat.lt_trans (cmpN_lt.mp e) (cmpN_lt.mp e'))
        · exact cmpN_gt.mpr (Nat.lt_trans (cmpN_gt.mp e') (cmpN_gt.mp e))
theorem cmpP_3 (u v : P) (h : codeP u = 3) (h2 : codeP v = 3) : cmpP u v = .eq := by rw [cmpP_code (.inr h), h, h2]; rfl
theorem codeP_int {x : P} (h : codeP x = 0) : ∃ i, x = .int i := by cases x <;> first | exact ⟨_, rfl⟩ | cases h
theorem codeP_str {x : P} (h : codeP x = 1) : ∃ i, x = .str i := by cases x <;> first | exact ⟨_, rfl⟩ | cases h
theorem codeP_tup {x : P} (h : codeP x = 2) : ∃ i, x = .tup i := by cases x <;> first | exact ⟨_, rfl⟩ | cases h
mutual
theorem cmpP_chain : ∀ x y z : P, chain (cmpP x y) (cmpP y z) (cmpP x z)
  | .int i, y, z => by
    by_cases h : codeP (.int i) = codeP y ∧ codeP y = codeP z
    · obtain ⟨j, rfl⟩ := codeP_int (x := y) h.1.symm
      obtain ⟨k, rfl⟩ := codeP_int (x := z) h.2.symm
      simp only [cmpP]
      refine ⟨fun h => ?_, fun h => ?_, fun h h' => ?_, fun h h' => ?_⟩
      · rw [cmpI_eq.mp h]
      · rw [cmpI_eq.mp h]
      · exact cmpI_lt.mpr (Int.lt_trans (cmpI_lt.mp h) (cmpI_lt.mp h'))
      · exact cmpI_gt.mpr (Int.lt_trans (cmpI_gt.mp h') (cmpI_gt.mp h))
    · exact chain_k h cmpP_3
  | .str s, y, z => by
    by_cases h : codeP (.str s) = codeP y ∧ codeP y = codeP z
    · obtain ⟨j, rfl⟩ := codeP_str (x := y) h.1.symm
      obtain ⟨k, rfl⟩ := codeP_str (x := z) h.2.symm
      simp only [cmpP]
      refine ⟨fun h => ?_, fun h => ?_, fun h h' => ?_, fun h h' => ?_⟩
      · rw [cmpS_eq.mp h]
      · rw [cmpS_eq.mp h]
      · exact cmpS_lt.mpr (ltS_trans (cmpS_lt.mp h) (cmpS_lt.mp h'))
      · exact cmpS_gt.mpr (ltS_trans (cmpS_gt.mp h') (cmpS_gt.mp h))
    · exact chain_k h cmpP_3
  | .tup xs, y, z => by
    by_cases h : codeP (.tup xs) = codeP y ∧ codeP y = codeP z
    · obtain ⟨j, rfl⟩ := codeP_tup (x := y) h.1.symm
      obtain ⟨k, rfl⟩ := codeP_tup (x := z) h.2.symm
      simp only [cmpP]
      exact cmpPs_chain xs j k
    · exact chain_k h cmpP_3
  | .non, y, z => by
    by_cases h : codeP (.non) = codeP y ∧ codeP y = codeP z
    · exact chain_of (.inr rfl) (.inr h.1.symm) (.inr rfl)
    · exact chain_k h cmpP_3
  | .bl _, y, z => by
    by_cases h : 3 = codeP y ∧ codeP y = codeP z
    · exact chain_of (.inr rfl) (.inr h.1.symm) (.inr rfl)
    · exact chain_k h cmpP_3
  | .dct _ _, y, z => by
    by_cases h : 3 = codeP y ∧ codeP y = codeP z
    · exact chain_of (.inr rfl) (.inr h.1.symm) (.inr rfl)
    · exact chain_k h cmpP_3
  | .lst _, y, z => by
    by_cases h : 3 = codeP y ∧ codeP y = codeP z
    · exact chain_of (.inr rfl) (.inr h.1.symm) (.inr rfl)
    · exact chain_k h cmpP_3
  | .set _, y, z => by
    by_cases h : 3 = codeP y ∧ codeP y = codeP z
    · exact chain_of (.inr rfl) (.inr h.1.symm) (.inr rfl)
    · exact chain_k h cmpP_3
  | .ins _ _ _, y, z => by
    by_cases h : 3 = codeP y ∧ codeP y = codeP z
    · exact chain_of (.inr rfl) (.inr h.1.symm) (.inr rfl)
    · exact chain_k h cmpP_3
  | .exc _ _ _ _ _ _, y, z => by
    by_cases h : 3 = codeP y ∧ codeP y = codeP z
    · exact chain_of (.inr rfl) (.inr h.1.symm) (.inr rfl)
    · exact chain_k h cmpP_3
  | .ty _, y, z => by
    by_cases h : 3 = codeP y ∧ codeP y = codeP z
    · exact chain_of (.inr rfl) (.inr h.1.symm) (.inr rfl)
    · exact chain_k h cmpP_3
  | .cls _, y, z => by
    by_cases h : 3 = codeP y ∧ codeP y = codeP z
    · exact chain_of (.inr rfl) (.inr h.1.symm) (.inr rfl)
    · exact chain_k h cmpP_3
  | .fn _, y, z => by
    by_cases h : 3 = codeP y ∧ codeP y = codeP z
    · exact chain_of (.inr rfl) (.inr h.1.symm) (.inr rfl)
    · exact chain_k h cmpP_3
  | .thk _ _ _ _ _, y, z => by
    by_cases h : 3 = codeP y ∧ codeP y = codeP z
    · exact chain_of (.inr rfl) (.inr h.1.symm) (.inr rfl)
    · exact chain_k h cmpP_3
  | .wt _, y, z => by
    by_cases h : 3 = codeP y ∧ codeP y = codeP z
    · exact chain_of (.inr rfl) (.inr h.1.symm) (.inr rfl)
    · exact chain_k h cmpP_3
  | .scr _, y, z => by
    by_cases h : 3 = codeP y ∧ codeP y = codeP z
    · exact chain_of (.inr rfl) (.inr h.1.symm) (.inr rfl)
    · exact chain_k h cmpP_3
theorem cmpPs_chain : ∀ x y z : List P, chain (cmpPs x y) (cmpPs y z) (cmpPs x z)
  | [], y, z => by
    cases y <;> cases z <;> simp [cmpPs, chain]
  | x :: xs, y, z => by
    cases y with
    | nil => cases z <;> simp [cmpPs, chain]
    | cons y ys =>
      cases z with
      | nil => simp [cmpPs, chain]
      | cons z zs =>
        have h1 := cmpP_chain x y z
        have h2 := cmpPs_chain xs ys zs
        simp only [cmpPs]
        unfold chain at h1 h2 ⊢
        obtain ⟨a1, a2, a3, a4⟩ := h1
        cases e1 : cmpP x y <;> cases e2 : cmpP y z <;> simp [e1, e2] at a1 a2 a3 a4 ⊢ <;> first | (simp only [a1]; exact h2) | simp [*]
end
theorem cmpP_refl (x : P) : cmpP x x = .eq := by
  have h := cmpP_swap x x
  cases e : cmpP x x <;> rw [e] at h <;> first | rfl | cases h
theorem ltP_swo : SrtO.Swo ltP := by
  refine ⟨fun x y h => ?_, fun x y z h1 h2 => ?_⟩
  · unfold ltP at *
    rw [cmpP_swap x y]
    cases e : cmpP x y <;> rw [e] at h <;> first | rfl | cases h
  · unfold ltP at *
    obtain ⟨a1, a2, a3, a4⟩ := cmpP_chain z y x
    cases e1 : cmpP z y <;> cases e2 : cmpP y x <;> rw [e1] at h2 a1 a2 a3 a4 <;> rw [e2] at h1 a1 a2 a3 a4 <;> first | (cases h1; done) | (cases h2; done) | simp_all
section
variable {α : Type} {lt : α → α → Bool}
theorem insP_mem {x y : α} : ∀ {l : List α}, y ∈ insP lt x l ↔ y = x ∨ y ∈ l
  | [] => by simp [insP]
  | a :: l => by
    unfold insP
    split
    · rw [List.mem_cons, insP_mem, List.mem_cons]
      constructor <;> (rintro (h | h | h) <;> simp [h])
    · simp
theorem insP_perm {x : α} : ∀ {l : List α}, (insP lt x l).Perm (x :: l)
  | [] => List.Perm.refl _
  | a :: l => by
    unfold insP
    split
    · exact (List.Perm.cons a insP_perm).trans (List.Perm.swap x a l)
    · exact List.Perm.refl _
theorem srtP_perm : ∀ {l : List α}, (srtP lt l).Perm l
  | [] => List.Perm.refl _
  | a :: l => insP_perm.trans (List.Perm.cons a srtP_perm)
theorem srtP_length (l : List α) : (srtP lt l).length = l.length := srtP_perm.length_eq
theorem srtP_mem {x : α} {l : List α} : x ∈ srtP lt l ↔ x ∈ l := srtP_perm.mem_iff
theorem insP_srtd (O : SrtO.Swo lt) {x : α} : ∀ {l : List α}, SrtO.Srtd lt l → SrtO.Srtd lt (insP lt x l)
  | [], _ => SrtO.srtd_one x
  | a :: l, h => by
    unfold insP
    have h' := List.pairwise_cons.mp h
    split
    · rename_i e
      refine List.pairwise_cons.mpr ⟨fun y hy => ?_, insP_srtd O h'.2⟩
      rcases insP_mem.mp hy with q | q
      · subst q; exact O.asym _ _ e
      · exact h'.1 y q
    · rename_i e
      have e : lt a x = false := by simpa using e
      refine List.pairwise_cons.mpr ⟨fun y hy => ?_, h⟩
      rcases List.mem_cons.mp hy with q | q
      · subst q; exact e
      · exact O.tr x a y e (h'.1 y q)
theorem srtP_srtd (O : SrtO.Swo lt) : ∀ l : List α, SrtO.Srtd lt (srtP lt l)
  | [] => List.Pairwise.nil
  | a :: l => insP_srtd O (srtP_srtd O l)
theorem insP_cls (O : SrtO.Swo lt) {x z : α} : ∀ {l : List α}, (insP lt x l).filter (SrtO.eqv lt z) = (x :: l).filter (SrtO.eqv lt z)
  | [] => rfl
  | a :: l => by
    unfold insP
    split
    · rename_i e
      rw [List.filter_cons, insP_cls O, List.filter_cons, List.filter_cons, List.filter_cons]
      cases h1 : SrtO.eqv lt z a <;> cases h2 : SrtO.eqv lt z x <;> first | rfl | skip
      have q1 := SrtO.eqv_iff.mp h1
      have q2 := SrtO.eqv_iff.mp h2
      have := O.tr x z a q2.1 q1.2
      rw [e] at this
      cases this
    · rfl
theorem srtP_stb (O : SrtO.Swo lt) : ∀ l : List α, SrtO.Stb lt (srtP lt l) l
  | [] => SrtO.Stb.refl _
  | a :: l => ⟨srtP_perm, fun z => by
    show (insP lt a (srtP lt l)).filter _ = _
    rw [insP_cls O, List.filter_cons, List.filter_cons, (srtP_stb O l).cls z]⟩
theorem srtP_map {β : Type} {ltb : β → β → Bool} (f : α → β) (h : ∀ x y, lt x y = ltb (f x) (f y)) : ∀ l : List α, (srtP lt l).map f = srtP ltb (l.map f)
  | [] => rfl
  | a :: l => by
    show (insP lt a (srtP lt l)).map f = insP ltb (f a) (srtP ltb (l.map f))
    rw [← srtP_map f h l]
    generalize srtP lt l = m
    induction m with
    | nil => rfl
    | cons b m ih =>
      unfold insP
      rw [List.map_cons]
      simp only [h]
      split
      · rw [List.map_cons, ih]
      · rfl
end
end Z
set_option Elab.async false
set_option linter.all false
set_option maxRecDepth 100000
set_option maxHeartbeats 1000000
namespace Z
open PySem L2
open PySem.SeqAt (EqAt)
mutual
def TV (h : Heap) : P → Value → Prop
  | .int i, v => ∃ t, v = .int i t
  | .str s, v => ∃ t, v = .str s t
  | .tup xs, v => ∃ a its, v = .ref a ∧ h.IsTuple a its ∧ TVs h xs its.toList
  | _, _ => False
def TVs (h : Heap) : List P → List Value → Prop
  | [], [] => True
  | x :: xs, v :: vs => TV h x v ∧ TVs h xs vs
  | _, _ => False
end
theorem TVs.length {h : Heap} : ∀ {xs : List P} {vs : List Value}, TVs h xs vs → xs.length = vs.length
  | [], [], _ => rfl
  | [], _ :: _, q => by simp only [TVs] at q
  | _ :: _, [], q => by simp only [TVs] at q
  | x :: xs, v :: vs, q => by
    simp only [TVs] at q
    simp only [List.length_cons, TVs.length q.2]
theorem TVs.get {h : Heap} : ∀ {xs : List P} {vs : List Value} {j : Nat} {v : Value}, TVs h xs vs → vs[j]? = some v → ∃ x, xs[j]? = some x ∧ TV h x v
  | [], [], _, _, _, e => by simp at e
  | [], _ :: _, _, _, q, _ => by simp only [TVs] at q
  | _ :: _, [], _, _, q, _ => by simp only [TVs] at q
  | x :: xs, w :: vs, 0, v, q, e => by
    simp only [TVs] at q
    have : w = v := by simpa using e
    subst this
    exact ⟨x, rfl, q.1⟩
  | x :: xs, w :: vs, j + 1, v, q, e => by
    simp only [TVs] at q
    obtain ⟨y, e1, e2⟩ := TVs.get q.2 (show vs[j]? = some v by simpa using e)
    exact ⟨y, by simpa using e1, e2⟩
mutual
theorem tv_of {X : Cx} {pins : List (Addr × Obj)} {sg : St} {H : Hp} {s : Shared} {Z : Zs} (I : Inv X pins sg H s) : ∀ {x : P} {n : Nat} {v : V} {u : Value}, RP X.K X.mg Z H v x → RelV v u → okO n x = true → TV s.heap x u
  | .int i, n, v, u, h, r, e => by
    simp only [RP] at h
    subst h
    simp only [TV]
    exact r
  | .str i, n, v, u, h, r, e => by
    simp only [RP] at h
    subst h
    simp only [TV]
    exact r
  | .tup xs, 0, _, _, _, _, e => by simp only [okO] at e; cases e
  | .tup xs, n + 1, v, u, h, r, e => by
    simp only [RP] at h
    obtain ⟨a, us, rfl, st, rs⟩ := h
    simp only [okO] at e
    obtain ⟨its, rv, ⟨o, ho, hc, m, hd⟩, _⟩ := I.tuple st.1
    simp only [TV]
    exact ⟨a, its.toArray, r, ⟨o, ho, hc, m, hd⟩, tvs_of I rs rv e⟩
  | .non, _, _, _, _, _, e => by simp only [okO] at e; cases e
  | .bl _, _, _, _, _, _, e => by simp only [okO] at e; cases e
  | .lst _, _, _, _, _, _, e => by simp only [okO] at e; cases e
  | .dct _ _, _, _, _, _, _, e => by simp only [okO] at e; cases e
  | .set _, _, _, _, _, _, e => by simp only [okO] at e; cases e
  | .ins _ _ _, _, _, _, _, _, e => by simp only [okO] at e; cases e
  | .exc _ _ _ _ _ _, _, _, _, _, _, e => by simp only [okO] at e; cases e
  | .ty _, _, _, _, _, _, e => by simp only [okO] at e; cases e
  | .cls _, _, _, _, _, _, e => by simp only [okO] at e; cases e
  | .fn _, _, _, _, _, _, e => by simp only [okO] at e; cases e
  | .thk _ _ _ _ _, _, _, _, _, _, e => by simp only [okO] at e; cases e
  | .wt _, _, _, _, _, _, e => by simp only [okO] at e; cases e
  | .scr _, _, _, _, _, _, e => by simp only [okO] at e; cases e
theorem tvs_of {X : Cx} {pins : List (Addr × Obj)} {sg : St} {H : Hp} {s : Shared} {Z : Zs} (I : Inv X pins sg H s) : ∀ {xs : List P} {n : Nat} {vs : List V} {us : List Value}, RPs X.K X.mg Z H vs xs → Vals vs us → okOs n xs = true → TVs s.heap xs us
  | [], n, [], us, h, r, e => by
    cases r
    simp only [TVs]
  | [], _, _ :: _, _, h, _, _ => by simp only [RPs] at h
  | _ :: _, _, [], _, h, _, _ => by simp only [RPs] at h
  | x :: xs, n, v :: vs, us, h, r, e => by
    simp only [RPs] at h
    simp only [okOs, Bool.and_eq_true] at e
    cases r with
    | cons r1 r2 =>
      simp only [TVs]
      exact ⟨tv_of I h.1 r1 e.1, tvs_of I h.2 r2 e.2⟩
end
/-- the tuples of h stand in h' -/
def KpT (h h' : Heap) : Prop := ∀ b o, h.get? b = some o → o.cls = .type "tuple" → h'.get? b = some o
mutual
theorem TV.kp {h h' : Heap} (k : KpT h h') : ∀ {x : P} {v : Value}, TV h x v → TV h' x v
  | .int i, _, q => by simpa only [TV] using q
  | .str s, _, q => by simpa only [TV] using q
  | .tup xs, _, q => by
    simp only [TV] at q ⊢
    obtain ⟨a, its, e, ⟨o, ho, hc, hd⟩, r⟩ := q
    exact ⟨a, its, e, ⟨o, k a o ho hc, hc, hd⟩, TVs.kp k r⟩
  | .non, _, q => by simp only [TV] at q
  | .bl _, _, q => by simp only [TV] at q
  | .lst _, _, q => by simp only [TV] at q
  | .dct _ _, _, q => by simp only [TV] at q
  | .set _, _, q => by simp only [TV] at q
  | .ins _ _ _, _, q => by simp only [TV] at q
  | .exc _ _ _ _ _ _, _, q => by simp only [TV] at q
  | .ty _, _, q => by simp only [TV] at q
  | .cls _, _, q => by simp only [TV] at q
  | .fn _, _, q => by simp only [TV] at q
  | .thk _ _ _ _ _, _, q => by simp only [TV] at q
  | .wt _, _, q => by simp only [TV] at q
  | .scr _, _, q => by simp only [TV] at q
theorem TVs.kp {h h' : Heap} (k : KpT h h') : ∀ {xs : List P} {vs : List Value}, TVs h xs vs → TVs h' xs vs
  | [], [], _ => by simp only [TVs]
  | [], _ :: _, q => by simp only [TVs] at q
  | _ :: _, [], q => by simp only [TVs] at q
  | x :: xs, v :: vs, q => by
    simp only [TVs] at q ⊢
    exact ⟨TV.kp k q.1, TVs.kp k q.2⟩
end
mutual
theorem TV.reads {h : Heap} : ∀ {x : P} {v : Value}, TV h x v → ∃ as, Reads h v (dat x) as
  | .int i, _, q => by
    simp only [TV] at q
    obtain ⟨t, rfl⟩ := q
    exact ⟨_, .int i t⟩
  | .str i, _, q => by
    simp only [TV] at q
    obtain ⟨t, rfl⟩ := q
    exact ⟨_, .str i t⟩
  | .tup xs, _, q => by
    simp only [TV] at q
    obtain ⟨a, its, e, ⟨o, ho, hc, n, hd⟩, r⟩ := q
    obtain ⟨as, q2⟩ := TVs.reads r
    subst e
    exact ⟨_, .tuple ho hc hd q2⟩
  | .non, _, q => by simp only [TV] at q
  | .bl _, _, q => by simp only [TV] at q
  | .lst _, _, q => by simp only [TV] at q
  | .dct _ _, _, q => by simp only [TV] at q
  | .set _, _, q => by simp only [TV] at q
  | .ins _ _ _, _, q => by simp only [TV] at q
  | .exc _ _ _ _ _ _, _, q => by simp only [TV] at q
  | .ty _, _, q => by simp only [TV] at q
  | .cls _, _, q => by simp only [TV] at q
  | .fn _, _, q => by simp only [TV] at q
  | .thk _ _ _ _ _, _, q => by simp only [TV] at q
  | .wt _, _, q => by simp only [TV] at q
  | .scr _, _, q => by simp only [TV] at q
theorem TVs.reads {h : Heap} : ∀ {xs : List P} {vs : List Value}, TVs h xs vs → ∃ as, ReadsAll h vs (dats xs) as
  | [], [], _ => ⟨_, .nil⟩
  | [], _ :: _, q => by simp only [TVs] at q
  | _ :: _, [], q => by simp only [TVs] at q
  | x :: xs, v :: vs, q => by
    simp only [TVs] at q
    obtain ⟨as, q1⟩ := TV.reads q.1
    obtain ⟨bs, q2⟩ := TVs.reads q.2
    exact ⟨_, .cons q1 q2⟩
end
mutual
theorem okN_of : ∀ {x : P} {n : Nat}, okO n x = true → okN n x = true
  | .int i, _, _ => by simp only [okN]
  | .str s, _, e => by simpa only [okN, okO] using e
  | .tup xs, 0, e => by simp only [okO] at e; cases e
  | .tup xs, n + 1, e => by
    simp only [okO] at e
    simp only [okN]
    exact okNs_of e
  | .non, _, e => by simp only [okO] at e; cases e
  | .bl _, _, e => by simp only [okO] at e; cases e
  | .lst _, _, e => by simp only [okO] at e; cases e
  | .dct _ _, _, e => by simp only [okO] at e; cases e
  | .set _, _, e => by simp only [okO] at e; cases e
  | .ins _ _ _, _, e => by simp only [okO] at e; cases e
  | .exc _ _ _ _ _ _, _, e => by simp only [okO] at e; cases e
  | .ty _, _, e => by simp only [okO] at e; cases e
  | .cls _, _, e => by simp only [okO] at e; cases e
  | .fn _, _, e => by simp only [okO] at e; cases e
  | .thk _ _ _ _ _, _, e => by simp only [okO] at e; cases e
  | .wt _, _, e => by simp only [okO] at e; cases e
  | .scr _, _, e => by simp only [okO] at e; cases e
theorem okNs_of : ∀ {xs : List P} {n : Nat}, okOs n xs = true → okNs n xs = true
  | [], _, _ => by simp only [okNs]
  | x :: xs, n, e => by
    simp only [okOs, Bool.and_eq_true] at e
    simp only [okNs, Bool.and_eq_true]
    exact ⟨okN_of e.1, okNs_of e.2⟩
end
theorem okO_get : ∀ {xs : List P} {n j : Nat} {x : P}, okOs n xs = true → xs[j]? = some x → okO n x = true
  | [], _, _, _, _, e => by simp at e
  | y :: xs, n, 0, x, q, e => by
    simp only [okOs, Bool.and_eq_true] at q
    have : y = x := by simpa using e
    subst this
    exact q.1
  | y :: xs, n, j + 1, x, q, e => by
    simp only [okOs, Bool.and_eq_true] at q
    exact okO_get q.2 (show xs[j]? = some x by simpa using e)
theorem cmbN_get : ∀ {xs ys : List P} {n j : Nat} {x y : P}, cmbNs n xs ys = true → xs[j]? = some x → ys[j]? = some y → cmbN n x y = true
  | [], _, _, _, _, _, _, e, _ => by simp at e
  | _ :: _, [], _, _, _, _, _, _, e => by simp at e
  | a :: xs, b :: ys, n, 0, x, y, q, e, e2 => by
    simp only [cmbNs, Bool.and_eq_true] at q
    have e : a = x := by simpa using e
    have e2 : b = y := by simpa using e2
    subst e; subst e2
    exact q.1
  | a :: xs, b :: ys, n, j + 1, x, y, q, e, e2 => by
    simp only [cmbNs, Bool.and_eq_true] at q
    exact cmbN_get q.2 (show xs[j]? = some x by simpa using e) (show ys[j]? = some y by simpa using e2)
mutual
theorem eq_cmp : ∀ {x y : P} {n : Nat}, cmbN n x y = true → eqP x y = (cmpP x y == .eq)
  | .int i, y, n, e => by
    cases y <;> first | (cases n <;> simp [cmbN] at e; done) | skip
    simp only [eqP, cmpP]
    rename_i j
    by_cases h : i = j
    · rw [cmpI_eq.mpr h]; simp [h]
    · have h2 : cmpI i j ≠ .eq := fun z => h (cmpI_eq.mp z)
      cases e : cmpI i j <;> first | exact absurd e h2 | simp [h]
  | .str i, y, n, e => by
    cases y <;> first | (cases n <;> simp [cmbN] at e; done) | skip
    simp only [eqP, cmpP]
    rename_i j
    by_cases h : i = j
    · rw [cmpS_eq.mpr h]; simp [h]
    · have h2 : cmpS i j ≠ .eq := fun z => h (cmpS_eq.mp z)
      cases e : cmpS i j <;> first | exact absurd e h2 | simp [h]
  | .tup xs, y, 0, e => by cases y <;> simp [cmbN] at e
  | .tup xs, y, n + 1, e => by
    cases y <;> first | (simp [cmbN] at e; done) | skip
    simp only [eqP, cmpP]
    simp only [cmbN] at e
    exact eqs_cmp e
  | .non, y, n, e => by cases n <;> cases y <;> simp [cmbN] at e
  | .bl _, y, n, e => by cases n <;> cases y <;> simp [cmbN] at e
  | .lst _, y, n, e => by cases n <;> cases y <;> simp [cmbN] at e
  | .dct _ _, y, n, e => by cases n <;> cases y <;> simp [cmbN] at e
  | .set _, y, n, e => by cases n <;> cases y <;> simp [cmbN] at e
  | .ins _ _ _, y, n, e => by cases n <;> cases y <;> simp [cmbN] at e
  | .exc _ _ _ _ _ _, y, n, e => by cases n <;> cases y <;> simp [cmbN] at e
  | .ty _, y, n, e => by cases n <;> cases y <;> simp [cmbN] at e
  | .cls _, y, n, e => by cases n <;> cases y <;> simp [cmbN] at e
  | .fn _, y, n, e => by cases n <;> cases y <;> simp [cmbN] at e
  | .thk _ _ _ _ _, y, n, e => by cases n <;> cases y <;> simp [cmbN] at e
  | .wt _, y, n, e => by cases n <;> cases y <;> simp [cmbN] at e
  | .scr _, y, n, e => by cases n <;> cases y <;> simp [cmbN] at e
theorem eqs_cmp : ∀ {xs ys : List P} {n : Nat}, cmbNs n xs ys = true → eqPs xs ys = (cmpPs xs ys == .eq)
  | [], ys, n, e => by cases ys <;> simp [eqPs, cmpPs]
  | x :: xs, ys, n, e => by
    cases ys with
    | nil => simp [eqPs, cmpPs]
    | cons y ys =>
      simp only [cmbNs, Bool.and_eq_true] at e
      simp only [eqPs, cmpPs, eq_cmp e.1, eqs_cmp e.2]
      cases cmpP x y <;> rfl
end
theorem eq_at {s : Shared} {A : Around} {x y : P} {n : Nat} {v u : Value} (hx : TV s.heap x v) (hy : TV s.heap y u) (ox : okO n x = true) (oy : okO n y = true) (hc : cmbN n x y = true) (hu : A.units + n < cLine) : EqAt A s v u (cmpP x y == .eq) := by
  obtain ⟨as, q1⟩ := hx.reads
  obtain ⟨bs, q2⟩ := hy.reads
  have l1 := lay_of (okN_of ox)
  have l2 := lay_of (okN_of oy)
  have q := PySem.SeqAt.eqAt_reads _ _ A s v u _ _ q1 q2 l1.1 l2.1 (by have := l1.2; have h := Nat.min_le_left (dat x).depth (dat y).depth; omega)
  rw [eqv_dat (okN_of ox) (okN_of oy), eq_cmp hc] at q
  exact q
theorem cmpI_d {i j : Int} : decide (i < j) = (cmpI i j == .lt) ∧ decide (i ≤ j) = (cmpI i j != .gt) ∧ decide (j < i) = (cmpI i j == .gt) ∧ decide (j ≤ i) = (cmpI i j != .lt) := by
  cases e : cmpI i j with
  | lt => have := cmpI_lt.mp e; refine ⟨?_, ?_, ?_, ?_⟩ <;> first | exact decide_eq_true (by omega) | exact decide_eq_false (by omega)
  | gt => have := cmpI_gt.mp e; refine ⟨?_, ?_, ?_, ?_⟩ <;> first | exact decide_eq_true (by omega) | exact decide_eq_false (by omega)
  | eq => have := cmpI_eq.mp e; refine ⟨?_, ?_, ?_, ?_⟩ <;> first | exact decide_eq_true (by omega) | exact decide_eq_false (by omega)
theorem cmpN_d {i j : Nat} : decide (i < j) = (cmpN i j == .lt) ∧ decide (i ≤ j) = (cmpN i j != .gt) ∧ decide (j < i) = (cmpN i j == .gt) ∧ decide (j ≤ i) = (cmpN i j != .lt) := by
  cases e : cmpN i j with
  | lt => have := cmpN_lt.mp e; refine ⟨?_, ?_, ?_, ?_⟩ <;> first | exact decide_eq_true (by omega) | exact decide_eq_false (by omega)
  | gt => have := cmpN_gt.mp e; refine ⟨?_, ?_, ?_, ?_⟩ <;> first | exact decide_eq_true (by omega) | exact decide_eq_false (by omega)
  | eq => have := cmpN_eq.mp e; refine ⟨?_, ?_, ?_, ?_⟩ <;> first | exact decide_eq_true (by omega) | exact decide_eq_false (by omega)
theorem cmpN_succ {i j : Nat} : cmpN (i + 1) (j + 1) = cmpN i j := by
  cases e : cmpN i j with
  | lt => have := cmpN_lt.mp e; exact cmpN_lt.mpr (by omega)
  | gt => have := cmpN_gt.mp e; exact cmpN_gt.mpr (by omega)
  | eq => have := cmpN_eq.mp e; exact cmpN_eq.mpr (by omega)
/-- the four comparisons -/
structure Rc4 (A : Around) (s : Shared) (v u : Value) (o : Ordering) : Prop where
  lt : Ob.RcOp .Lt A s v u (o == .lt)
  le : Ob.RcOp .LtE A s v u (o != .gt)
  gt : Ob.RcOp .Gt A s v u (o == .gt)
  ge : Ob.RcOp .GtE A s v u (o != .lt)
theorem lex_cmp {g : Ordering → Bool} {e r : Nat → Bool} : ∀ (xs ys : List P) (i : Nat) (z : Bool), (∀ j x y, xs[j]? = some x → ys[j]? = some y → e (i + j) = (cmpP x y == .eq) ∧ (cmpP x y ≠ .eq → r (i + j) = g (cmpP x y))) → z = g (cmpN xs.length ys.length) → Ob.lexAt e r z i (min xs.length ys.length) = g (cmpPs xs ys)
  | [], ys, i, z, h, hz => by
    rw [List.length_nil, Nat.zero_min, Ob.lexAt_zero, hz]
    cases ys <;> simp [cmpPs, cmpN]
  | x :: xs, [], i, z, h, hz => by
    rw [List.length_nil, Nat.min_zero, Ob.lexAt_zero, hz]
    simp [cmpPs, cmpN]
  | x :: xs, y :: ys, i, z, h, hz => by
    have e1 : min (x :: xs).length (y :: ys).length = min xs.length ys.length + 1 := by simp only [List.length_cons]; omega
    obtain ⟨h1, h2⟩ := h 0 x y rfl rfl
    rw [Nat.add_zero] at h1 h2
    rw [e1, Ob.lexAt_succ, h1]
    simp only [cmpPs]
    cases ec : cmpP x y with
    | eq =>
      simp only [BEq.rfl, if_true]
      refine lex_cmp xs ys (i + 1) z (fun j a b ha hb => ?_) ?_
      · have q := h (j + 1) a b (by simpa using ha) (by simpa using hb)
        rw [show i + (j + 1) = i + 1 + j by omega] at q
        exact q
      · rw [hz]
        simp only [List.length_cons, cmpN_succ]
    | lt =>
      rw [ec] at h2
      simp only [h2 (by simp)]
      rfl
    | gt =>
      rw [ec] at h2
      simp only [h2 (by simp)]
      rfl
theorem units_in1 {A : Around} : A.in1.units = A.units + 1 := rfl
theorem rc4 {s : Shared} : ∀ {n : Nat} {x y : P} {A : Around} {v u : Value}, TV s.heap x v → TV s.heap y u → okO n x = true → okO n y = true → cmbN n x y = true → A.units + n + n < cLine → Rc4 A s v u (cmpP x y)
  | n, .int i, .int j, A, v, u, hx, hy, ox, oy, hc, hu => by
    simp only [TV] at hx hy
    obtain ⟨t, rfl⟩ := hx
    obtain ⟨t2, rfl⟩ := hy
    simp only [cmpP]
    have q1 := Ob.RcOp.lt_int (A := A) (s := s) i j t t2
    have q2 := Ob.RcOp.le_int (A := A) (s := s) i j t t2
    have q3 := Ob.RcOp.gt_int (A := A) (s := s) i j t t2
    have q4 := Ob.RcOp.ge_int (A := A) (s := s) i j t t2
    obtain ⟨e1, e2, e3, e4⟩ := cmpI_d (i := i) (j := j)
    rw [e1] at q1; rw [e2] at q2; rw [e3] at q3; rw [e4] at q4
    exact ⟨q1, q2, q3, q4⟩
  | n, .str i, .str j, A, v, u, hx, hy, ox, oy, hc, hu => by
    simp only [TV] at hx hy
    obtain ⟨t, rfl⟩ := hx
    obtain ⟨t2, rfl⟩ := hy
    simp only [cmpP]
    have e1 : ltS i j = (cmpS i j == .lt) := by
      cases e : cmpS i j with
      | lt => rw [cmpS_lt.mp e]; rfl
      | gt => rw [ltS_asymm (cmpS_gt.mp e)]; rfl
      | eq => rw [cmpS_eq.mp e, ltS_irr]; rfl
    have e3 : ltS j i = (cmpS i j == .gt) := by
      cases e : cmpS i j with
      | lt => rw [ltS_asymm (cmpS_lt.mp e)]; rfl
      | gt => rw [cmpS_gt.mp e]; rfl
      | eq => rw [cmpS_eq.mp e, ltS_irr]; rfl
    have e2 : (!ltS j i) = (cmpS i j != .gt) := by rw [e3]; rfl
    have e4 : (!ltS i j) = (cmpS i j != .lt) := by rw [e1]; rfl
    refine ⟨?_, ?_, ?_, ?_⟩
    · rw [← e1]; exact fun _ _ _ _ h => PySem.P.lt_str h
    · rw [← e2]; exact fun _ _ _ _ h => PySem.P.le_str (by simpa [ltS] using h)
    · rw [← e3]; exact fun _ _ _ _ h => PySem.P.gt_str h
    · rw [← e4]; exact fun _ _ _ _ h => PySem.P.ge_str (by simpa [ltS] using h)
  | 0, .tup xs, y, A, v, u, hx, hy, ox, oy, hc, hu => by simp only [okO] at ox; cases ox
  | n + 1, .tup xs, .tup ys, A, v, u, hx, hy, ox, oy, hc, hu => by
    simp only [TV] at hx hy
    obtain ⟨a, its, rfl, ha, ra⟩ := hx
    obtain ⟨b, jts, rfl, hb, rb⟩ := hy
    simp only [okO] at ox oy
    simp only [cmbN] at hc
    simp only [cmpP]
    have la : xs.length = its.size := by rw [ra.length, Array.length_toList]
    have lb : ys.length = jts.size := by rw [rb.length, Array.length_toList]
    have hu1 : A.units < cLine := by omega
    let e : Nat → Bool := fun j => match xs[j]?, ys[j]? with
      | some x, some y => cmpP x y == Ordering.eq
      | _, _ => false
    let r : (Ordering → Bool) → Nat → Bool := fun g j => match xs[j]?, ys[j]? with
      | some x, some y => g (cmpP x y)
      | _, _ => false
    have at' : ∀ j (h1 : j < its.size) (h2 : j < jts.size), ∃ x y, xs[j]? = some x ∧ ys[j]? = some y ∧ TV s.heap x its[j] ∧ TV s.heap y jts[j] ∧ okO n x = true ∧ okO n y = true ∧ cmbN n x y = true := fun j h1 h2 => by
      obtain ⟨x, e1, t1⟩ := ra.get (j := j) (v := its[j]) (by simp [h1])
      obtain ⟨y, e2, t2⟩ := rb.get (j := j) (v := jts[j]) (by simp [h2])
      exact ⟨x, y, e1, e2, t1, t2, okO_get ox e1, okO_get oy e2, cmbN_get hc e1 e2⟩
    have he : ∀ j (h1 : j < its.size) (h2 : j < jts.size), EqAt A.in1 s its[j] jts[j] (e j) := fun j h1 h2 => by
      obtain ⟨x, y, e1, e2, t1, t2, o1, o2, c1⟩ := at' j h1 h2
      have ee : e j = (cmpP x y == Ordering.eq) := by simp only [e, e1, e2]
      rw [ee]
      exact eq_at t1 t2 o1 o2 c1 (by rw [units_in1]; omega)
    have hr : ∀ j (h1 : j < its.size) (h2 : j < jts.size), ∃ o, (∀ g, r g j = g o) ∧ Rc4 A.in1 s its[j] jts[j] o := fun j h1 h2 => by
      obtain ⟨x, y, e1, e2, t1, t2, o1, o2, c1⟩ := at' j h1 h2
      refine ⟨cmpP x y, fun g => ?_, rc4 t1 t2 o1 o2 c1 (by rw [units_in1]; omega)⟩
      simp only [r, e1, e2]
    have lx : ∀ (g : Ordering → Bool) (z : Bool), z = g (cmpN xs.length ys.length) → Ob.lexAt e (r g) z 0 (min its.size jts.size) = g (cmpPs xs ys) := fun g z hz => by
      rw [← la, ← lb]
      refine lex_cmp xs ys 0 z (fun j x y e1 e2 => ?_) hz
      rw [Nat.zero_add]
      constructor
      · simp only [e, e1, e2]
      · intro _
        simp only [r, e1, e2]
    refine ⟨?_, ?_, ?_, ?_⟩
    · rw [← lx (fun o => o == .lt) _ rfl]
      have q := Ob.RcOp.tuples_lt (e := e) (r := r (fun o => o == .lt)) ha hb hu1 he fun j h1 h2 _ => by
        obtain ⟨o, e1, q⟩ := hr j h1 h2
        rw [e1 (fun o => o == Ordering.lt)]; exact q.lt
      have ez : decide (its.size < jts.size) = (cmpN xs.length ys.length == .lt) := by rw [la, lb]; exact cmpN_d.1
      rw [ez] at q
      exact q
    · rw [← lx (fun o => o != .gt) _ rfl]
      have q := Ob.RcOp.tuples_le (e := e) (r := r (fun o => o != .gt)) ha hb hu1 he fun j h1 h2 _ => by
        obtain ⟨o, e1, q⟩ := hr j h1 h2
        rw [e1 (fun o => o != Ordering.gt)]; exact q.le
      have ez : decide (its.size ≤ jts.size) = (cmpN xs.length ys.length != .gt) := by rw [la, lb]; exact cmpN_d.2.1
      rw [ez] at q
      exact q
    · rw [← lx (fun o => o == .gt) _ rfl]
      have q := Ob.RcOp.tuples_gt (e := e) (r := r (fun o => o == .gt)) ha hb hu1 he fun j h1 h2 _ => by
        obtain ⟨o, e1, q⟩ := hr j h1 h2
        rw [e1 (fun o => o == Ordering.gt)]; exact q.gt
      have ez : decide (its.size > jts.size) = (cmpN xs.length ys.length == .gt) := by rw [la, lb]; exact cmpN_d.2.2.1
      rw [ez] at q
      exact q
    · rw [← lx (fun o => o != .lt) _ rfl]
      have q := Ob.RcOp.tuples_ge (e := e) (r := r (fun o => o != .lt)) ha hb hu1 he fun j h1 h2 _ => by
        obtain ⟨o, e1, q⟩ := hr j h1 h2
        rw [e1 (fun o => o != Ordering.lt)]; exact q.ge
      have ez : decide (its.size ≥ jts.size) = (cmpN xs.length ys.length != .lt) := by rw [la, lb]; exact cmpN_d.2.2.2
      rw [ez] at q
      exact q
  | n, .int _, .str _, _, _, _, _, _, _, _, hc, _ => by cases n <;> simp [cmbN] at hc
  | n, .int _, .tup _, _, _, _, _, _, _, _, hc, _ => by cases n <;> simp [cmbN] at hc
  | n, .str _, .int _, _, _, _, _, _, _, _, hc, _ => by cases n <;> simp [cmbN] at hc
  | n, .str _, .tup _, _, _, _, _, _, _, _, hc, _ => by cases n <;> simp [cmbN] at hc
  | n + 1, .tup _, .int _, _, _, _, _, _, _, _, hc, _ => by simp [cmbN] at hc
  | n + 1, .tup _, .str _, _, _, _, _, _, _, _, hc, _ => by simp [cmbN] at hc
  | n, .non, _, _, _, _, hx, _, _, _, _, _ => by simp only [TV] at hx
  | n, .bl _, _, _, _, _, hx, _, _, _, _, _ => by simp only [TV] at hx
  | n, .lst _, _, _, _, _, hx, _, _, _, _, _ => by simp only [TV] at hx
  | n, .dct _ _, _, _, _, _, hx, _, _, _, _, _ => by simp only [TV] at hx
  | n, .set _, _, _, _, _, hx, _, _, _, _, _ => by simp only [TV] at hx
  | n, .ins _ _ _, _, _, _, _, hx, _, _, _, _, _ => by simp only [TV] at hx
  | n, .exc _ _ _ _ _ _, _, _, _, _, hx, _, _, _, _, _ => by simp only [TV] at hx
  | n, .ty _, _, _, _, _, hx, _, _, _, _, _ => by simp only [TV] at hx
  | n, .cls _, _, _, _, _, hx, _, _, _, _, _ => by simp only [TV] at hx
  | n, .fn _, _, _, _, _, hx, _, _, _, _, _ => by simp only [TV] at hx
  | n, .thk _ _ _ _ _, _, _, _, _, hx, _, _, _, _, _ => by simp only [TV] at hx
  | n, .wt _, _, _, _, _, hx, _, _, _, _, _ => by simp only [TV] at hx
  | n, .scr _, _, _, _, _, hx, _, _, _, _, _ => by simp only [TV] at hx
  | n, _, .non, _, _, _, _, hy, _, _, _, _ => by simp only [TV] at hy
  | n, _, .bl _, _, _, _, _, hy, _, _, _, _ => by simp only [TV] at hy
  | n, _, .lst _, _, _, _, _, hy, _, _, _, _ => by simp only [TV] at hy
  | n, _, .dct _ _, _, _, _, _, hy, _, _, _, _ => by simp only [TV] at hy
  | n, _, .set _, _, _, _, _, hy, _, _, _, _ => by simp only [TV] at hy
  | n, _, .ins _ _ _, _, _, _, _, hy, _, _, _, _ => by simp only [TV] at hy
  | n, _, .exc _ _ _ _ _ _, _, _, _, _, hy, _, _, _, _ => by simp only [TV] at hy
  | n, _, .ty _, _, _, _, _, hy, _, _, _, _ => by simp only [TV] at hy
  | n, _, .cls _, _, _, _, _, hy, _, _, _, _ => by simp only [TV] at hy
  | n, _, .fn _, _, _, _, _, hy, _, _, _, _ => by simp only [TV] at hy
  | n, _, .thk _ _ _ _ _, _, _, _, _, hy, _, _, _, _ => by simp only [TV] at hy
  | n, _, .wt _, _, _, _, _, hy, _, _, _, _ => by simp only [TV] at hy
  | n, _, .scr _, _, _, _, _, hy, _, _, _, _ => by simp only [TV] at hy
end Z
set_option Elab.async false
set_option linter.all false
set_option maxRecDepth 100000
set_option maxHeartbeats 1000000
namespace Z
open PySem L2
open PySem.SeqAt (EqAt)
section
variable {X : Cx} {W : WX} {k : Nat}
theorem okCmp_inv {x y : P} (h : okCmp x y = true) : okO 30 x = true ∧ okO 30 y = true ∧ cmbN 30 x y = true := by
  unfold okCmp at h
  simp only [Bool.and_eq_true] at h
  exact ⟨h.1.1, h.1.2, h.2⟩
theorem rc_of (hr : RU X.A) {pins : List (Addr × Obj)} {s : Shared} {sg : St} {H : Hp} {Z : Zs} {x y : V} {v u : Value} {a b : P} (I : Inv X pins sg H s) (rx : RelV x v) (ry : RelV y u) (ra : RP X.K X.mg Z H x a) (rb : RP X.K X.mg Z H y b) (h : okCmp a b = true) : Rc4 X.A s v u (cmpP a b) := by
  obtain ⟨h1, h2, h3⟩ := okCmp_inv h
  exact rc4 (tv_of I ra rx h1) (tv_of I rb ry h2) h1 h2 h3 (by have := hr.un; omega)
theorem ov_lt (hr : RU X.A) : OpV X (compareOp .Lt) pLt := by
  intro pins s sg H x y v u Q I rx ry ⟨Z, a, b, r, ra, rb, e, q⟩
  unfold pLt at e
  split at e
  · rename_i hc
    cases e
    exact (rc_of hr I rx ry ra rb hc).lt _ _ _ _ ⟨.bl _, H, I, rfl, got_p q (by simp only [RP])⟩
  · cases e
theorem ov_le (hr : RU X.A) : OpV X (compareOp .LtE) pLe := by
  intro pins s sg H x y v u Q I rx ry ⟨Z, a, b, r, ra, rb, e, q⟩
  unfold pLe at e
  split at e
  · rename_i hc
    cases e
    exact (rc_of hr I rx ry ra rb hc).le _ _ _ _ ⟨.bl _, H, I, rfl, got_p q (by simp only [RP])⟩
  · cases e
theorem ov_gt (hr : RU X.A) : OpV X (compareOp .Gt) pGt := by
  intro pins s sg H x y v u Q I rx ry ⟨Z, a, b, r, ra, rb, e, q⟩
  unfold pGt at e
  split at e
  · rename_i hc
    cases e
    exact (rc_of hr I rx ry ra rb hc).gt _ _ _ _ ⟨.bl _, H, I, rfl, got_p q (by simp only [RP])⟩
  · cases e
theorem ov_ge (hr : RU X.A) : OpV X (compareOp .GtE) pGe := by
  intro pins s sg H x y v u Q I rx ry ⟨Z, a, b, r, ra, rb, e, q⟩
  unfold pGe at e
  split at e
  · rename_i hc
    cases e
    exact (rc_of hr I rx ry ra rb hc).ge _ _ _ _ ⟨.bl _, H, I, rfl, got_p q (by simp only [RP])⟩
  · cases e
end
section
variable {K : PySem.W.Frag} {mg : Str → Option Value} {Z : Zs} {H : Hp}
/-- a new thing of one's own that holds what O owns -/
theorem Vld.add {O : List Addr} {p : Addr} {o : HO} (v : Vld Z H O) (hp : H p = none) (hm : MutO p (some o)) : Vld Z (upd H p o) (p :: O) where
  tb := (Grow.new (Z := Z) hp (notTb.of hm.mut)).tb v.tb
  nd := List.nodup_cons.mpr ⟨fun m => by have := v.mu p m; rw [hp] at this; exact this, v.nd⟩
  nz a h z := by
    rcases List.mem_cons.mp h with e | e
    · subst e; exact v.zs _ z hp
    · exact v.nz a e z
  zs a z := by
    by_cases e : a = p
    · subst e; exact (v.zs _ z hp).elim
    · rw [upd_ne e]; exact v.zs a z
  mu a h := by
    rcases List.mem_cons.mp h with e | e
    · subst e; rw [upd_same]; exact hm
    · have m := v.mu a e
      by_cases q : a = p
      · subst q; rw [upd_same]; exact hm
      · rw [upd_ne q]; exact m
theorem Tr.add {O : List Addr} {p : Addr} {o : HO} (hp : H p = none) (ho : notTb o) : Tr Z H O Z (upd H p o) (p :: O) where
  tb := (Grow.new (Z := Z) hp ho).tb
  z1 a h := h
  z2 a h := .inl h
  o1 a h := by
    rcases List.mem_cons.mp h with e | e
    · subst e; exact .inr hp
    · exact .inl e
  kp a o' h _ _ := by rw [upd_ne (ne_of_none h hp)]; exact h
  nn a h := by
    by_cases e : a = p
    · subst e; exact hp
    · rw [upd_ne e] at h; exact h
theorem RDs.new {us : List V} {ds : List D} {O : List Addr} {p : Addr} {o : HO} (hp : H p = none) (h : RDs K mg Z H us ds O) : RDs K mg Z (upd H p o) us ds O := RDs.kp (fun _ q => q) (fun a o' e _ _ => by rw [upd_ne (ne_of_none e hp)]; exact e) h
theorem RPs.ds : ∀ {xs : List P} {us : List V}, RPs K mg Z H us xs → RDs K mg Z H us (xs.map D.p) []
  | [], [], _ => by simp only [List.map_nil, RDs]
  | [], _ :: _, h => by simp only [RPs] at h
  | _ :: _, [], h => by simp only [RPs] at h
  | x :: xs, u :: us, h => by
    simp only [RPs] at h
    simp only [List.map_cons, RDs]
    exact ⟨[], [], rd_p h.1, RPs.ds h.2, rfl⟩
/-- what is owned is sealed -/
theorem Vld.seal {O : List Addr} (v : Vld Z H O) : Vld (plusZ Z O) H [] := v.part (O := O) (Ob := O) (O2 := []) (by rw [List.append_nil])
theorem Tr.seal {O : List Addr} : Tr Z H O (plusZ Z O) H [] where
  z1 a q := .inl q
  z2 a q := by
    rcases q with q | q
    · exact .inl q
    · exact .inr (.inl q)
  o1 a m := by cases m
  kp _ _ q _ _ := q
  nn _ q := q
  tb q := q
theorem sat_newl {O : List Addr} {us : List V} {ds : List D} {p : Addr} {vs : List V} {Q : VK} (v : Vld Z H O) (h : RDs K mg Z H us ds O) (hp : H p = none)
    (hq : ∀ v Z' H' O', RDs K mg Z' H' (v :: nFin false vs) (D.l ds :: dFin false (.p .non)) O' → Vld Z' H' O' → Tr Z H O Z' H' O' → Q v H') : Q (.ref p) (upd H p (.lst us)) := by
  refine hq (.ref p) Z _ (p :: O) ?_ (v.add hp trivial) (Tr.add hp (by intro _ z; cases z))
  unfold nFin dFin
  simp only [Bool.false_eq_true, if_false]
  simp only [RDs]
  refine ⟨p :: O, [], ?_, rfl, by rw [List.append_nil]⟩
  simp only [RD]
  exact ⟨p, us, O, rfl, upd_same, h.new hp, rfl⟩
/-- the same, of sealed things -/
theorem sat_newp {O : List Addr} {us : List V} {xs : List P} {p : Addr} {vs : List V} {Q : VK} (v : Vld Z H O) (h : RPs K mg (plusZ Z O) H us xs) (hp : H p = none)
    (hq : ∀ v Z' H' O', RDs K mg Z' H' (v :: nFin false vs) (D.l (xs.map D.p) :: dFin false (.p .non)) O' → Vld Z' H' O' → Tr Z H O Z' H' O' → Q v H') : Q (.ref p) (upd H p (.lst us)) :=
  sat_newl (Z := plusZ Z O) (O := []) (vs := vs) v.seal h.ds hp fun v' Z' H' O' r1 r2 r3 => hq v' Z' H' O' r1 r2 (Tr.seal.trans r3)
end
end Z
set_option Elab.async false
set_option linter.all false
set_option maxRecDepth 100000
set_option maxHeartbeats 1000000
namespace Z
open PySem L2
open PySem.SeqAt (EqAt)
open PyProof.Rows (SortKind oneLt' tuples' oneType' keyLt' keyKind' BoolBack)
open PySem.W (KatLex KatGo kat_cons kat_yes kat_no kat_nil kat_lt kat_kind KatTups)
mutual
theorem TV.inj {h : Heap} : ∀ {x y : P} {v : Value}, TV h x v → TV h y v → x = y
  | .int i, y, v, q, r => by
    simp only [TV] at q
    obtain ⟨t, rfl⟩ := q
    cases y <;> simp [TV] at r <;> first | (obtain ⟨rfl, _⟩ := r; rfl) | (subst r; rfl)
  | .str i, y, v, q, r => by
    simp only [TV] at q
    obtain ⟨t, rfl⟩ := q
    cases y <;> simp [TV] at r <;> first | (obtain ⟨rfl, _⟩ := r; rfl) | (subst r; rfl)
  | .tup xs, y, v, q, r => by
    simp only [TV] at q
    obtain ⟨a, its, rfl, ⟨o, ho, hc, n, hd⟩, q⟩ := q
    cases y with
    | tup ys =>
      simp only [TV] at r
      obtain ⟨b, jts, e, ⟨o2, ho2, hc2, n2, hd2⟩, r⟩ := r
      cases e
      rw [ho] at ho2
      cases ho2
      rw [hd] at hd2
      cases hd2
      rw [TVs.inj q r]
    | int _ => simp [TV] at r
    | str _ => simp [TV] at r
    | _ => simp only [TV] at r
  | .non, _, _, q, _ => by simp only [TV] at q
  | .bl _, _, _, q, _ => by simp only [TV] at q
  | .lst _, _, _, q, _ => by simp only [TV] at q
  | .dct _ _, _, _, q, _ => by simp only [TV] at q
  | .set _, _, _, q, _ => by simp only [TV] at q
  | .ins _ _ _, _, _, q, _ => by simp only [TV] at q
  | .exc _ _ _ _ _ _, _, _, q, _ => by simp only [TV] at q
  | .ty _, _, _, q, _ => by simp only [TV] at q
  | .cls _, _, _, q, _ => by simp only [TV] at q
  | .fn _, _, _, q, _ => by simp only [TV] at q
  | .thk _ _ _ _ _, _, _, q, _ => by simp only [TV] at q
  | .wt _, _, _, q, _ => by simp only [TV] at q
  | .scr _, _, _, q, _ => by simp only [TV] at q
theorem TVs.inj {h : Heap} : ∀ {xs ys : List P} {vs : List Value}, TVs h xs vs → TVs h ys vs → xs = ys
  | [], ys, [], _, r => by
    cases ys with
    | nil => rfl
    | cons _ _ => simp only [TVs] at r
  | [], _, _ :: _, q, _ => by simp only [TVs] at q
  | _ :: _, _, [], q, _ => by simp only [TVs] at q
  | x :: xs, ys, v :: vs, q, r => by
    cases ys with
    | nil => simp only [TVs] at r
    | cons y ys =>
      simp only [TVs] at q r
      rw [TV.inj q.1 r.1, TVs.inj q.2 r.2]
end
theorem kindP_1 {x : P} (h : kindP x = 1) : ∃ i, x = .int i := by
  cases x with
  | int i => exact ⟨i, rfl⟩
  | tup l => rcases l with _ | ⟨y, l⟩ <;> first | (simp [kindP] at h; done) | (cases y <;> simp [kindP] at h)
  | _ => simp [kindP] at h
theorem kindP_2 {x : P} (h : kindP x = 2) : ∃ i, x = .str i := by
  cases x with
  | str i => exact ⟨i, rfl⟩
  | tup l => rcases l with _ | ⟨y, l⟩ <;> first | (simp [kindP] at h; done) | (cases y <;> simp [kindP] at h)
  | _ => simp [kindP] at h
/-- the tree of a value of h -/
noncomputable def trP (h : Heap) (v : Value) : P := by
  classical
  exact if q : ∃ x, TV h x v then q.choose else .non
theorem trP_eq {h : Heap} {x : P} {v : Value} (q : TV h x v) : trP h v = x := by
  unfold trP
  rw [dif_pos ⟨x, q⟩]
  exact TV.inj (Exists.choose_spec (⟨x, q⟩ : ∃ x, TV h x v)) q
theorem trP_map {h : Heap} : ∀ {xs : List P} {vs : List Value}, TVs h xs vs → vs.map (trP h) = xs
  | [], [], _ => rfl
  | [], _ :: _, q => by simp only [TVs] at q
  | _ :: _, [], q => by simp only [TVs] at q
  | x :: xs, v :: vs, q => by
    simp only [TVs] at q
    rw [List.map_cons, trP_eq q.1, trP_map q.2]
theorem TVs.mem {h : Heap} : ∀ {xs : List P} {vs : List Value} {v : Value}, TVs h xs vs → v ∈ vs → ∃ x, x ∈ xs ∧ TV h x v
  | [], [], _, _, m => by cases m
  | [], _ :: _, _, q, _ => by simp only [TVs] at q
  | _ :: _, [], _, q, _ => by simp only [TVs] at q
  | x :: xs, w :: vs, v, q, m => by
    simp only [TVs] at q
    rcases List.mem_cons.mp m with e | e
    · subst e; exact ⟨x, List.mem_cons_self, q.1⟩
    · obtain ⟨y, m', t⟩ := TVs.mem q.2 e
      exact ⟨y, List.mem_cons_of_mem _ m', t⟩
section
variable {prog : Program} {w : World} {A : Around} {s : Shared} {b fin : Bool} {Q : Bool → Shared → Prop}
/-- tuples' items, one by one -/
theorem kat_tv {n : Nat} : ∀ {xs ys : List P} {vs us : List Value} {i : Nat}, TVs s.heap xs vs → TVs s.heap ys us → okOs n xs = true → okOs n ys = true → cmbNs n xs ys = true → A.units + n + n < cLine →
    (b = true → i = 0 → ∀ x, xs.head? = some x → codeP x ≠ 2) → fin = decide (vs.length < us.length) → Q (cmpPs xs ys == .lt) s → KatLex prog w A b fin Q (vs.zip us) i s
  | [], ys, [], us, i, hx, hy, ox, oy, hc, hu, hb, hf, hq => by
    rw [List.zip_nil_left]
    refine kat_nil ?_
    cases ys with
    | nil =>
      cases us with
      | nil => rw [hf]; exact hq
      | cons _ _ => simp only [TVs] at hy
    | cons y ys =>
      cases us with
      | nil => simp only [TVs] at hy
      | cons _ _ => rw [hf]; simpa [cmpPs] using hq
  | [], _, _ :: _, _, _, hx, _, _, _, _, _, _, _, _ => by simp only [TVs] at hx
  | _ :: _, _, [], _, _, hx, _, _, _, _, _, _, _, _ => by simp only [TVs] at hx
  | x :: xs, ys, v :: vs, us, i, hx, hy, ox, oy, hc, hu, hb, hf, hq => by
    cases ys with
    | nil =>
      cases us with
      | nil =>
        rw [List.zip_nil_right]
        refine kat_nil ?_
        rw [hf]; simpa [cmpPs] using hq
      | cons _ _ => simp only [TVs] at hy
    | cons y ys =>
      cases us with
      | nil => simp only [TVs] at hy
      | cons u us =>
        simp only [TVs] at hx hy
        simp only [okOs, Bool.and_eq_true] at ox oy
        simp only [cmbNs, Bool.and_eq_true] at hc
        rw [List.zip_cons_cons]
        refine kat_cons (eq_at hx.1 hy.1 ox.1 oy.1 hc.1 (by omega) prog w _ _ ?_)
        have hf' : fin = decide (vs.length < us.length) := by rw [hf]; simp only [List.length_cons, Nat.add_lt_add_iff_right]
        simp only [cmpPs] at hq
        cases ec : cmpP x y with
        | eq =>
          rw [ec] at hq
          refine kat_yes ?_
          exact kat_tv hx.2 hy.2 ox.2 oy.2 hc.2 hu (fun _ z => by omega) hf' hq
        | lt =>
          rw [ec] at hq
          refine kat_no ?_
          exact one x y v u hx.1 hy.1 ox.1 oy.1 hc.1 (fun e => by
            have e2 := (Bool.and_eq_true_iff.mp e)
            exact hb e2.1 (by simpa using e2.2) x rfl) (by rw [ec]; exact hq)
        | gt =>
          rw [ec] at hq
          refine kat_no ?_
          exact one x y v u hx.1 hy.1 ox.1 oy.1 hc.1 (fun e => by
            have e2 := (Bool.and_eq_true_iff.mp e)
            exact hb e2.1 (by simpa using e2.2) x rfl) (by rw [ec]; exact hq)
where
  one (x y : P) (v u : Value) {f : Bool} (hx : TV s.heap x v) (hy : TV s.heap y u) (ox : okO n x = true) (oy : okO n y = true) (hc : cmbN n x y = true) (hb : f = true → codeP x ≠ 2) (hq : Q (cmpP x y == .lt) s) (hu : A.units + n + n < cLine := by assumption) :
      wpAny (model prog w) A (oneLt' f v u) Q (fun _ _ => False) s := by
    cases f with
    | false => exact PySem.W.kat_one _ _ ((rc4 hx hy ox oy hc hu).lt prog w _ _ hq)
    | true =>
      have h2 := hb rfl
      cases x with
      | int i =>
        cases y with
        | int j =>
          simp only [TV] at hx hy
          obtain ⟨t, rfl⟩ := hx
          obtain ⟨t2, rfl⟩ := hy
          refine PyProof.Rows.oneLt_any_int ?_
          rw [cmpI_d.1]
          exact hq
        | _ => cases n <;> simp [cmbN] at hc
      | str i =>
        cases y with
        | str j =>
          simp only [TV] at hx hy
          obtain ⟨t, rfl⟩ := hx
          obtain ⟨t2, rfl⟩ := hy
          refine PyProof.Rows.oneLt_any_str ?_
          have e : (decide (i.cps.toList < j.cps.toList)) = (cmpP (.str i) (.str j) == .lt) := by
            have := (rc4_d (i := i) (j := j))
            simpa [cmpP, ltS] using this
          rw [e]
          exact hq
        | _ => cases n <;> simp [cmbN] at hc
      | tup _ => exact (h2 rfl).elim
      | _ => simp only [TV] at hx
  rc4_d {i j : Str} : ltS i j = (cmpS i j == .lt) := by
    cases e : cmpS i j with
    | lt => rw [cmpS_lt.mp e]; rfl
    | gt => rw [ltS_asymm (cmpS_gt.mp e)]; rfl
    | eq => rw [cmpS_eq.mp e, ltS_irr]; rfl
def tyN : Nat → String
  | 3 => "int"
  | 4 => "str"
  | _ => "tuple"
theorem firsts_tv {c : Nat} (hc : c = 3 ∨ c = 4 ∨ c = 5) : ∀ {xs : List P} {vs : List Value}, TVs s.heap xs vs → (∀ x ∈ xs, kindP x = c) → ∃ fs, KatTups s.heap vs fs ∧ fs.length = vs.length ∧ ∀ f ∈ fs, PySem.W.Looks (model prog w) s.heap (typeOf f) (.type (tyN c))
  | [], [], _, _ => ⟨[], trivial, rfl, fun _ m => by cases m⟩
  | [], _ :: _, q, _ => by simp only [TVs] at q
  | _ :: _, [], q, _ => by simp only [TVs] at q
  | x :: xs, v :: vs, q, hk => by
    simp only [TVs] at q
    obtain ⟨fs, k1, k2, k3⟩ := firsts_tv hc q.2 fun y m => hk y (List.mem_cons_of_mem _ m)
    have kx := hk x List.mem_cons_self
    obtain ⟨f, hf1, hf2⟩ : ∃ f, (∃ a o xs n, v = .ref a ∧ s.heap.get? a = some o ∧ o.cls = .type "tuple" ∧ o.data = .seq xs n ∧ xs[0]? = some f) ∧ PySem.W.Looks (model prog w) s.heap (typeOf f) (.type (tyN c)) := by
      cases x with
      | tup l =>
        have q1 := q.1
        simp only [TV] at q1
        obtain ⟨a, its, rfl, ⟨o, ho, hcl, n, hd⟩, r⟩ := q1
        cases l with
        | nil => rcases hc with rfl | rfl | rfl <;> simp [kindP] at kx
        | cons y l =>
          cases ei : its.toList with
          | nil => rw [ei] at r; simp only [TVs] at r
          | cons f l2 =>
            rw [ei] at r
            simp only [TVs] at r
            refine ⟨f, ⟨a, o, its, n, rfl, ho, hcl, hd, ?_⟩, ?_⟩
            · rw [← Array.getElem?_toList, ei]; rfl
            · cases y with
              | int i =>
                have r1 := r.1
                simp only [TV] at r1
                obtain ⟨t, rfl⟩ := r1
                have : c = 3 := by simpa [kindP] using kx.symm
                subst this
                exact PySem.W.Looks.now
              | str i =>
                have r1 := r.1
                simp only [TV] at r1
                obtain ⟨t, rfl⟩ := r1
                have : c = 4 := by simpa [kindP] using kx.symm
                subst this
                exact PySem.W.Looks.now
              | tup l3 =>
                have r1 := r.1
                simp only [TV] at r1
                obtain ⟨b, jts, rfl, ⟨o2, ho2, hc2, hd2⟩, _⟩ := r1
                have : c = 5 := by simpa [kindP] using kx.symm
                subst this
                have q := (PySem.W.Looks.ld (M := model prog w) (part := none) ho2).andThen (f := fun o => pure o.cls) PySem.W.Looks.now
                rw [hc2] at q
                exact q
              | _ => have r1 := r.1; simp only [TV] at r1
      | int _ => rcases hc with rfl | rfl | rfl <;> simp [kindP] at kx
      | str _ => rcases hc with rfl | rfl | rfl <;> simp [kindP] at kx
      | _ => have q1 := q.1; simp only [TV] at q1
    refine ⟨f :: fs, ⟨hf1, k1⟩, by simp [k2], fun g m => ?_⟩
    rcases List.mem_cons.mp m with e | e
    · subst e; exact hf2
    · exact k3 g e
/-- any two keys of a sort compare -/
theorem cmp_tv {xs : List P} {vs : List Value} (h : TVs s.heap xs vs) (ok : okSort xs = true) (hu : A.units + 60 < cLine) (h2 : 0 < vs.length) (tr : Value → P) (ht : ∀ v ∈ vs, ∃ x, x ∈ xs ∧ TV s.heap x v ∧ tr v = x) :
    ∃ κ, (∀ (Q : PyProof.Rows.SortKind → Shared → Prop) (E : Value → Shared → Prop), 2 ≤ vs.length → Q κ s → wpAny (model prog w) A (keyKind' vs.toArray) Q E s) ∧
      SrtO.Cmp prog w A s κ (fun p => p.1 ∈ vs) (SrtO.lt2 fun v u => ltP (tr v) (tr u)) := by
  unfold okSort at ok
  simp only [Bool.and_eq_true, List.all_eq_true] at ok
  obtain ⟨⟨_, hk⟩, hcmp⟩ := ok
  have two : ∀ v u, v ∈ vs → u ∈ vs → ∃ x y, x ∈ xs ∧ y ∈ xs ∧ TV s.heap x v ∧ TV s.heap y u ∧ tr v = x ∧ tr u = y ∧ okO 30 x = true ∧ okO 30 y = true ∧ cmbN 30 x y = true := fun v u m m' => by
    obtain ⟨x, mx, tx, ex⟩ := ht v m
    obtain ⟨y, my, ty, ey⟩ := ht u m'
    obtain ⟨o1, o2, o3⟩ := okCmp_inv (hcmp x mx y my)
    exact ⟨x, y, mx, my, tx, ty, ex, ey, o1, o2, o3⟩
  have kinds : ∃ c, c ≠ 0 ∧ ∀ x ∈ xs, kindP x = c := by
    cases xs with
    | nil => cases vs with
      | nil => exact absurd h2 (by simp)
      | cons _ _ => simp only [TVs] at h
    | cons x xs =>
      simp only [oneKind, Bool.and_eq_true, List.all_eq_true, decide_eq_true_eq, beq_iff_eq] at hk
      refine ⟨kindP x, hk.1, fun y m => ?_⟩
      rcases List.mem_cons.mp m with e | e
      · rw [e]
      · exact hk.2 y e
  obtain ⟨c, hc0, hc⟩ := kinds
  have kd : ∀ v ∈ vs, ∃ x, TV s.heap x v ∧ kindP x = c := fun v m => by
    obtain ⟨x, mx, tx⟩ := h.mem m
    exact ⟨x, tx, hc x mx⟩
  by_cases c1 : c = 1
  · subst c1
    refine ⟨oneType', fun Q E l2 hq => ?_, fun p q hp hq => ?_⟩
    · refine PySem.W.kas_kind (T := .type "int") l2 (fun v m => ?_) (by first | decide +kernel | rfl | decide) (by first | decide +kernel | rfl | decide) hq
      obtain ⟨x, tx, kx⟩ := kd v m
      obtain ⟨i, rfl⟩ := kindP_1 kx
      simp only [TV] at tx
      obtain ⟨t, rfl⟩ := tx
      exact PySem.W.Looks.now
    · obtain ⟨x, y, mx, my, tx, ty, e1, e2, o1, o2, o3⟩ := two _ _ hp hq
      have kx := hc x mx
      have ky := hc y my
      show wpAny (model prog w) A (keyLt' oneType' p.1 q.1) (fun r s' => s' = s ∧ r = ltP (tr p.1) (tr q.1)) (fun _ _ => False) s
      rw [e1, e2]
      obtain ⟨i, rfl⟩ := kindP_1 kx
      simp only [TV] at tx
      obtain ⟨j, rfl⟩ := kindP_1 ky
      simp only [TV] at ty
      obtain ⟨t, ev⟩ := tx
      obtain ⟨t2, eu⟩ := ty
      rw [ev, eu]
      refine PySem.W.kat_lt_int ⟨rfl, ?_⟩
      rw [cmpI_d.1]; rfl
  by_cases c2 : c = 2
  · subst c2
    refine ⟨oneType', fun Q E l2 hq => ?_, fun p q hp hq => ?_⟩
    · refine PySem.W.kas_kind (T := .type "str") l2 (fun v m => ?_) (by first | decide +kernel | rfl | decide) (by first | decide +kernel | rfl | decide) hq
      obtain ⟨x, tx, kx⟩ := kd v m
      obtain ⟨i, rfl⟩ := kindP_2 kx
      simp only [TV] at tx
      obtain ⟨t, rfl⟩ := tx
      exact PySem.W.Looks.now
    · obtain ⟨x, y, mx, my, tx, ty, e1, e2, o1, o2, o3⟩ := two _ _ hp hq
      have kx := hc x mx
      have ky := hc y my
      show wpAny (model prog w) A (keyLt' oneType' p.1 q.1) (fun r s' => s' = s ∧ r = ltP (tr p.1) (tr q.1)) (fun _ _ => False) s
      rw [e1, e2]
      obtain ⟨i, rfl⟩ := kindP_2 kx
      simp only [TV] at tx
      obtain ⟨j, rfl⟩ := kindP_2 ky
      simp only [TV] at ty
      obtain ⟨t, ev⟩ := tx
      obtain ⟨t2, eu⟩ := ty
      rw [ev, eu]
      refine PySem.W.kas_lt_str ⟨rfl, ?_⟩
      exact kat_tv.rc4_d
  have c3 : c = 3 ∨ c = 4 ∨ c = 5 := by
    cases xs with
    | nil => cases vs with
      | nil => exact absurd h2 (by simp)
      | cons _ _ => simp only [TVs] at h
    | cons x xs =>
      have kx := hc x List.mem_cons_self
      cases x with
      | tup l =>
        rcases l with _ | ⟨y, _⟩
        · exact absurd kx.symm hc0
        · cases y <;> simp [kindP] at kx <;> omega
      | _ => simp [kindP] at kx; omega
  obtain ⟨fs, k1, k2, k3⟩ := firsts_tv (prog := prog) (w := w) c3 h hc
  refine ⟨tuples' (Value.type (tyN c) != Value.type "tuple"), fun Q E l2 hq => ?_, fun p q hp hq => ?_⟩
  · refine kat_kind k1 (by omega) k3 ?_ hq
    rcases c3 with rfl | rfl | rfl <;> first | decide +kernel | rfl | decide
  · obtain ⟨x, y, mx, my, tx, ty, e1, e2, o1, o2, o3⟩ := two _ _ hp hq
    have kx := hc x mx
    have ky := hc y my
    show wpAny (model prog w) A (keyLt' _ p.1 q.1) (fun r s' => s' = s ∧ r = ltP (tr p.1) (tr q.1)) (fun _ _ => False) s
    rw [e1, e2]
    have tupof : ∀ z, kindP z = c → ∃ l, z = .tup l := fun z hz => by
      cases z <;> first | exact ⟨_, rfl⟩ | (simp [kindP] at hz; omega)
    obtain ⟨xl, rfl⟩ := tupof x kx
    obtain ⟨yl, rfl⟩ := tupof y ky
    simp only [TV] at tx ty
    obtain ⟨a, its, ev, ⟨o, ho, hcl, n, hd⟩, r⟩ := tx
    obtain ⟨b, jts, eu, ⟨o', ho', hcl', n', hd'⟩, r'⟩ := ty
    rw [ev, eu]
    simp only [okO] at o1 o2
    simp only [cmbN] at o3
    refine kat_lt ho hd ho' hd' (kat_tv (n := 29) r r' o1 o2 o3 (by omega) (fun hb _ z hz => ?_) (by rw [Array.length_toList, Array.length_toList]) ⟨rfl, ?_⟩)
    · cases xl with
      | nil => cases hz
      | cons z' l =>
        cases hz
        intro e2
        obtain ⟨l2, rfl⟩ := codeP_tup e2
        have : c = 5 := by simpa [kindP] using kx.symm
        subst this
        exact absurd hb (by first | decide +kernel | decide)
    · simp only [ltP, cmpP]
end
theorem okOs_sort : ∀ {xs : List P}, (∀ x ∈ xs, okO 30 x = true) → okOs 30 xs = true
  | [], _ => by simp only [okOs]
  | x :: xs, h => by
    simp only [okOs, Bool.and_eq_true]
    exact ⟨h x List.mem_cons_self, okOs_sort fun y m => h y (List.mem_cons_of_mem _ m)⟩
def backV (v : Value) : V := (absV v).getD .non
theorem back_map : ∀ {us : List V} {its : List Value}, Vals us its → its.map backV = us
  | [], [], _ => rfl
  | _ :: _, _ :: _, .cons r rs => by
    rw [List.map_cons, back_map rs]
    show (absV _).getD .non :: _ = _
    rw [r.abs]
    rfl
theorem vals_of {us : List V} {its : List Value} (r : Vals us its) : ∀ {out : List Value}, (∀ v ∈ out, v ∈ its) → Vals (out.map backV) out
  | [], _ => .nil
  | v :: out, h => by
    refine .cons ?_ (vals_of r fun u m => h u (List.mem_cons_of_mem _ m))
    have m := h v List.mem_cons_self
    clear h
    induction r with
    | nil => cases m
    | cons r1 r2 ih =>
      rcases List.mem_cons.mp m with e | e
      · subst e
        show L2.RelV ((absV _).getD .non) _
        rw [r1.abs]
        exact r1
      · exact ih e
theorem rps_of {K : PySem.W.Frag} {mg : Str → Option Value} {Z : Zs} {H : Hp} {h : Heap} : ∀ {xs : List P} {us : List V} {its : List Value}, RPs K mg Z H us xs → Vals us its → TVs h xs its → ∀ {out : List Value}, (∀ v ∈ out, v ∈ its) → RPs K mg Z H (out.map backV) (out.map (trP h))
  | xs, us, its, rp, rv, tv, [], _ => by simp only [List.map_nil, RPs]
  | xs, us, its, rp, rv, tv, v :: out, hm => by
    simp only [List.map_cons, RPs]
    refine ⟨?_, rps_of rp rv tv fun u m => hm u (List.mem_cons_of_mem _ m)⟩
    have m := hm v List.mem_cons_self
    clear hm
    induction rv generalizing xs with
    | nil => cases m
    | cons r1 r2 ih =>
      cases xs with
      | nil => simp only [RPs] at rp
      | cons x xs =>
        simp only [RPs] at rp
        simp only [TVs] at tv
        rcases List.mem_cons.mp m with e | e
        · subst e
          rw [trP_eq tv.1]
          show RP K mg Z H ((absV _).getD .non) x
          rw [r1.abs]
          exact rp.1
        · exact ih xs rp.2 tv.2 e
theorem Stb.symm {α : Type} {lt : α → α → Bool} {l m : List α} (h : SrtO.Stb lt l m) : SrtO.Stb lt m l := ⟨h.perm.symm, fun x => (h.cls x).symm⟩
theorem swo_map {α β : Type} {lt : β → β → Bool} (O : SrtO.Swo lt) (f : α → β) : SrtO.Swo fun x y => lt (f x) (f y) := ⟨fun x y => O.asym _ _, fun x y z => O.tr _ _ _⟩
/-- what a sort gives -/
theorem srt_out {h : Heap} {xs : List P} {its out : List Value} (tv : TVs h xs its) (h1 : SrtO.Srtd (fun v u => ltP (trP h v) (trP h u)) out) (h2 : SrtO.Stb (fun v u => ltP (trP h v) (trP h u)) out its) : out.map (trP h) = srtP ltP xs := by
  have O := swo_map ltP_swo (trP h)
  have e : out = srtP (fun v u => ltP (trP h v) (trP h u)) its := SrtO.stb_uniq O h1 (srtP_srtd O its) (h2.trans (Stb.symm (srtP_stb O its)))
  rw [e, srtP_map (ltb := ltP) (trP h) (fun _ _ => rfl), trP_map tv]
/-- sorted(x), x a list -/
def hSorted : Fn := fun ds => match ds with
  | [d] => match vw d with
    | .lst xs => if okSort xs then .ok (.l ((srtP ltP xs).map D.p)) (.p .non) else .stuck
    | _ => .stuck
  | _ => .stuck
theorem okSort_inv {xs : List P} (h : okSort xs = true) : xs.length ≤ lineN ∧ okOs 30 xs = true := by
  unfold okSort at h
  simp only [Bool.and_eq_true, List.all_eq_true, decide_eq_true_eq] at h
  exact ⟨h.1.1, okOs_sort fun x m => (okCmp_inv (h.2 x m x m)).1⟩
theorem cz_sorted {X : Cx} (hr : RU X.A) : CallZ X (.builtin "sorted") 1 hSorted := by
  intro pins s sg H xs us Q I r hq
  obtain ⟨E, hl, Z, O, ds, rd, vl, hq⟩ := hq
  have rp := rd.seal
  match ds, rd, hq, rp with
  | [d], rd, hq, rp =>
    unfold hSorted at hq
    simp only [vws] at rp
    obtain ⟨v, rfl, rv⟩ := rps1 rp
    simp only at hq
    cases ev : vw d with
    | lst ys =>
      rw [ev] at hq rv
      simp only at hq
      by_cases hok : okSort ys = true
      · simp only [hok, if_true] at hq
        simp only [RP] at rv
        obtain ⟨a, ws, rfl, _, sq, rw_⟩ := rv
        obtain ⟨its, rv, hL, hz⟩ := I.list (show SqL X.K H a ws from .inl (.inl sq))
        obtain ⟨u, rfl, ru⟩ := vals1 r
        obtain rfl : u = Value.ref a := ru
        have tv : TVs s.heap ys its := tvs_of I rw_ rv (okSort_inv hok).2
        refine SrtO.sorted_ord (ltv := fun v u => ltP (trP s.heap v) (trP s.heap u)) (swo_map ltP_swo _) hL.isList (by rw [← rv.length]; exact hz) (fun h2 h₁ a' ha kk => ?_) fun out h1 h2 => ?_
        · intro h' keep
          have kp : KpT s.heap h' := fun b o e _ => by
            obtain ⟨q1, q2⟩ := kk b o e
            exact keep b o q1 q2
          obtain ⟨κ, k1, k2⟩ := cmp_tv (prog := X.prog) (w := X.w) (A := X.A.in1.in1) (s := { s with heap := h' }) (tv.kp kp) hok (by have := hr.un; rw [units_in1, units_in1]; omega) (by omega) (trP s.heap) fun v m => by
            obtain ⟨x, m', t⟩ := tv.mem m
            exact ⟨x, m', t.kp kp, trP_eq t⟩
          exact ⟨κ, fun Q E hq => k1 Q E h2 hq, k2⟩
        · have sub : ∀ v ∈ out, v ∈ its := fun v m => h2.perm.mem_iff.mp m
          have ro := rps_of rw_ rv tv sub
          rw [srt_out tv h1 h2] at ro
          obtain ⟨n, hn⟩ := PyProof.Rows.sortedAll_at s.heap its out.toArray
          refine ⟨.ref (s.heap.objs.size + 1), upd H (s.heap.objs.size + 1) (.lst (out.map backV)), I.laid (t' := s.toks) (fun b o e => PyProof.Rows.sortedAll_old e) (Nat.le_succ _) ⟨?_, out, n, vals_of rv sub, hn⟩, rfl, ?_⟩
          · rw [List.length_map, h2.len, ← rv.length]; exact hz
          · exact sat_newp vl ro (I.hok.fresh (Nat.le_succ _)) hq
      · simp only [hok, Bool.false_eq_true, if_false] at hq
    | _ => rw [ev] at hq; exact hq.elim
  | [], rd, hq, rp => exact hq.elim
  | _ :: _ :: _, rd, hq, rp => exact hq.elim
end Z
set_option Elab.async false
set_option linter.all false
set_option maxRecDepth 100000
set_option maxHeartbeats 1000000
namespace Z
open PySem L2
theorem kP_inj {a b : Key} : eqP (kP a) (kP b) = decide (a = b) := by
  cases a with
  | inl i => cases b with
    | inl j => by_cases h : i = j <;> simp [kP, eqP, h]
    | inr j => simp [kP, eqP]
  | inr i => cases b with
    | inl j => simp [kP, eqP]
    | inr j => by_cases h : i = j <;> simp [kP, eqP, h]
theorem kPs_inj : ∀ {a b : List Key}, eqPs (a.map kP) (b.map kP) = decide (a = b)
  | [], [] => by simp [eqPs]
  | [], _ :: _ => by simp [eqPs]
  | _ :: _, [] => by simp [eqPs]
  | x :: a, y :: b => by
    simp only [List.map_cons, eqPs, kP_inj, kPs_inj (a := a) (b := b)]
    by_cases h : x = y <;> by_cases h2 : a = b <;> simp [h, h2]
theorem tP_inj {a b : List Key} : eqP (tP a) (tP b) = decide (a = b) := by
  unfold tP eqP
  exact kPs_inj
section
variable {κ : Type} [DecidableEq κ] {kf : κ → P} {K : PySem.W.Frag} {mg : Str → Option Value} {Z : Zs} {H : Hp}
theorem lookP_mapG (inj : ∀ a b, eqP (kf a) (kf b) = decide (a = b)) : ∀ {kvs : List (κ × V)} {vs : List P} {k : κ} {x : P}, RPs K mg Z H (kvs.map (·.2)) vs → lookP (kvs.map fun q => kf q.1) vs (kf k) = some x → ∃ u, valV kvs k = some u ∧ RP K mg Z H u x
  | [], vs, _, _, _, e => by cases vs <;> cases e
  | kv :: kvs, [], _, _, _, e => by cases e
  | kv :: kvs, v :: vs, k, x, h, e => by
    simp only [List.map_cons, RPs] at h
    simp only [List.map_cons, lookP, inj] at e
    by_cases q : kv.1 = k
    · simp only [q, decide_true, if_true] at e
      cases e
      exact ⟨kv.2, valV_pos q, h.1⟩
    · simp only [q, decide_false, Bool.false_eq_true, if_false] at e
      rw [valV_neg q]
      exact lookP_mapG inj h.2 e
/-- nothing under the key -/
theorem lookP_noneG (inj : ∀ a b, eqP (kf a) (kf b) = decide (a = b)) : ∀ {kvs : List (κ × V)} {vs : List P} {k : κ}, RPs K mg Z H (kvs.map (·.2)) vs → lookP (kvs.map fun q => kf q.1) vs (kf k) = none → valV kvs k = none
  | [], vs, _, _, _ => rfl
  | kv :: kvs, [], _, h, _ => by simp only [List.map_cons, RPs] at h
  | kv :: kvs, v :: vs, k, h, e => by
    simp only [List.map_cons, RPs] at h
    simp only [List.map_cons, lookP, inj] at e
    by_cases q : kv.1 = k
    · simp only [q, decide_true, if_true] at e
      cases e
    · simp only [q, decide_false, Bool.false_eq_true, if_false] at e
      rw [valV_neg q]
      exact lookP_noneG inj h.2 e
theorem inP_anyG (inj : ∀ a b, eqP (kf a) (kf b) = decide (a = b)) {kvs : List (κ × V)} {k : κ} : (valV kvs k).isSome = inP (kf k) (kvs.map fun q => kf q.1) := by
  rw [← valV_any]
  unfold inP
  rw [List.any_map]
  congr 1
  funext kv
  exact (inj kv.1 k).symm
theorem inP_falseG (inj : ∀ a b, eqP (kf a) (kf b) = decide (a = b)) {k : κ} : ∀ {kvs : List (κ × V)}, inP (kf k) (kvs.map fun q => kf q.1) = false → ∀ p ∈ kvs, p.1 ≠ k
  | [], _, _, m => by cases m
  | kv :: kvs, h, p, m => by
    unfold inP at h
    simp only [List.map_cons, List.any_cons, Bool.or_eq_false_iff, inj] at h
    rcases List.mem_cons.mp m with e | e
    · subst e; exact of_decide_eq_false h.1
    · exact inP_falseG inj (by unfold inP; exact h.2) p e
theorem putK_posG {p : κ × V} {r : List (κ × V)} {k : κ} {v : V} (e : p.1 = k) (h : ∀ q ∈ r, q.1 ≠ k) : putK (p :: r) k v = (p.1, v) :: r := by
  unfold putK
  rw [if_pos (by simp [e])]
  rw [List.map_cons, if_pos e]
  congr 1
  conv => rhs; rw [← List.map_id r]
  exact List.map_congr_left fun q m => by rw [if_neg (h q m)]; rfl
theorem putK_negG {p : κ × V} {r : List (κ × V)} {k : κ} {v : V} (e : p.1 ≠ k) : putK (p :: r) k v = p :: putK r k v := by
  unfold putK
  rw [List.any_cons, decide_eq_false e, Bool.false_or]
  by_cases q : (r.any fun kv => decide (kv.1 = k)) = true
  · rw [if_pos q, if_pos q, List.map_cons, if_neg e]
  · rw [if_neg q, if_neg q, List.cons_append]
end
theorem keys_of : ∀ {xs : List P}, xs.all keyOk = true → ∃ k : List Key, xs = k.map kP
  | [], _ => ⟨[], rfl⟩
  | x :: xs, h => by
    simp only [List.all_cons, Bool.and_eq_true] at h
    obtain ⟨k, e⟩ := keys_of h.2
    cases x with
    | int i => exact ⟨.inl i :: k, by rw [List.map_cons, ← e]; rfl⟩
    | str i => exact ⟨.inr i :: k, by rw [List.map_cons, ← e]; rfl⟩
    | _ => cases h.1
theorem tk_of {x : P} (h : tkOk x = true) : ∃ k : List Key, x = tP k := by
  unfold tkOk at h
  split at h
  · rename_i i xs
    obtain ⟨k, e⟩ := keys_of h
    exact ⟨.inl i :: k, by unfold tP; rw [List.map_cons, ← e]; rfl⟩
  · cases h
section
variable {K : PySem.W.Frag} {mg : Str → Option Value} {Z : Zs} {H : Hp}
theorem rps_keys : ∀ {k : List Key} {us : List V}, RPs K mg Z H us (k.map kP) → us = k.map kV
  | [], [], _ => rfl
  | [], _ :: _, h => by simp only [List.map_nil, RPs] at h
  | _ :: _, [], h => by simp only [List.map_cons, RPs] at h
  | x :: k, u :: us, h => by
    simp only [List.map_cons, RPs] at h
    rw [rps_keys h.2, List.map_cons]
    congr 1
    cases x <;> simpa only [kP, RP, kV] using h.1
theorem rp_tk {k : List Key} {v : V} (h : RP K mg Z H v (tP k)) (hk : tkOk (tP k) = true) : ∃ b, v = .ref b ∧ H b = some (.tup (k.map kV)) := by
  simp only [tP, RP] at h
  obtain ⟨a, us, e, s, r⟩ := h
  have hi : intHead (k.map kP) = true := by
    cases k with
    | nil => simp only [tP, List.map_nil, tkOk] at hk; cases hk
    | cons x k => cases x with
      | inl i => rfl
      | inr i => simp only [tP, List.map_cons, kP, tkOk] at hk; cases hk
  exact ⟨a, e, by rw [← rps_keys r]; exact s.2 hi⟩
end
theorem upd_back {H : Hp} {p : Addr} {o o' : HO} (h : H p = some o) : upd (upd H p o') p o = H := by
  funext a
  by_cases q : a = p
  · subst q; rw [upd_same, h]
  · rw [upd_ne q, upd_ne q]
section
variable {X : Cx} {pins : List (Addr × Obj)} {sg : St} {H : Hp} {s : Shared}
/-- the empty dict, as one of tuples -/
theorem inv_asT {p : Addr} (I : Inv X pins sg H s) (h : H p = some (.dK [])) : Inv X pins sg (upd H p (.dT [])) s := by
  obtain ⟨z, hs, vs, kv, o, es, ep, g1, g2, g3, g4, g5, g6⟩ := dk_of I.hok h
  cases kv
  have ee : es.toList = [] := by cases hh : es.toList with
    | nil => rfl
    | cons _ _ => rw [hh] at g5; cases g5
  exact I.write (h' := s.heap) (t' := s.toks) (x := p) (e := p) (o := .dT []) (by rw [h]; trivial) (.inl rfl) (fun _ _ _ q => q) ⟨o, g1⟩ ⟨Nat.zero_le _, hs, [], .nil, o, es, ep, g1, g2, g3, by rw [ee]; rfl, List.nodup_nil⟩
theorem inv_asK {p : Addr} (I : Inv X pins sg H s) (h : H p = some (.dT [])) : Inv X pins sg (upd H p (.dK [])) s := by
  obtain ⟨z, hs, xs, kt, o, es, ep, g1, g2, g3, g4, g5⟩ := (show ObjOk X.prog X.w H s.heap p (.dT []) from I.hok p _ h)
  cases kt
  have ee : es.toList = [] := by rw [g4]; rfl
  refine I.write (h' := s.heap) (t' := s.toks) (x := p) (e := p) (o := .dK []) (by rw [h]; trivial) (.inl rfl) (fun _ _ _ q => q) ⟨o, g1⟩ ⟨Nat.zero_le _, hs, [], .nil, o, es, ep, g1, g2, g3, ?_, by rw [ee]; exact .nil, List.nodup_nil⟩
  intro e he
  rw [← Array.mem_toList_iff, ee] at he
  cases he
/-- a dict whose keys are all tuples, or that is empty -/
theorem dct_T {p : Addr} {ps : List P} {us : List V} (I : Inv X pins sg H s) (d : DctAt H p ps us) (hk : ps.all tkOk = true) :
    ∃ H' kvs, Inv X pins sg H' s ∧ H' p = some (.dT kvs) ∧ ps = kvs.map (fun q => tP q.1) ∧ us = kvs.map (·.2) ∧ (∀ b xs, H b = some (.tup xs) → H' b = some (.tup xs)) ∧ (∀ s', Inv X pins sg H' s' → Inv X pins sg H s') ∧ (H' = H ∨ kvs = [] ∧ H p = some (.dK []) ∧ H' = upd H p (.dT [])) := by
  rcases d with ⟨kvs, h1, h2, h3⟩ | ⟨kvs, h1, h2, h3, h4⟩
  · cases kvs with
    | nil =>
      refine ⟨upd H p (.dT []), [], inv_asT I h1, upd_same, h2, h3, fun b xs e => ?_, fun s' I' => ?_, .inr ⟨rfl, h1, rfl⟩⟩
      · rw [upd_ne (fun z => by subst z; rw [h1] at e; cases e)]; exact e
      · have q := inv_asK I' upd_same
        rw [upd_back h1] at q
        exact q
    | cons kv kvs =>
      subst h2
      simp only [List.map_cons, List.all_cons, Bool.and_eq_true] at hk
      obtain ⟨ky, _⟩ := kv
      cases ky <;> cases hk.1
  · exact ⟨H, kvs, I, h1, h2, h3, fun _ _ e => e, fun _ e => e, .inl rfl⟩
/-- what stands under a key, of either kind -/
theorem dct_any {Z : Zs} {p : Addr} {ps : List P} {us : List V} {x : V} {a : P} (I : Inv X pins sg H s) (d : DctAt H p ps us) (ra : RP X.K X.mg Z H x a) (hk : (keyOk a && ps.all keyOk || tkOk a && ps.all tkOk) = true) :
    ∃ H' o, Inv X pins sg H' s ∧ DGet H' p x o ∧ IsD H' p ∧ (∀ s', Inv X pins sg H' s' → Inv X pins sg H s') ∧ o.isSome = inP a ps ∧
      ∀ vs, RPs X.K X.mg Z H us vs → (∀ r, lookP ps vs a = some r → ∃ u, o = some u ∧ RP X.K X.mg Z H u r) ∧ (lookP ps vs a = none → o = none) := by
  simp only [Bool.or_eq_true, Bool.and_eq_true] at hk
  rcases hk with ⟨k1, k2⟩ | ⟨k1, k2⟩
  · obtain ⟨key, ea⟩ : ∃ key : Key, a = kP key := by
      cases a with
      | int i => exact ⟨.inl i, rfl⟩
      | str i => exact ⟨.inr i, rfl⟩
      | _ => cases k1
    subst ea
    have ex : x = kV key := by cases key <;> simpa only [kP, RP, kV] using ra
    subst ex
    rcases d with ⟨kvs, h1, h2, h3⟩ | ⟨kvs, h1, h2, h3, h4⟩
    · subst h2; subst h3
      exact ⟨H, _, I, DGet.k (k := key) h1, .inl ⟨kvs, .inl h1⟩, fun _ z => z, inP_anyG fun _ _ => kP_inj, fun vs rs => ⟨fun r e => lookP_mapG (fun _ _ => kP_inj) rs e, fun e => lookP_noneG (fun _ _ => kP_inj) rs e⟩⟩
    · cases kvs with
      | nil => exact (h4 rfl).elim
      | cons kv kvs =>
        subst h2
        simp only [List.map_cons, List.all_cons, Bool.and_eq_true] at k2
        cases k2.1
  · obtain ⟨key, ea⟩ := tk_of k1
    subst ea
    obtain ⟨b, eb, hb⟩ := rp_tk ra k1
    subst eb
    obtain ⟨H', kvs, I', h1, h2, h3, ht, back, _⟩ := dct_T I d k2
    subst h2; subst h3
    exact ⟨H', _, I', DGet.t (k := key) h1 (ht _ _ hb), .inr ⟨kvs, .inl h1⟩, back, inP_anyG fun _ _ => tP_inj, fun vs rs => ⟨fun r e => lookP_mapG (fun _ _ => tP_inj) rs e, fun e => lookP_noneG (fun _ _ => tP_inj) rs e⟩⟩
end
end Z
set_option Elab.async false
set_option linter.all false
set_option maxRecDepth 100000
set_option maxHeartbeats 1000000
namespace Z
open PySem L2
theorem atZ_eq {α : Type} (xs : List α) (i : Int) : atZ xs i = atI xs i := rfl
theorem sIx_eq (n d : Nat) (o : Option Int) : sIx n d o = HT.sIx n d o := by cases o <;> rfl
section
variable {K : PySem.W.Frag} {mg : Str → Option Value} {Z : Zs} {H : Hp}
theorem atI_map : ∀ {xs : List P} {us : List V} {i : Int} {x : P}, RPs K mg Z H us xs → atZ xs i = some x → ∃ u, atI us i = some u ∧ RP K mg Z H u x := fun {xs us i x} h e => by
  unfold atZ at e
  cases ej : ixZ xs.length i with
  | none => rw [ej] at e; cases e
  | some j =>
    rw [ej] at e
    obtain ⟨u, eu, ru⟩ := h.get (i := j) e
    refine ⟨u, ?_, ru⟩
    unfold atI
    rw [h.length]
    have : ixN xs.length i = some j := ej
    rw [this]
    exact eu
theorem RPs.drop : ∀ {xs : List P} {us : List V} (n : Nat), RPs K mg Z H us xs → RPs K mg Z H (us.drop n) (xs.drop n)
  | _, _, 0, h => h
  | [], [], n + 1, h => by simp [RPs]
  | [], _ :: _, n + 1, h => by simp only [RPs] at h
  | _ :: _, [], n + 1, h => by simp only [RPs] at h
  | x :: xs, u :: us, n + 1, h => by
    simp only [RPs] at h
    exact RPs.drop n h.2
theorem RPs.take : ∀ {xs : List P} {us : List V} (n : Nat), RPs K mg Z H us xs → RPs K mg Z H (us.take n) (xs.take n)
  | _, _, 0, h => by simp [RPs]
  | [], [], n + 1, h => by simp [RPs]
  | [], _ :: _, n + 1, h => by simp only [RPs] at h
  | _ :: _, [], n + 1, h => by simp only [RPs] at h
  | x :: xs, u :: us, n + 1, h => by
    simp only [RPs] at h
    simp only [List.take_succ_cons, RPs]
    exact ⟨h.1, RPs.take n h.2⟩
theorem RPs.cut {xs : List P} {us : List V} (lo hi : Option Int) (h : RPs K mg Z H us xs) : RPs K mg Z H (cutV us lo hi) (cutZ xs lo hi) := by
  unfold cutV cutZ
  rw [← sIx_eq, ← sIx_eq, h.length]
  exact RPs.take _ (RPs.drop _ h)
end
section
variable {X : Cx} {W : WX} {k : Nat} {pos : Pos} {a b : Expr} {is js ks : List Nat} {ga gb : VF}
def rIxV (X : Cx) : R2 := fun x y H Q => ∃ Z a b r, RP X.K X.mg Z H x a ∧ RP X.K X.mg Z H y b ∧ pIx a b = some r ∧ Got X.K X.mg Z H r Q
theorem ix_V (hr : RU X.A) : IxR X (rIxV X) := by
  intro value slice pins s sg H x y v u Q I rx ry h hs
  obtain ⟨Z, a, b, r, ra, rb, e, q⟩ := h
  have hd : ∀ {ps vs : List P}, RP X.K X.mg Z H x (.dct ps vs) → (keyOk b && ps.all keyOk || tkOk b && ps.all tkOk) = true → lookP ps vs b = some r → wpAny (model X.prog X.w) X.A (PyProof.Rows.subscriptTail value slice v u) (EP X pins sg Q) X.xe s := fun {ps vs} rd hk el => by
    simp only [RP] at rd
    obtain ⟨p, us, ex, _, d, rs⟩ := rd
    subst ex
    obtain rfl : v = Value.ref p := rx
    obtain ⟨H', o, I', g, _, back, _, hl⟩ := dct_any I d rb hk
    obtain ⟨w, eo, rw_⟩ := (hl vs rs).1 r el
    subst eo
    exact PyProof.Rows.tail_any (dict_typeIs I' g) PySem.F.slot_dict_getitem.lookup (d_getItem (by have := hr.un; omega) I' g ry fun w' s3 I3 rw' => ⟨w, H, back _ I3, rw', got_p q rw_⟩) hs
  unfold pIx at e
  split at e
  · rename_i xs i
    simp only [RP] at ra rb
    obtain ⟨p, us, ex, st, rs⟩ := ra
    obtain ⟨w, ew, rw_⟩ := atI_map rs e
    exact ix_tup value slice pins s sg H x y v u Q I rx ry ⟨p, us, i, w, ex, rb, st.1, ew, got_p q rw_⟩ hs
  · rename_i xs i
    simp only [RP] at ra rb
    obtain ⟨p, us, ex, st, rs⟩ := ra
    obtain ⟨w, ew, rw_⟩ := atI_map rs e
    exact ix_tup value slice pins s sg H x y v u Q I rx ry ⟨p, us, i, w, ex, rb, st, ew, got_p q rw_⟩ hs
  · rename_i xs i
    simp only [RP] at ra rb
    obtain ⟨p, us, ex, _, st, rs⟩ := ra
    obtain ⟨w, ew, rw_⟩ := atI_map rs e
    exact ix_list value slice pins s sg H x y v u Q I rx ry ⟨p, us, i, w, ex, rb, .inl (.inl st), ew, got_p q rw_⟩ hs
  · rename_i z i
    split at e
    · rename_i hl
      simp only [RP] at ra rb
      cases ec : atZ z.cps.toList i with
      | none => rw [ec] at e; cases e
      | some c =>
        rw [ec] at e
        cases e
        exact ix_str value slice pins s sg H x y v u Q I rx ry ⟨z, i, c, ra, rb, by rw [← lineN_eq]; exact hl, ec, got_p q (by simp only [RP])⟩ hs
    · cases e
  · rename_i ps vs key
    split at e
    · rename_i hk
      exact hd ra (by rw [hk]; rfl) e
    · cases e
  · rename_i ps vs key
    split at e
    · rename_i hk
      exact hd ra (by rw [hk]; rfl) e
    · cases e
  · rename_i ps vs key
    split at e
    · rename_i hk
      exact hd ra (by rw [hk]; exact Bool.or_true _) e
    · cases e
  · cases e
theorem jf_ix (hr : RU X.A) (ha : JF X a is ga) (hb : JF X b js gb) (hs : PlainIx b := by exact fun _ _ => rfl) : JF X (.Subscript a b pos) (is ++ js) (g2 pIx ga gb) :=
  ⟨PEimp (pe_ix (ix_V hr) ha.run hb.run hs) fun sg H Q q => rV_2 q, g2_inv ha.inv hb.inv⟩
def rSlV (X : Cx) : V → Option Int → Option Int → Hp → VK → Prop := fun x lo hi H Q => ∃ Z a r, RP X.K X.mg Z H x a ∧ pSl a lo hi = some r ∧ Got X.K X.mg Z H r Q
theorem sl_V : SlR X (rSlV X) := by
  intro pins s sg H x v vl vu lo hi sl Q I rx hs pl pu h
  obtain ⟨Z, a, r, ra, e, q⟩ := h
  cases a with
  | tup xs =>
    simp only [pSl, Option.some.injEq] at e
    subst e
    simp only [RP] at ra
    obtain ⟨p, us, ex, st, rs⟩ := ra
    refine sl_tupA pins s sg H x v vl vu lo hi sl Q I rx hs pl pu ⟨p, us, ex, st.1, fun hw => ?_, fun hw p' hp => ?_⟩
    · refine got_p q ?_
      simp only [RP]
      have : cutZ xs lo hi = xs := by
        unfold cutZ
        rw [sIx_eq, sIx_eq, ← rs.length, hw.1, hw.2, List.drop_zero, Nat.sub_zero, rs.length, List.take_length]
      rw [this]
      exact ⟨p, us, rfl, st, rs⟩
    · refine q _ _ _ (Grow.new hp (by intro _ z; cases z)) ?_
      simp only [RP]
      exact ⟨p', cutV us lo hi, rfl, SqI.of upd_same, (RPs.cut lo hi rs).grow (Grow.new hp (by intro _ z; cases z))⟩
  | lst xs =>
    simp only [pSl, Option.some.injEq] at e
    subst e
    simp only [RP] at ra
    obtain ⟨p, us, ex, _, st, rs⟩ := ra
    refine sl_list pins s sg H x v vl vu lo hi sl Q I rx hs pl pu ⟨p, us, ex, .inl (.inl st), fun p' hp => ?_⟩
    refine q _ _ _ (Grow.newZ hp (by intro _ z; cases z)) ?_
    simp only [RP]
    exact ⟨p', cutV us lo hi, rfl, .inr (by simp), upd_same, (RPs.cut lo hi rs).grow (Grow.newZ hp (by intro _ z; cases z))⟩
  | str z =>
    simp only [pSl] at e
    split at e
    · rename_i hl
      cases e
      simp only [RP] at ra
      refine sl_str pins s sg H x v vl vu lo hi sl Q I rx hs pl pu ⟨z, ra, by rw [← lineN_eq]; exact hl, ?_⟩
      refine got_p q ?_
      simp only [RP]
      unfold cutS cutZ
      have : z.cps.toList.length = z.length := by simp [Str.length]
      rw [this, sIx_eq, sIx_eq]
    · cases e
  | _ => simp [pSl] at e
def JO (X : Cx) (e : Option Expr) (is : List Nat) (g : Option VF) : Prop := match e, g with
  | none, none => is = []
  | some e, some g => JF X e is g
  | _, _ => False
theorem jo_none : JO X none [] none := rfl
theorem jo_some (h : JF X a is ga) : JO X (some a) is (some ga) := h
theorem jf_sl {lo hi : Option Expr} {gl gh : Option VF} {p2 : Pos} (h : JF X a is ga) (hl : JO X lo js gl) (hh : JO X hi ks gh) : JF X (.Subscript a (.Slice lo hi none p2) pos) (is ++ (js ++ ks)) (gSl ga gl gh) := by
  have part : ∀ {e : Option Expr} {is : List Nat} {g : Option VF}, JO X e is g → ∃ t : TO, PO X e t ∧ (∀ env i, gPart g (freezeAt env i) = gPart g env) ∧ ∀ sg H (Q : Option Int → Hp → Prop) env ph Z O, At X.K X.mg ph Z H sg env O → (∀ i ∈ is, ownAt env i = false) → ∀ o, gPart g env = some o → (∀ Z' H', Grow Z H Z' H' → Q o H') → t sg H Q := by
    intro e is g h
    cases e with
    | none =>
      cases g with
      | none =>
        refine ⟨tNoPart, po_none, fun _ _ => rfl, fun sg H Q env ph Z O A hn o eo q => ?_⟩
        cases eo
        exact q Z H (Grow.refl ..)
      | some _ => exact h.elim
    | some e =>
      cases g with
      | none => exact h.elim
      | some g =>
        have h : JF X e is g := h
        refine ⟨_, po_some h.run, fun env i => by simp only [gPart]; rw [h.inv], fun sg H Q env ph Z O A hn o eo q => ?_⟩
        simp only [gPart] at eo
        cases eg : g env with
        | none => rw [eg] at eo; cases eo
        | some x =>
          rw [eg] at eo
          cases x with
          | int i =>
            cases eo
            exact ⟨env, ph, Z, O, A, hn, _, eg, fun v Z' H' gr rp => ⟨i, by simpa only [RP] using rp, q Z' H' gr⟩⟩
          | _ => cases eo
  obtain ⟨tl, pl, il, ql⟩ := part hl
  obtain ⟨th, pu, iu, qu⟩ := part hh
  refine ⟨PEimp (pe_slice sl_V h.run pl pu) fun sg H Q q => ?_, fun env i => by unfold gSl; rw [h.inv, il, iu]⟩
  obtain ⟨env, ph, Z, O, A, hn, y, ey, hg⟩ := q
  unfold gSl at ey
  cases ea : ga env with
  | none => rw [ea] at ey; cases ey
  | some x =>
    simp only [ea, Option.bind_some] at ey
    cases el : gPart gl env with
    | none => simp only [el] at ey; cases ey
    | some l =>
      simp only [el, Option.bind_some] at ey
      cases eh : gPart gh env with
      | none => simp only [eh] at ey; cases ey
      | some u =>
        simp only [eh, Option.bind_some] at ey
        refine ⟨env, ph, Z, O, A, fun i m => hn i (List.mem_append_left _ m), x, ea, fun v Z1 H1 g1 rp => ?_⟩
        refine ql sg H1 _ env ph Z1 O (A.grow g1) (fun i m => hn i (List.mem_append_right _ (List.mem_append_left _ m))) l el fun Z2 H2 g2 => ?_
        refine qu sg H2 _ env ph Z2 O ((A.grow g1).grow g2) (fun i m => hn i (List.mem_append_right _ (List.mem_append_right _ m))) u eh fun Z3 H3 g3 => ?_
        exact ⟨Z3, x, y, (rp.grow g2).grow g3, ey, fun v4 Z4 H4 g4 rp4 => hg v4 Z4 H4 (((g1.trans g2).trans g3).trans g4) rp4⟩
theorem any_dat {x : P} {n m : Nat} (hx : okN n x = true) : ∀ {xs : List P}, okNs m xs = true → ((dats xs).any fun z => PyData.eqv z (dat x)) = inP x xs
  | [], _ => rfl
  | y :: xs, h => by
    simp only [okNs, Bool.and_eq_true] at h
    unfold inP
    simp only [dats, List.any_cons, eqv_dat h.1 hx]
    have q := any_dat hx h.2
    unfold inP at q
    rw [q]
theorem dats_lay {xs : List P} (h : okNs 39 xs = true) : PyData.canLayAll0 (dats xs) = true ∧ PyData.depthAll (dats xs) ≤ 39 := lays_of h
theorem in_run (hr : RU X.A) {pins : List (Addr × Obj)} {s : Shared} {sg : St} {H : Hp} {x y : V} {v u : Value} {Q : VK} {Z : Zs} {a : P} {xs : List P} (neg : Bool) (I : Inv X pins sg H s) (rx : L2.RelV x v) (ry : L2.RelV y u) (ra : RP X.K X.mg Z H x a)
    (rb : RP X.K X.mg Z H y (.lst xs) ∨ RP X.K X.mg Z H y (.tup xs)) (ha : okN 39 a = true) (hx : okNs 39 xs = true) (hq : Q (.bl (if neg then !inP a xs else inP a xs)) H) :
    wpAny (model X.prog X.w) X.A (compareOp (if neg then .NotIn else .In) v u) (EP X pins sg Q) X.xe s := by
  obtain ⟨as, r1⟩ := Dp.reads I _ x v (dp_of ra ha) rx
  have l1 := lay_of ha
  have l2 := dats_lay hx
  have hu : X.A.units + 1 + min (PyData.depthAll (dats xs)) (dat a).depth < cLine := by
    have := hr.un
    have := l1.2
    have := Nat.min_le_right (PyData.depthAll (dats xs)) (dat a).depth
    omega
  have e := any_dat ha hx
  rcases rb with rb | rb
  · obtain ⟨bs, r2⟩ := Dp.reads I _ y u (dp_of (n := 40) rb (by simp only [okN]; exact hx)) ry
    cases neg with
    | true => exact SeqAt.notIn_list_reads r2 r1 l2.1 l1.1 hu ⟨.bl _, H, I, rfl, by rw [e]; exact hq⟩
    | false => exact SeqAt.in_list_reads r2 r1 l2.1 l1.1 hu ⟨.bl _, H, I, rfl, by rw [e]; exact hq⟩
  · obtain ⟨bs, r2⟩ := Dp.reads I _ y u (dp_of (n := 40) rb (by simp only [okN]; exact hx)) ry
    cases neg with
    | true => exact SeqAt.notIn_tuple_reads r2 r1 l2.1 l1.1 hu ⟨.bl _, H, I, rfl, by rw [e]; exact hq⟩
    | false => exact SeqAt.in_tuple_reads r2 r1 l2.1 l1.1 hu ⟨.bl _, H, I, rfl, by rw [e]; exact hq⟩
theorem ov_in (hr : RU X.A) : OpV X (compareOp .In) pIn := by
  intro pins s sg H x y v u Q I rx ry ⟨Z, a, b, r, ra, rb, e, q⟩
  cases b with
  | lst xs =>
    simp only [pIn] at e
    split at e
    · rename_i hc
      simp only [Bool.and_eq_true] at hc
      cases e
      exact in_run hr false I rx ry ra (.inl rb) hc.1 hc.2 (got_p q (by simp only [RP]; rfl))
    · cases e
  | tup xs =>
    simp only [pIn] at e
    split at e
    · rename_i hc
      simp only [Bool.and_eq_true] at hc
      cases e
      exact in_run hr false I rx ry ra (.inr rb) hc.1 hc.2 (got_p q (by simp only [RP]; rfl))
    · cases e
  | dct ps vs =>
    have go : (keyOk a && ps.all keyOk || tkOk a && ps.all tkOk) = true → r = .bl (inP a ps) → wpAny (model X.prog X.w) X.A (compareOp .In v u) (EP X pins sg Q) X.xe s := fun hc er => by
      simp only [RP] at rb
      obtain ⟨p, us, rfl, _, d, rs⟩ := rb
      obtain rfl : u = Value.ref p := ry
      obtain ⟨H', o, I', g, _, back, eo, _⟩ := dct_any I d ra hc
      refine d_in (by have := hr.un; omega) I' g rx fun s3 I3 => ⟨.bl o.isSome, H, back _ I3, rfl, ?_⟩
      rw [eo]
      rw [er] at q
      exact got_p q (by simp only [RP])
    cases a with
    | int i =>
      simp only [pIn] at e
      split at e
      · rename_i hc
        cases e
        exact go (by rw [hc]; rfl) rfl
      · cases e
    | str i =>
      simp only [pIn] at e
      split at e
      · rename_i hc
        cases e
        exact go (by rw [hc]; rfl) rfl
      · cases e
    | tup i =>
      simp only [pIn] at e
      split at e
      · rename_i hc
        cases e
        exact go (by rw [hc]; exact Bool.or_true _) rfl
      · cases e
    | _ => simp [pIn] at e
  | _ => cases a <;> simp [pIn] at e
theorem ov_notIn (hr : RU X.A) : OpV X (compareOp .NotIn) pNotIn := by
  intro pins s sg H x y v u Q I rx ry ⟨Z, a, b, r, ra, rb, e, q⟩
  cases b with
  | lst xs =>
    simp only [pNotIn] at e
    split at e
    · rename_i hc
      simp only [Bool.and_eq_true] at hc
      cases e
      exact in_run hr true I rx ry ra (.inl rb) hc.1 hc.2 (got_p q (by simp only [RP]; rfl))
    · cases e
  | tup xs =>
    simp only [pNotIn] at e
    split at e
    · rename_i hc
      simp only [Bool.and_eq_true] at hc
      cases e
      exact in_run hr true I rx ry ra (.inr rb) hc.1 hc.2 (got_p q (by simp only [RP]; rfl))
    · cases e
  | dct ps vs =>
    have go : (keyOk a && ps.all keyOk || tkOk a && ps.all tkOk) = true → r = .bl (!inP a ps) → wpAny (model X.prog X.w) X.A (compareOp .NotIn v u) (EP X pins sg Q) X.xe s := fun hc er => by
      simp only [RP] at rb
      obtain ⟨p, us, rfl, _, d, rs⟩ := rb
      obtain rfl : u = Value.ref p := ry
      obtain ⟨H', o, I', g, _, back, eo, _⟩ := dct_any I d ra hc
      refine d_notIn (by have := hr.un; omega) I' g rx fun s3 I3 => ⟨.bl (!o.isSome), H, back _ I3, rfl, ?_⟩
      rw [eo]
      rw [er] at q
      exact got_p q (by simp only [RP])
    cases a with
    | int i =>
      simp only [pNotIn] at e
      split at e
      · rename_i hc
        cases e
        exact go (by rw [hc]; rfl) rfl
      · cases e
    | str i =>
      simp only [pNotIn] at e
      split at e
      · rename_i hc
        cases e
        exact go (by rw [hc]; rfl) rfl
      · cases e
    | tup i =>
      simp only [pNotIn] at e
      split at e
      · rename_i hc
        cases e
        exact go (by rw [hc]; exact Bool.or_true _) rfl
      · cases e
    | _ => simp [pNotIn] at e
  | _ => cases a <;> simp [pNotIn] at e
end
end Z
set_option Elab.async false
set_option linter.all false
set_option maxRecDepth 100000
set_option maxHeartbeats 1000000
namespace Z
open PySem L2
def isL : D → Bool
  | .l _ => true
  | _ => false
/-- a method of the thing in slot m -/
def eMt (c : D → Bool) (m : Nat) (as : List Arg) (h : Fn) : EF := fun env => match env[m]? with
  | some (.var d) => if c d then eOpM m as h env else .stuck
  | some (.fix d) => if c d then eOpM m as h env else .stuck
  | _ => .stuck
section
variable {K : PySem.W.Frag} {mg : Str → Option Value} {W : WX} {Z : Zs} {H : Hp}
/-- what a dict, a list, an instance is: no other thing -/
def notXt (o : HO) : Prop := ∀ q, o ≠ .ext q
theorem tabS_upd {H : Hp} {a P : Addr} {o o' : HO} {q : Str} (e : H a = some o) (nx : notXt o) (nt : notTb o) (t : LamX.TabS H P q) : LamX.TabS (upd H a o') P q := by
  obtain ⟨ps, h1, h2, h3⟩ := t
  refine ⟨ps, ?_, h2, fun pos cv hc => ?_⟩
  · by_cases z : P = a
    · subst z; rw [e] at h1; exact (nt ps (Option.some.inj h1)).elim
    · rw [upd_ne z]; exact h1
  · obtain ⟨c, e1, e2⟩ := h3 pos cv hc
    refine ⟨c, e1, ?_⟩
    by_cases z : c = a
    · subst z; rw [e] at e2; exact (nx _ (Option.some.inj e2)).elim
    · rw [upd_ne z]; exact e2
theorem tbOk_upd {H : Hp} {a : Addr} {o o' : HO} (e : H a = some o) (nx : notXt o) (nt : notTb o) (nt' : notTb o') (h : TbOk H) : TbOk (upd H a o') :=
  fun p m => tabS_upd e nx nt (h p m)
/-- a thing of one's own is written -/
theorem kp_write {O : List Addr} {a : Addr} {o o' : HO} (v : Vld Z H (a :: O)) (e : H a = some o) : Kp Z O H (upd H a o') := fun b ob eb hc _ => by
  by_cases q : b = a
  · subst q
    rcases hc with hc | hc | hc
    · exact (v.nz _ List.mem_cons_self hc).elim
    · exact ((List.nodup_cons.mp v.nd).1 hc).elim
    · have m := v.mu _ List.mem_cons_self
      rw [eb] at m
      exact (hc m).elim
  · rw [upd_ne q]; exact eb
theorem Vld.write {O O' : List Addr} {a : Addr} {o o' : HO} (v : Vld Z H (a :: O)) (e : H a = some o) (nx : notXt o) (hm : MutO a (some o')) (hs : ∀ b ∈ O', b ∈ O) (hn : O'.Nodup) : Vld Z (upd H a o') (a :: O') where
  tb := tbOk_upd e nx (notTb.of (by have m := (v.mu a List.mem_cons_self).mut; rw [e] at m; exact m)) (notTb.of hm.mut) v.tb
  nd := List.nodup_cons.mpr ⟨fun m => (List.nodup_cons.mp v.nd).1 (hs a m), hn⟩
  nz b h := by
    rcases List.mem_cons.mp h with e | e
    · subst e; exact v.nz _ List.mem_cons_self
    · exact v.nz b (List.mem_cons_of_mem _ (hs b e))
  zs b z := by
    by_cases e : b = a
    · subst e; exact (v.nz _ List.mem_cons_self z).elim
    · rw [upd_ne e]; exact v.zs b z
  mu b h := by
    by_cases e : b = a
    · subst e; rw [upd_same]; exact hm
    · rw [upd_ne e]
      rcases List.mem_cons.mp h with q | q
      · exact (e q).elim
      · exact v.mu b (List.mem_cons_of_mem _ (hs b q))
theorem Tr.write {O O' : List Addr} {a : Addr} {o o' : HO} (e : H a = some o) (nx : notXt o) (nt : notTb o) (hs : ∀ b ∈ O', b ∈ O) (nt' : notTb o') : Tr Z H (a :: O) Z (upd H a o') (a :: O') where
  z1 b h := h
  z2 b h := .inl h
  o1 b h := by
    rcases List.mem_cons.mp h with q | q
    · exact .inl (q ▸ List.mem_cons_self)
    · exact .inl (List.mem_cons_of_mem _ (hs b q))
  tb := tbOk_upd e nx nt nt'
  kp b ob eb hn _ := by
    have q : b ≠ a := fun z => hn (z ▸ List.mem_cons_self)
    rw [upd_ne q]; exact eb
  nn b h := by
    by_cases q : b = a
    · subst q; rw [upd_same] at h; cases h
    · rw [upd_ne q] at h; exact h
theorem eMt_ok {m : Nat} {as : List Arg} {h : Fn} {sg : St} {Q : VK} (hr : rE K mg W (eMt isL m as h) sg H Q) :
    ∃ u, sg[m]? = some (some u) ∧ (∃ a xs, u = .ref a ∧ H a = some (.lst xs)) ∧ rAs K mg W as sg H fun vs H1 => Sat K mg true (as.length + 1) h (u :: vs) H1 Q (WE W sg) := by
  obtain ⟨env, ph, Z, O, A, hh⟩ := hr
  unfold eMt at hh
  have go : ∀ {d : D} {s : Slot}, env[m]? = some s → slotD s = some d → isL d = true → (match eOpM m as h env with
      | .ok d env' => ∀ v H' Z' O' Od, RE K mg Z' H' ph sg env' O' → RD K mg Z' H' v d Od → Vld Z' H' (O' ++ Od) → Tr Z H O Z' H' (O' ++ Od) → Q v H'
      | .exc e env' => XcK K mg W ph Z H O sg e env'
      | .stuck => False) → ∃ u, sg[m]? = some (some u) ∧ (∃ a xs, u = .ref a ∧ H a = some (.lst xs)) ∧ rAs K mg W as sg H fun vs H1 => Sat K mg true (as.length + 1) h (u :: vs) H1 Q (WE W sg) := fun {d s} es ed hc hq => by
    obtain ⟨u, eu, q⟩ := eOpM_ok (W := W) ⟨env, ph, Z, O, A, hq⟩
    refine ⟨u, eu, ?_, q⟩
    obtain ⟨v, O1, Or, ev, r, _⟩ := A.re.at es
    obtain ⟨w, ew, rw_⟩ := r.val ed
    rw [eu] at ev
    have e2 : w = u := by rw [ew] at ev; exact (Option.some.inj (Option.some.inj ev)).symm
    subst e2
    cases d with
    | l xs =>
      simp only [RD] at rw_
      obtain ⟨a, us, _, e, s, _⟩ := rw_
      exact ⟨a, us, e, s⟩
    | _ => cases hc
  cases es : env[m]? with
  | none => simp only [es] at hh
  | some s =>
    cases s with
    | no => simp only [es] at hh
    | lock _ => simp only [es] at hh
    | var d =>
      simp only [es] at hh
      by_cases hc : isL d = true
      · simp only [hc, if_true] at hh
        exact go es rfl hc hh
      · simp only [hc, Bool.false_eq_true, if_false] at hh
    | fix d =>
      simp only [es] at hh
      by_cases hc : isL d = true
      · simp only [hc, if_true] at hh
        exact go es rfl hc hh
      · simp only [hc, Bool.false_eq_true, if_false] at hh
end
/-- a built-in's method, by trees -/
def MtZ (X : Cx) (id : String) (n : Nat) (h : Fn) : Prop := MtR X id fun x xs H Q => ∃ E, Sat X.K X.mg true n h (x :: xs) H Q E
section
variable {X : Cx} {W : WX} {k n m : Nat} {o e : Expr} {es : List Expr} {as : List Arg} {h : Fn} {name : Str} {apos cpos : Pos} {id : String}
theorem rAs_mono {K : PySem.W.Frag} {mg : Str → Option Value} {sg : St} {H : Hp} {Q Q' : List V → Hp → Prop} (hq : ∀ v H', Q v H' → Q' v H') (z : rAs K mg W as sg H Q) : rAs K mg W as sg H Q' := by
  obtain ⟨env, ph, Z, O, A, z⟩ := z
  refine ⟨env, ph, Z, O, A, ?_⟩
  cases e1 : args1 as env with
  | ok os env' => rw [e1] at z; exact fun vs H' Z' O' Ot r1 r2 r3 r4 => hq _ _ (z vs H' Z' O' Ot r1 r2 r3 r4)
  | exc x env' => rw [e1] at z; exact z
  | stuck => rw [e1] at z; exact z
theorem je_mt (slot : PySem.Slot "list" name id) (hty : typeOf (.builtin id) = pure (.type "method_descriptor")) (hm : MtZ X id n h) (ho : PE X o (tVar m)) (ha : JAs X W (e :: es) as) (hn : as.length + 1 = n)
    (hbase : attributeBase o name X.env (eval o X.env) = eval o X.env := by rfl)
    (hfew : ((backTo cpos (starEach (e :: es) X.env)).all (fun x => !x.1) && (backToKw cpos (keywordEach [] X.env)).all (fun x => x.1.isSome)
      && decide ((e :: es).length + ([] : List Keyword).length + (if ([] : List Keyword).isEmpty then 0 else 1) < 30)) = true := by rfl)
    (hline : (apos.endLine == cpos.line) = true := by rfl) (hs : starEach (e :: es) X.env = (false, eval e X.env) :: starEach es X.env := by rfl) (hplain : (backTo cpos (starEach es X.env)).any (·.1) = false := by rfl) :
    JE X W (.Call (.Attribute o name apos) (e :: es) [] cpos) (eMt isL m as h) :=
  PEimp (pe_bm PySem.F.plainAttrs_list slot hty hm ho ha hbase hfew hline hs hplain) fun sg H Q q => by
    obtain ⟨u, eu, ⟨a, xs, ea, ha⟩, q1⟩ := eMt_ok q
    refine ⟨u, eu, ?_, ?_⟩
    · subst ea
      exact .inl ⟨rfl, xs, .inl (.inl ha)⟩
    · rw [hn] at q1
      exact rAs_mono (fun vs H' z => ⟨_, z⟩) q1
theorem je_mt0 (slot : PySem.Slot "list" name id) (hty : typeOf (.builtin id) = pure (.type "method_descriptor")) (hm : MtZ X id 1 h) (ho : PE X o (tVar m))
    (hbase : attributeBase o name X.env (eval o X.env) = eval o X.env := by rfl) (hline : (apos.endLine == cpos.line) = true := by rfl) :
    JE X W (.Call (.Attribute o name apos) [] [] cpos) (eMt isL m [] h) :=
  PEimp (pe_bm0 PySem.F.plainAttrs_list slot hty hm ho hbase hline) fun sg H Q q => by
    obtain ⟨u, eu, ⟨a, xs, ea, ha⟩, q1⟩ := eMt_ok q
    refine ⟨u, eu, ?_, ?_⟩
    · subst ea
      exact .inl ⟨rfl, xs, .inl (.inl ha)⟩
    · exact ⟨_, rAs_nil q1⟩
end
section
variable {K : PySem.W.Frag} {mg : Str → Option Value} {Z : Zs} {H : Hp}
theorem RDs.app : ∀ {ds es : List D} {us ws : List V} {O1 O2 : List Addr}, RDs K mg Z H us ds O1 → RDs K mg Z H ws es O2 → RDs K mg Z H (us ++ ws) (ds ++ es) (O1 ++ O2)
  | [], _, [], _, _, _, h, h2 => by
    simp only [RDs] at h
    subst h
    exact h2
  | [], _, _ :: _, _, _, _, h, _ => by simp only [RDs] at h
  | _ :: _, _, [], _, _, _, h, _ => by simp only [RDs] at h
  | d :: ds, es, u :: us, ws, _, O2, h, h2 => by
    simp only [RDs] at h
    obtain ⟨A, B, h1, h3, e⟩ := h
    subst e
    simp only [List.cons_append, RDs]
    exact ⟨A, B ++ O2, h1, RDs.app h3 h2, by rw [List.append_assoc]⟩
theorem RDs.one {d : D} {u : V} {O : List Addr} (h : RD K mg Z H u d O) : RDs K mg Z H [u] [d] O := by
  simp only [RDs]
  exact ⟨O, [], h, rfl, by rw [List.append_nil]⟩
/-- one thing of a list, and the rest -/
theorem RDs.erase : ∀ {ds : List D} {us : List V} {O : List Addr} {i : Nat} {d : D}, RDs K mg Z H us ds O → ds[i]? = some d → ∃ u O1 O2, us[i]? = some u ∧ RD K mg Z H u d O1 ∧ RDs K mg Z H (us.eraseIdx i) (ds.eraseIdx i) O2 ∧ O.Perm (O1 ++ O2)
  | [], _, _, _, _, _, e => by simp at e
  | _ :: _, [], _, _, _, h, _ => by simp only [RDs] at h
  | d :: ds, u :: us, _, 0, x, h, e => by
    simp only [RDs] at h
    obtain ⟨A, B, h1, h3, e2⟩ := h
    have : d = x := by simpa using e
    subst this
    exact ⟨u, A, B, rfl, h1, h3, by rw [e2]⟩
  | d :: ds, u :: us, _, i + 1, x, h, e => by
    simp only [RDs] at h
    obtain ⟨A, B, h1, h3, e2⟩ := h
    obtain ⟨w, O1, O2, q1, q2, q3, q4⟩ := RDs.erase (i := i) h3 (by simpa using e)
    refine ⟨w, O1, A ++ O2, by simpa using q1, q2, ?_, ?_⟩
    · simp only [List.eraseIdx_cons_succ, RDs]
      exact ⟨A, O2, h1, q3, rfl⟩
    · rw [e2]
      refine (List.Perm.append_left A q4).trans ?_
      rw [← List.append_assoc, ← List.append_assoc]
      exact List.Perm.append_right O2 List.perm_append_comm
theorem RDs.set : ∀ {ds : List D} {us : List V} {O Od : List Addr} {i : Nat} {d : D} {u : V}, RDs K mg Z H us ds O → i < ds.length → RD K mg Z H u d Od → ∃ O1 O2, RDs K mg Z H (us.set i u) (ds.set i d) O1 ∧ (O ++ Od).Perm (O1 ++ O2)
  | [], _, _, _, _, _, _, _, e, _ => by simp at e
  | _ :: _, [], _, _, _, _, _, h, _, _ => by simp only [RDs] at h
  | d :: ds, u :: us, _, Od, 0, x, w, h, e, r => by
    simp only [RDs] at h
    obtain ⟨A, B, h1, h3, e2⟩ := h
    refine ⟨Od ++ B, A, ?_, ?_⟩
    · simp only [List.set_cons_zero, RDs]
      exact ⟨Od, B, r, h3, rfl⟩
    · rw [e2]
      refine List.perm_append_comm.trans ?_
      rw [List.append_assoc]
      exact List.Perm.append_left Od List.perm_append_comm
  | d :: ds, u :: us, _, Od, i + 1, x, w, h, e, r => by
    simp only [RDs] at h
    obtain ⟨A, B, h1, h3, e2⟩ := h
    obtain ⟨O1, O2, q1, q2⟩ := RDs.set (i := i) h3 (by simpa using e) r
    refine ⟨A ++ O1, O2, ?_, ?_⟩
    · simp only [List.set_cons_succ, RDs]
      exact ⟨A, O1, h1, q1, rfl⟩
    · rw [e2, List.append_assoc, List.append_assoc]
      exact List.Perm.append_left A q2
/-- behind a write at a list of one's own: the value and the list -/
theorem sat_write {O O1 Od Or : List Addr} {a : Addr} {us us' vs : List V} {ds' : List D} {r : D} {v : V} {Q : VK} (vl : Vld Z H (a :: O)) (e : H a = some (.lst us)) (h' : RDs K mg Z H us' ds' O1) (rv : RD K mg Z H v r Od) (hp : O.Perm ((Od ++ O1) ++ Or))
    (hq : ∀ v' Z' H' O', RDs K mg Z' H' (v' :: nFin true (V.ref a :: vs)) (r :: dFin true (D.l ds')) O' → Vld Z' H' O' → Tr Z H (a :: O) Z' H' O' → Q v' H') : Q v (upd H a (.lst us')) := by
  have hs : ∀ b ∈ Od ++ O1, b ∈ O := fun b m => hp.mem_iff.mpr (List.mem_append_left _ m)
  have kp : Kp Z O H (upd H a (.lst us')) := kp_write vl e
  have vn : (Od ++ O1).Nodup := (List.nodup_append.mp (hp.nodup_iff.mp (List.nodup_cons.mp vl.nd).2)).1
  have v2 := vl.write (o' := .lst us') (O' := Od ++ O1) e (fun _ z => nomatch z) trivial hs vn
  have t2 : Tr Z H (a :: O) Z (upd H a (.lst us')) (a :: (Od ++ O1)) := Tr.write e (fun _ z => nomatch z) (fun _ z => nomatch z) hs (by intro _ z; cases z)
  have pp : (a :: (Od ++ O1)).Perm (Od ++ (a :: O1)) := List.perm_middle.symm
  refine hq v Z _ (Od ++ (a :: O1)) ?_ (v2.perm pp) (t2.perm (List.Perm.refl _) pp)
  unfold nFin dFin
  simp only [if_true, List.take_succ_cons, List.take_zero]
  refine rds_cons (RD.kp (fun _ q => q) (kp.less fun b m => hs b (List.mem_append_left _ m)) rv) (RDs.one ?_)
  simp only [RD]
  exact ⟨a, us', O1, rfl, upd_same, RDs.kp (fun _ q => q) (kp.less fun b m => hs b (List.mem_append_right _ m)) h', rfl⟩
theorem rds2 {us : List V} {d e : D} {O : List Addr} (h : RDs K mg Z H us [d, e] O) : ∃ u w O1 O2, us = [u, w] ∧ RD K mg Z H u d O1 ∧ RD K mg Z H w e O2 ∧ O = O1 ++ O2 := by
  match us, h with
  | [u, w], h =>
    simp only [RDs] at h
    obtain ⟨O1, O2, h1, ⟨O3, O4, h2, h3, e2⟩, e⟩ := h
    subst h3
    rw [List.append_nil] at e2
    subst e2
    exact ⟨u, w, O1, _, rfl, h1, h2, e⟩
  | [], h => simp only [RDs] at h
  | [_], h => simp only [RDs] at h; obtain ⟨_, _, _, h, _⟩ := h; exact h.elim
  | _ :: _ :: _ :: _, h => simp only [RDs] at h; obtain ⟨_, _, _, ⟨_, _, _, h, _⟩, _⟩ := h; exact h.elim
theorem rds3 {us : List V} {d e f : D} {O : List Addr} (h : RDs K mg Z H us [d, e, f] O) : ∃ u w z O1 O2 O3, us = [u, w, z] ∧ RD K mg Z H u d O1 ∧ RD K mg Z H w e O2 ∧ RD K mg Z H z f O3 ∧ O = O1 ++ (O2 ++ O3) := by
  match us, h with
  | [], h => simp only [RDs] at h
  | u :: us, h =>
    simp only [RDs] at h
    obtain ⟨O1, O2, h1, h2, e1⟩ := h
    have h2 : RDs K mg Z H us [e, f] O2 := by
      cases us with
      | nil => exact h2.elim
      | cons w us => simpa only [RDs] using h2
    obtain ⟨w, z, O3, O4, eu, q1, q2, e2⟩ := rds2 h2
    subst eu; subst e2
    exact ⟨u, w, z, O1, O3, O4, rfl, h1, q1, q2, e1⟩
end
section
variable {X : Cx}
theorem mtz_ok {id : String} {n : Nat} {h : Fn} (hx : ∀ ds e f, h ds ≠ .exc e f)
    (run : ∀ (pins : List (Addr × Obj)) (s : Shared) (sg : St) (H : Hp) (x : V) (xs : List V) (v : Value) (us : List Value) (Q : VK) (Z : Zs) (O : List Addr) (ds : List D) (r fin : D), Inv X pins sg H s → RelV x v → Vals xs us →
      RDs X.K X.mg Z H (x :: xs) ds O → Vld Z H O → h ds = .ok r fin → (∀ v' Z' H' O', RDs X.K X.mg Z' H' (v' :: nFin true (x :: xs)) (r :: dFin true fin) O' → Vld Z' H' O' → Tr Z H O Z' H' O' → Q v' H') →
      wpAny (model X.prog X.w) X.A (call (.builtin id) (v :: us)) (EP X pins sg Q) X.xe s) : MtZ X id n h := by
  intro pins s sg H x xs v us Q I rx rs hq
  obtain ⟨E, hl, Z, O, ds, rd, vl, hq⟩ := hq
  cases e : h ds with
  | stuck => rw [e] at hq; exact hq.elim
  | exc x f => exact (hx _ _ _ e).elim
  | ok r fin =>
    rw [e] at hq
    exact run pins s sg H x xs v us Q Z O ds r fin I rx rs rd vl e hq
theorem mz_append : MtZ X "list.append" 2 hAppend := by
  refine mtz_ok (fun ds e f => by unfold hAppend; split <;> (try split) <;> simp) ?_
  intro pins s sg H x xs v us Q Z O ds r fin I rx rs rd vl e hq
  unfold hAppend at e
  split at e
  · rename_i l y
    split at e
    · rename_i hz
      cases e
      obtain ⟨u, w, O1, O2, eu, r1, r2, eO⟩ := rds2 rd
      cases eu
      simp only [RD] at r1
      obtain ⟨a, us', O', rfl, ha, r1, e⟩ := r1
      subst e; subst eO
      refine mt_append pins s sg H _ _ v us Q I rx rs ⟨a, us', w, rfl, rfl, ha, by rw [r1.length, ← lineN_eq]; exact hz, ?_⟩
      exact sat_write (Od := []) (Or := []) (vl := vl) ha (r1.app (RDs.one r2)) (rd_p (by simp only [RP])) (by simp) hq
    · cases e
  · cases e
theorem mz_pop : MtZ X "list.pop" 1 hPop := by
  refine mtz_ok (fun ds e f => by unfold hPop; split <;> (try split) <;> simp) ?_
  intro pins s sg H x xs v us Q Z O ds r fin I rx rs rd vl e hq
  unfold hPop at e
  split at e
  · rename_i l
    split at e
    · rename_i y hy
      cases e
      cases xs with
      | cons _ _ => simp only [RDs] at rd; obtain ⟨_, _, _, h, _⟩ := rd; exact h.elim
      | nil =>
        have rd := rds1 rd
        simp only [RD] at rd
        obtain ⟨a, us', O', rfl, ha, r1, e⟩ := rd
        subst e
        obtain ⟨u, O1, O2, q1, q2, q3, q4⟩ := r1.erase hy
        have hl := r1.length
        refine mt_pop pins s sg H _ _ v us Q I rx rs ⟨a, us', u, rfl, rfl, ha, by rw [hl]; exact q1, ?_⟩
        have ed : l.eraseIdx (l.length - 1) = l.dropLast := List.eraseIdx_length_sub_one
        have eu : us'.eraseIdx (l.length - 1) = us'.dropLast := by rw [← hl]; exact List.eraseIdx_length_sub_one
        rw [ed, eu] at q3
        exact sat_write (Or := []) (vl := vl) ha q3 q2 (by rw [List.append_nil]; exact q4) hq
    · cases e
  · cases e
theorem mz_popAt : MtZ X "list.pop" 2 hPopAt := by
  refine mtz_ok (fun ds e f => by unfold hPopAt; split <;> (try split) <;> (try split) <;> (try split) <;> simp) ?_
  intro pins s sg H x xs v us Q Z O ds r fin I rx rs rd vl e hq
  unfold hPopAt at e
  split at e
  · rename_i l i
    split at e
    · rename_i j hj
      split at e
      · rename_i y hy
        split at e
        · rename_i hb
          cases e
          obtain ⟨u, w, O1, O2, eu, r1, r2, eO⟩ := rds2 rd
          cases eu
          simp only [RD] at r1
          obtain ⟨a, us', O', rfl, ha, r1, e⟩ := r1
          subst e; subst eO
          obtain ⟨e2, r3⟩ := of_rd_p r2
          subst e2
          simp only [RP] at r3
          subst r3
          obtain ⟨z, O1, O2, q1, q2, q3, q4⟩ := r1.erase hy
          have hl := r1.length
          have hj2 : seqIndex? i us'.length = some j := by
            have q : ixN us'.length i = some j := by rw [hl]; exact hj
            exact (ixN_seq q).1
          refine mt_popAt pins s sg H _ _ v us Q I rx rs ⟨a, us', i, j, z, rfl, rfl, ha, hb.1, hb.2, hj2, q1, ?_⟩
          exact sat_write (O := O' ++ []) (Or := []) (vl := vl) ha q3 q2 (by rw [List.append_nil, List.append_nil]; exact q4) hq
        · cases e
      · cases e
    · cases e
  · cases e
end
end Z
set_option Elab.async false
set_option linter.all false
set_option maxRecDepth 100000
set_option maxHeartbeats 1000000
namespace Z
open PySem L2
section
variable {K : PySem.W.Frag} {mg : Str → Option Value} {Z : Zs} {H : Hp}
theorem seq_of {d : D} {v : V} {O : List Addr} {xs : List D} (r : RD K mg Z H v d O) (e : seqL d = some xs) : ∃ a us O', v = .ref a ∧ H a = some (.lst us) ∧ RDs K mg Z H us xs O' ∧ (∃ O2, O.Perm (O' ++ O2)) := by
  cases d with
  | l ys =>
    cases e
    simp only [RD] at r
    obtain ⟨a, us, O', e1, h, r, e2⟩ := r
    subst e2
    exact ⟨a, us, O', e1, h, r, [a], List.perm_append_comm (l₁ := [a])⟩
  | p x =>
    cases x with
    | lst ys =>
      cases e
      obtain ⟨e2, r1⟩ := of_rd_p r
      subst e2
      simp only [RP] at r1
      obtain ⟨a, us, e1, _, h, r1⟩ := r1
      exact ⟨a, us, [], e1, h, r1.ds, [], List.Perm.refl _⟩
    | _ => cases e
  | _ => cases e
end
section
variable {X : Cx} {W : WX} {k n m : Nat} {pos : Pos} {e o i : Expr} {es : List Expr} {as : List Arg} {a b : Arg} {l r : Expr}
theorem mz_extend : MtZ X "list.extend" 2 hExtend := by
  refine mtz_ok (fun ds e f => by unfold hExtend; split <;> (try split) <;> (try split) <;> simp) ?_
  intro pins s sg H x xs v us Q Z O ds r fin I rx rs rd vl e hq
  unfold hExtend at e
  split at e
  · rename_i l y
    split at e
    · rename_i ys hy
      split at e
      · rename_i hz
        cases e
        obtain ⟨u, w, O1, O2, eu, r1, r2, eO⟩ := rds2 rd
        cases eu
        simp only [RD] at r1
        obtain ⟨a, us', O', rfl, ha, r1, e⟩ := r1
        subst e; subst eO
        obtain ⟨b, ws, O3, rfl, hb, r3, O4, p4⟩ := seq_of r2 hy
        refine mt_extend pins s sg H _ _ v us Q I rx rs ⟨a, b, us', ws, rfl, rfl, ha, hb, by rw [r1.length, r3.length, ← lineN_eq]; exact hz, ?_⟩
        exact sat_write (Od := []) (Or := O4) (vl := vl) ha (r1.app r3) (rd_p (by simp only [RP])) (by
          simp only [List.nil_append, List.append_assoc]
          exact List.Perm.append_left O' p4) hq
      · cases e
    · cases e
  · cases e
/-- a new list, made of what the arguments own -/
theorem sat_newp2 {K : PySem.W.Frag} {mg : Str → Option Value} {Z : Zs} {H : Hp} {O O1 O2 : List Addr} {us : List V} {ds : List D} {p : Addr} {vs : List V} {Q : VK} (v : Vld Z H O) (hp : O.Perm (O1 ++ O2)) (h : RDs K mg Z H us ds O1) (hn : H p = none)
    (hq : ∀ v Z' H' O', RDs K mg Z' H' (v :: nFin false vs) (D.l ds :: dFin false (.p .non)) O' → Vld Z' H' O' → Tr Z H O Z' H' O' → Q v H') : Q (.ref p) (upd H p (.lst us)) :=
  sat_newl (vs := vs) (v.sub hp) h hn fun v' Z' H' O' r1 r2 r3 => hq v' Z' H' O' r1 r2 (by
    have t0 : Tr Z H O Z H O1 := (Tr.refl Z H O).less fun a m => hp.mem_iff.mpr (List.mem_append_left _ m)
    exact t0.trans r3)
theorem oz_addL : OpZ X (binaryOp .Add) hAddL := by
  intro pins s sg H x y v u Q I rx ry hq
  obtain ⟨E, hl, Z, O, ds, rd, vl, hq⟩ := hq
  unfold hAddL at hq
  split at hq
  · rename_i r fin e1
    split at e1
    · split at e1
      · rename_i xs ys hx hy
        split at e1
        · rename_i hz
          cases e1
          obtain ⟨u1, w, O1, O2, eu, r1, r2, eO⟩ := rds2 rd
          cases eu
          subst eO
          obtain ⟨a, us', O3, rfl, ha, r3, O4, p4⟩ := seq_of r1 hx
          obtain ⟨b, ws, O5, rfl, hb, r5, O6, p6⟩ := seq_of r2 hy
          refine op_cat pins s sg H _ _ v u Q I rx ry ⟨a, b, us', ws, rfl, rfl, ha, hb, by rw [r3.length, r5.length, ← lineN_eq]; exact hz, fun p hp => ?_⟩
          refine sat_newp2 (O2 := O4 ++ O6) vl ?_ (r3.app r5) hp hq
          refine (p4.append p6).trans ?_
          rw [List.append_assoc, List.append_assoc]
          refine List.Perm.append_left O3 ?_
          rw [← List.append_assoc, ← List.append_assoc]
          exact List.Perm.append_right O6 List.perm_append_comm
        · cases e1
      · cases e1
    · cases e1
  · rename_i x1 f e1
    split at e1
    · split at e1
      · split at e1 <;> cases e1
      · cases e1
    · cases e1
  · exact hq.elim
theorem scr_sq {K : PySem.W.Frag} {Z : Zs} {H : Hp} {a : Addr} {us : List V} (h : (Z a ∧ H a = some (.lst us)) ∨ (∃ o, H a = some (.frz o (.lst us))) ∨ SqL K (fun _ => none) a us) : SqL K H a us := by
  rcases h with h | ⟨o, h⟩ | (h | ⟨o, h⟩) | h
  · exact .inl (.inl h.2)
  · exact .inl (.inr ⟨o, h⟩)
  · cases h
  · cases h
  · exact .inr h
theorem rps_ints {K : PySem.W.Frag} {mg : Str → Option Value} {Z : Zs} {H : Hp} : ∀ ns : List Int, RPs K mg Z H (ns.map V.int) (ns.map P.int)
  | [] => by simp only [List.map_nil, RPs]
  | n :: ns => by
    simp only [List.map_cons, RPs, RP]
    exact ⟨trivial, rps_ints ns⟩
theorem cz_list : CallZ X (.type "list") 1 hListOf := by
  intro pins s sg H xs us Q I r hq
  obtain ⟨E, hl, Z, O, ds, rd, vl, hq⟩ := hq
  unfold hListOf at hq
  split at hq
  · rename_i r' fin e1
    split at e1
    · cases e1
      match xs, rd with
      | [w], rd =>
        obtain ⟨e2, r1⟩ := of_rd_p (rds1 rd)
        subst e2
        simp only [RP] at r1
        obtain ⟨a, ws, rfl, _, h, r1⟩ := r1
        exact call_list_of pins s sg H _ us Q I r ⟨a, ws, rfl, .inl (.inl (.inl h)), fun p hp => sat_newl vl r1.ds hp hq⟩
      | [], rd => simp only [RDs] at rd
      | _ :: _ :: _, rd => simp only [RDs] at rd; obtain ⟨_, _, _, h, _⟩ := rd; exact h.elim
    · cases e1
      match xs, rd with
      | [w], rd =>
        obtain ⟨e2, r1⟩ := of_rd_p (rds1 rd)
        subst e2
        simp only [RP] at r1
        obtain ⟨a, ws, rfl, h, r1⟩ := r1
        exact call_list_of pins s sg H _ us Q I r ⟨a, ws, rfl, .inr h.1, fun p hp => sat_newl vl r1.ds hp hq⟩
      | [], rd => simp only [RDs] at rd
      | _ :: _ :: _, rd => simp only [RDs] at rd; obtain ⟨_, _, _, h, _⟩ := rd; exact h.elim
    · cases e1
      rename_i ns
      match xs, rd with
      | [w], rd =>
        obtain ⟨e2, r1⟩ := of_rd_p (rds1 rd)
        subst e2
        simp only [RP] at r1
        obtain ⟨a, rfl, h⟩ := r1
        have q1 : SqL X.K H a (ns.map V.int) := scr_sq h
        refine call_list_of pins s sg H _ us Q I r ⟨a, ns.map V.int, rfl, .inl q1, fun p hp => ?_⟩
        have e3 : ns.map (fun n => D.p (.int n)) = (ns.map P.int).map D.p := by rw [List.map_map]; rfl
        rw [e3] at hq
        exact sat_newl vl (rps_ints ns).ds hp hq
      | [], rd => simp only [RDs] at rd
      | _ :: _ :: _, rd => simp only [RDs] at rd; obtain ⟨_, _, _, h, _⟩ := rd; exact h.elim
    · cases e1
      match xs, rd with
      | [w], rd =>
        have r1 := rds1 rd
        simp only [RD] at r1
        obtain ⟨a, ws, O', rfl, h, r1, e2⟩ := r1
        subst e2
        exact call_list_of pins s sg H _ us Q I r ⟨a, ws, rfl, .inl (.inl (.inl h)), fun p hp => sat_newp2 (O2 := [a]) vl (List.perm_append_comm (l₁ := [a])) r1 hp hq⟩
      | [], rd => simp only [RDs] at rd
      | _ :: _ :: _, rd => simp only [RDs] at rd; obtain ⟨_, _, _, h, _⟩ := rd; exact h.elim
    · cases e1
  · rename_i x1 f e1
    split at e1 <;> cases e1
  · exact hq.elim
/-- [a, b, ..] -/
theorem je_lst (ha : JAs X W es as) : JE X W (.List es pos) (eOp as hList) :=
  PEimp (pe_lst ha) fun sg H Q q => rAs_mono (fun vs H1 z => by
    obtain ⟨hl, Z, O, ds, rd, vl, h⟩ := z
    unfold hList at h
    split at h
    · rename_i r fin e1
      split at e1
      · rename_i hz
        cases e1
        exact ⟨by rw [rd.length, ← lineN_eq]; exact hz, fun p hp => sat_newl vl rd hp h⟩
      · cases e1
    · rename_i x1 f e1
      split at e1 <;> cases e1
    · exact h.elim) (eOp_ok q)
end
end Z
set_option Elab.async false
set_option linter.all false
set_option maxRecDepth 100000
set_option maxHeartbeats 1000000
namespace Z
open PySem L2
section
variable {K : PySem.W.Frag} {mg : Str → Option Value} {Z : Zs} {H : Hp}
theorem putP_okG {κ : Type} [DecidableEq κ] {kf : κ → P} (inj : ∀ a b, eqP (kf a) (kf b) = decide (a = b)) : ∀ {kvs : List (κ × V)} {ds : List D} {O Od : List Addr} {k : κ} {d : D} {v : V}, nodupP (kvs.map fun q => kf q.1) = true → RDs K mg Z H (kvs.map (·.2)) ds O → RD K mg Z H v d Od →
    (putP (kvs.map fun q => kf q.1) ds (kf k) d).1 = ((putK kvs k v).map fun q => kf q.1) ∧ ∃ O1 O2, RDs K mg Z H ((putK kvs k v).map (·.2)) (putP (kvs.map fun q => kf q.1) ds (kf k) d).2 O1 ∧ (O ++ Od).Perm (O1 ++ O2)
  | [], ds, O, Od, k, d, v, _, h, r => by
    simp only [List.map_nil] at h
    cases ds with
    | cons _ _ => simp only [RDs] at h
    | nil =>
      simp only [RDs] at h
      subst h
      refine ⟨rfl, Od, [], ?_, by simp⟩
      exact RDs.one r
  | kv :: kvs, [], _, _, _, _, _, _, h, _ => by simp only [List.map_cons, RDs] at h
  | kv :: kvs, d0 :: ds, O, Od, k, d, v, hn, h, r => by
    simp only [List.map_cons, nodupP, Bool.and_eq_true, Bool.not_eq_true'] at hn
    simp only [List.map_cons, RDs] at h
    obtain ⟨A, B, h1, h2, e⟩ := h
    subst e
    simp only [List.map_cons, putP, inj]
    by_cases q : kv.1 = k
    · simp only [q, decide_true, if_true]
      have hne : ∀ p ∈ kvs, p.1 ≠ k := by rw [← q]; exact inP_falseG inj hn.1
      rw [putK_posG q hne]
      refine ⟨by simp [q], Od ++ B, A, ?_, ?_⟩
      · simp only [List.map_cons, RDs]
        exact ⟨Od, B, r, h2, rfl⟩
      · refine List.perm_append_comm.trans ?_
        rw [List.append_assoc]
        exact List.Perm.append_left Od List.perm_append_comm
    · simp only [q, decide_false, Bool.false_eq_true, if_false]
      obtain ⟨e1, O1, O2, r1, p1⟩ := putP_okG inj (k := k) (d := d) (v := v) hn.2 h2 r
      rw [putK_negG q]
      refine ⟨by rw [List.map_cons, e1], A ++ O1, O2, ?_, ?_⟩
      · simp only [List.map_cons, RDs]
        exact ⟨A, O1, h1, r1, rfl⟩
      · rw [List.append_assoc, List.append_assoc]
        exact List.Perm.append_left A p1
/-- behind a write at a dict of one's own -/
theorem sat_writeD {O O1 Or : List Addr} {a : Addr} {o' : HO} {o : HO} {us' vs : List V} {ks' : List P} {ds' : List D} {Q : VK} (vl : Vld Z H (a :: O)) (e : H a = some o) (nx : notXt o) (nt : notTb o) (hd : DctAt (upd H a o') a ks' us') (hm : MutO a (some o')) (h' : RDs K mg Z H us' ds' O1) (hp : O.Perm (O1 ++ Or))
    (hq : ∀ v' Z' H' O', RDs K mg Z' H' (v' :: nFin true (V.ref a :: vs)) (D.p .non :: dFin true (D.d ks' ds')) O' → Vld Z' H' O' → Tr Z H (a :: O) Z' H' O' → Q v' H') : Q .non (upd H a o') := by
  have hs : ∀ b ∈ O1, b ∈ O := fun b m => hp.mem_iff.mpr (List.mem_append_left _ m)
  have kp : Kp Z O H (upd H a o') := kp_write vl e
  have vn : O1.Nodup := (List.nodup_append.mp (hp.nodup_iff.mp (List.nodup_cons.mp vl.nd).2)).1
  have v2 := vl.write (o' := o') (O' := O1) e nx hm hs vn
  have t2 : Tr Z H (a :: O) Z (upd H a o') (a :: O1) := Tr.write e nx nt hs (notTb.of hm.mut)
  refine hq .non Z _ (a :: O1) ?_ v2 t2
  unfold nFin dFin
  simp only [if_true, List.take_succ_cons, List.take_zero]
  refine rds_cons (O1 := []) (rd_p (by simp only [RP])) (RDs.one ?_)
  simp only [RD]
  exact ⟨a, us', O1, rfl, hd, RDs.kp (fun _ q => q) (kp.less fun b m => hs b m) h', rfl⟩
end
section
variable {X : Cx} {W : WX} {k n m : Nat} {pos p2 : Pos} {e o i : Expr} {es : List Expr} {as : List Arg} {a b : Arg} {l r : Expr}
theorem oz_add : OpZ X (binaryOp .Add) hAdd := by
  intro pins s sg H x y v u Q I rx ry hq
  obtain ⟨E, hl, Z, O, ds, rd, vl, hq⟩ := hq
  unfold hAdd at hq
  cases e : hAddL ds with
  | stuck =>
    rw [e] at hq
    exact opz_of ov_add pins s sg H x y v u Q I rx ry ⟨E, hl, Z, O, ds, rd, vl, hq⟩
  | ok r fin =>
    rw [e] at hq
    exact oz_addL pins s sg H x y v u Q I rx ry ⟨E, hl, Z, O, ds, rd, vl, by rw [e]; exact hq⟩
  | exc x1 f =>
    rw [e] at hq
    exact oz_addL pins s sg H x y v u Q I rx ry ⟨E, hl, Z, O, ds, rd, vl, by rw [e]; exact hq⟩
def rSetZ (X : Cx) : TSet := fun o i v H Q => ∃ E, Sat X.K X.mg true 3 hSet [o, v, i] H (fun _ H' => Q H') E
theorem set_Z (hr : RU X.A) : PSet X (rSetZ X) := by
  intro pins s sg H o i v ov iv u Q I ro ri rv hq
  obtain ⟨E, hl, Z, O, ds, rd, vl, hq⟩ := hq
  unfold hSet at hq
  split at hq
  · rename_i r fin e1
    split at e1
    · unfold hSetL at e1
      split at e1
      · rename_i xs w j heq
        cases heq
        split at e1
        · rename_i n hj
          cases e1
          obtain ⟨u1, u2, u3, O1, O2, O3, eu, r1, r2, r3, eO⟩ := rds3 rd
          cases eu
          obtain ⟨e3, r3'⟩ := of_rd_p r3
          subst e3; subst eO
          simp only [RP] at r3'
          subst r3'
          simp only [RD] at r1
          obtain ⟨p, us, O', rfl, hp, r1, e4⟩ := r1
          subst e4
          have hj2 : ixN us.length j = some n := by rw [r1.length]; exact hj
          have hlt : n < _ := Nat.lt_of_lt_of_eq (ixN_seq hj2).2.1 r1.length
          obtain ⟨P1, P2, q1, q2⟩ := r1.set hlt r2
          refine set_list pins s sg H _ _ _ ov iv u _ I ro ri rv ⟨p, us, j, n, rfl, rfl, hp, hj2, ?_⟩
          exact sat_write (Q := fun _ H' => Q H') (vs := [v, V.int j]) (v := V.non) (r := D.p .non) (Od := []) (O1 := P1) (Or := P2) (O := O' ++ (O2 ++ [])) vl hp q1 (rd_p (by simp only [RP])) (by simpa using q2) fun v' Z' H' O' a1 a2 a3 => hq v' Z' H' O' a1 a2 (by rw [List.cons_append]; exact a3)
        · cases e1
      · cases e1
    · unfold hSetD at e1
      split at e1
      · rename_i ks vs key w heq
        cases heq
        split at e1
        · rename_i hk
          simp only [Bool.and_eq_true, decide_eq_true_eq] at hk
          obtain ⟨⟨hk1, hk3⟩, hk4⟩ := hk
          cases e1
          obtain ⟨u1, u2, u3, O1, O2, O3, eu, r1, r2, r3, eO⟩ := rds3 rd
          cases eu
          obtain ⟨e3, r3'⟩ := of_rd_p r3
          subst e3; subst eO
          simp only [RD] at r1
          obtain ⟨p, us, O', rfl, hd, r1, e4⟩ := r1
          subst e4
          obtain rfl : ov = Value.ref p := ro
          simp only [Bool.or_eq_true, Bool.and_eq_true] at hk1
          rcases hk1 with ⟨hk1, hk2⟩ | ⟨hk1, hk2⟩
          · obtain ⟨key', ek, ei⟩ : ∃ key' : Key, w = kP key' ∧ i = kV key' := by
              cases w with
              | int j => exact ⟨.inl j, rfl, by simpa only [RP, kV] using r3'⟩
              | str j => exact ⟨.inr j, rfl, by simpa only [RP, kV] using r3'⟩
              | _ => cases hk1
            subst ek; subst ei
            rcases hd with ⟨kvs, h1, h2, h3⟩ | ⟨kvs, h1, h2, h3, h4⟩
            · subst h2; subst h3
              obtain ⟨f1, P1, P2, f2, f3⟩ := putP_okG (fun _ _ => kP_inj) (k := key') (v := v) hk3 r1 r2
              rw [List.length_map, lineN_eq] at hk4
              refine d_setItem (by have := hr.un; omega) I (DPut.k (k := key') (v := v) h1 hk4) ri rv fun s' I' => ⟨_, I', ?_⟩
              refine sat_writeD (Q := fun _ H' => Q H') (vs := [v, kV key']) (O := O' ++ (O2 ++ [])) (O1 := P1) (Or := P2) vl h1 (fun _ z => nomatch z) (fun _ z => nomatch z) (.inl ⟨_, upd_same, rfl, rfl⟩) trivial f2 (by simpa using f3) ?_
              rw [← f1]
              exact hq
            · cases kvs with
              | nil =>
                exact (h4 rfl).elim
              | cons kv kvs =>
                subst h2
                simp only [List.map_cons, List.all_cons, Bool.and_eq_true] at hk2
                cases hk2.1
          · obtain ⟨key', ek⟩ := tk_of hk1
            subst ek
            obtain ⟨b, eb, hb⟩ := rp_tk r3' hk1
            subst eb
            obtain ⟨H1, kvs, I1, h1, h2, h3, ht, _, hw⟩ := dct_T I hd hk2
            subst h2; subst h3
            obtain ⟨f1, P1, P2, f2, f3⟩ := putP_okG (fun _ _ => tP_inj) (k := key') (v := v) hk3 r1 r2
            rw [List.length_map, lineN_eq] at hk4
            have hne : putK kvs key' v ≠ [] := fun z => by
              unfold putK at z
              split at z
              · rename_i y
                cases kvs with
                | nil => simp at y
                | cons _ _ => simp at z
              · simp at z
            obtain ⟨ho, eH, eo, nx, nt⟩ : ∃ ho, H p = some ho ∧ upd H1 p (.dT (putK kvs key' v)) = upd H p (.dT (putK kvs key' v)) ∧ notXt ho ∧ notTb ho := by
              rcases hw with e | ⟨e0, e1, e2⟩
              · subst e; exact ⟨_, h1, rfl, fun _ z => (by cases z), fun _ z => (by cases z)⟩
              · subst e2
                refine ⟨_, e1, ?_, fun _ z => (by cases z), fun _ z => (by cases z)⟩
                funext c
                by_cases q : c = p
                · subst q; rw [upd_same, upd_same]
                · rw [upd_ne q, upd_ne q, upd_ne q]
            refine d_setItem (by have := hr.un; omega) I1 (DPut.t (k := key') (v := v) h1 (ht _ _ hb) hk4) ri rv fun s' I' => ⟨_, I', ?_⟩
            rw [eo]
            refine sat_writeD (Q := fun _ H' => Q H') (vs := [v, V.ref b]) (O := O' ++ (O2 ++ [])) (O1 := P1) (Or := P2) vl eH nx nt (.inr ⟨_, upd_same, rfl, rfl, hne⟩) trivial f2 (by simpa using f3) ?_
            rw [← f1]
            exact hq
        · cases e1
      · cases e1
    · cases e1
  · rename_i x1 f e1
    split at e1
    · unfold hSetL at e1
      split at e1
      · split at e1 <;> cases e1
      · cases e1
    · unfold hSetD at e1
      split at e1
      · split at e1 <;> cases e1
      · cases e1
    · cases e1
  · exact hq.elim
/-- x[i] = v: v first, then i -/
theorem js_set2 (hr : RU X.A) {value : Expr} (hv : JA X W value a) (ho : PE X o (tVar m)) (hi : JA X W i b) (hs : swapsWithSole [.Subscript o i p2] value pos.line X.env = pure false := by rfl) (hw : swappedStores [.Subscript o i p2] value X.env = pure none := by rfl)
    (h1 : (assignEach [.Subscript o i p2] X.env).map (·.2) = [assign (.Subscript o i p2) X.env] := by rfl)
    (ha : ∀ v, assign (.Subscript o i p2) X.env v = (do
      let ov ← holding [v] (eval o X.env)
      let iv ← holding [v, ov] (eval i X.env)
      standAt p2
      holding [v, ov, iv] (setItem ov iv v)
      release [v, ov, iv] []) := by intro _; rfl) : JS X W (.Assign [.Subscript o i p2] value pos) (sExpr (eOpM m [a, b] hSet)) :=
  PSimp (ps_asg hv (pg_sub ho hi (set_Z hr) ha) hs hw h1) fun D sg H q => by
    obtain ⟨u, eu, q1⟩ := eOpM_ok (rS_expr q)
    refine rArg_mono (fun x H1 q2 => ?_) (rAs_cons q1)
    refine ⟨u, eu, rArg_mono (fun y H2 q3 => ?_) (rAs_cons q2)⟩
    exact ⟨_, rAs_nil q3⟩
end
end Z
set_option Elab.async false
set_option linter.all false
set_option maxRecDepth 100000
set_option maxHeartbeats 1000000
namespace Z
open PySem L2
abbrev SrcF := Env → ER (List P)
/-- the things of a list, a tuple -/
def itemsS : D → Option (List P)
  | .p (.scr ns) => some (ns.map P.int)
  | .p (.wt xs) => some xs
  | .p (.str s) => some (s.cps.toList.map fun c => .str ⟨#[c]⟩)
  | d => itemsD d
def oSeq (f : EF) : SrcF := fun env => (f env).bind fun d env => match itemsS d with
  | some xs => .ok xs env
  | none => .stuck
def fits62 (i : Int) : Bool := decide (-(2 ^ 62) ≤ i) && decide (i < 2 ^ 62)
def rgItems : List D → Option (List P)
  | [.p (.int j)] => if fits62 j then some (rangeL 0 j.toNat) else none
  | [.p (.int i), .p (.int j)] => if fits62 i && fits62 j then some (rangeL i (j - i).toNat) else none
  | _ => none
/-- range -/
def oRg (as : List Arg) : SrcF := fun env => (args1 as env).bind fun os env => match args2 env as os with
  | some ds => match rgItems ds with
    | some xs => .ok xs env
    | none => .stuck
  | none => .stuck
theorem rgItems_inv {ds : List D} {xs : List P} (h : rgItems ds = some xs) : (∃ j, ds = [.p (.int j)] ∧ fits62 j = true ∧ xs = rangeL 0 j.toNat) ∨ ∃ i j, ds = [.p (.int i), .p (.int j)] ∧ fits62 i = true ∧ fits62 j = true ∧ xs = rangeL i (j - i).toNat := by
  unfold rgItems at h
  split at h
  · split at h
    · cases h; exact .inl ⟨_, rfl, by assumption, rfl⟩
    · cases h
  · split at h
    · rename_i hf
      cases h
      simp only [Bool.and_eq_true] at hf
      exact .inr ⟨_, _, rfl, hf.1, hf.2, rfl⟩
    · cases h
  · cases h
def sForS (q : Pat) (s : SrcF) (body : SF) : SF := fun env => match s env with
  | .ok xs env => forL q body xs env
  | .exc e env => .exc e env
  | .stuck => .stuck
section
variable {K : PySem.W.Frag} {mg : Str → Option Value} {W : WX} {ph : Nat → V} {Z : Zs} {H : Hp} {N : Ends} {O : List Addr}
/-- an iterator that gives these things, as long as B stands -/
structure Goes (K : PySem.W.Frag) (mg : Str → Option Value) (J : It) (xs : List P) (B : Zs → Hp → Prop) : Prop where
  keep : ∀ Z1 H1 Z2 H2, B Z1 H1 → (∀ a, Z1 a → Z2 a) → Kp Z1 [] H1 H2 → B Z2 H2
  item : ∀ i x Z1 H1, B Z1 H1 → xs[i]? = some x → J.go i H1 ∧ ∀ v H2, J.yld i H1 v H2 → ∃ Z2, Grow Z1 H1 Z2 H2 ∧ RP K mg Z2 H2 v x
  stop : ∀ Z1 H1, B Z1 H1 → J.stop xs.length H1
def rI (K : PySem.W.Frag) (mg : Str → Option Value) (W : WX) (s : SrcF) : TI := fun sg H R => ∃ env ph Z O, At K mg ph Z H sg env O ∧ match s env with
  | .ok xs env' => ∀ J H' Z' O' B, Goes K mg J xs B → B Z' H' → At K mg ph Z' H' sg env' O' → Tr Z H O Z' H' O' → R J H'
  | .exc e env' => XcK K mg W ph Z H O sg e env'
  | .stuck => False
theorem goes_lst {a : Addr} {xs : List P} : Goes K mg (Itl K a) xs (fun Z1 H1 => RP K mg Z1 H1 (.ref a) (.lst xs)) where
  keep Z1 H1 Z2 H2 b hz k := b.kp k hz
  item i x Z1 H1 b hi := by
    simp only [RP] at b
    obtain ⟨a', us, e, _, s, rs⟩ := b
    cases e
    have s1 : SqL K H1 a us := .inl (.inl s)
    obtain ⟨u, eu, ru⟩ := rs.get hi
    refine ⟨⟨us, u, s1, eu⟩, fun v H2 ⟨e2, y⟩ => ⟨Z1, by rw [e2]; exact Grow.refl .., ?_⟩⟩
    have := y us s1
    rw [eu] at this
    cases this
    rw [e2]
    exact ru
  stop Z1 H1 b := by
    simp only [RP] at b
    obtain ⟨a', us, e, _, s, rs⟩ := b
    cases e
    exact ⟨us, .inl (.inl s), by rw [rs.length]; exact Nat.le_refl _⟩
theorem goes_tup {a : Addr} {xs : List P} : Goes K mg (Itt K a) xs (fun Z1 H1 => RP K mg Z1 H1 (.ref a) (.tup xs)) where
  keep Z1 H1 Z2 H2 b hz k := b.kp k hz
  item i x Z1 H1 b hi := by
    simp only [RP] at b
    obtain ⟨a', us, e, s1, rs⟩ := b
    cases e
    obtain ⟨u, eu, ru⟩ := rs.get hi
    refine ⟨⟨us, u, s1.1, eu⟩, fun v H2 ⟨e2, y⟩ => ⟨Z1, by rw [e2]; exact Grow.refl .., ?_⟩⟩
    have := y us s1.1
    rw [eu] at this
    cases this
    rw [e2]
    exact ru
  stop Z1 H1 b := by
    simp only [RP] at b
    obtain ⟨a', us, e, s1, rs⟩ := b
    cases e
    exact ⟨us, s1.1, by rw [rs.length]; exact Nat.le_refl _⟩
theorem goes_rng {lo : Int} {n : Nat} : Goes K mg (Itr lo n) (rangeL lo n) (fun _ _ => True) where
  keep _ _ _ _ _ _ _ := trivial
  item i x Z1 H1 _ hi := by
    have h2 : i < n ∧ x = .int (lo + (i : Int)) := by
      unfold rangeL at hi
      rw [List.getElem?_map] at hi
      cases e : (List.range n)[i]? with
      | none => rw [e] at hi; cases hi
      | some j =>
        rw [e] at hi
        obtain ⟨h3, h4⟩ := List.getElem?_eq_some_iff.mp e
        rw [List.getElem_range] at h4
        subst h4
        rw [List.length_range] at h3
        exact ⟨h3, (Option.some.inj hi).symm⟩
    obtain ⟨h3, ex⟩ := h2
    subst ex
    exact ⟨h3, fun v H2 ⟨e1, e2⟩ => ⟨Z1, by rw [e1]; exact Grow.refl .., by simp only [RP]; exact e2⟩⟩
  stop Z1 H1 _ := by
    show n ≤ (rangeL lo n).length
    unfold rangeL
    rw [List.length_map, List.length_range]
    exact Nat.le_refl _
/-- a loop's turns -/
theorem for_okS {J : It} {q : Pat} {body : SF} {xs : List P} {B : Zs → Hp → Prop} {sg : St} {env : Env} {Z0 : Zs} {H0 : Hp} {O0 : List Addr}
    (G : Goes K mg J xs B) (hB : B Z H) (A : At K mg ph Z H sg env O) (t0 : Tr Z0 H0 O0 Z H O) (hf : Fin K mg W N ph Z0 H0 O0 (forL q body xs env)) :
    ∃ W' : Nat → Nat → St → Hp → Prop, (∃ m, W' 0 m sg H) ∧ ∀ i m sg H, W' i m sg H →
      (J.stop i H ∧ N.nx sg H) ∨ (J.go i H ∧ ∃ M : St → Hp → Prop, (∀ sg' H', M sg' H' → ∃ m', m' < m ∧ W' (i + 1) m' sg' H') ∧ ∀ x H', J.yld i H x H' → gPat K q x sg H' fun sg2 H2 => rS K mg W body { N with nx := M, ct := M, bk := N.nx } sg2 H2) := by
  refine ⟨fun i m sg H => m = xs.length - i ∧ i ≤ xs.length ∧ ∃ env Z O, At K mg ph Z H sg env O ∧ Tr Z0 H0 O0 Z H O ∧ B Z H ∧ Fin K mg W N ph Z0 H0 O0 (forL q body (xs.drop i) env), ⟨xs.length, by simp, Nat.zero_le _, env, Z, O, A, t0, hB, by simpa using hf⟩, ?_⟩
  rintro i m sg H ⟨rfl, hi, env, Z, O, A, t, b, f⟩
  by_cases hlt : i < xs.length
  · have hx : xs[i]? = some xs[i] := by simp [hlt]
    obtain ⟨go, yld⟩ := G.item i _ Z H b hx
    have ed : xs.drop i = xs[i] :: xs.drop (i + 1) := List.drop_eq_getElem_cons hlt
    rw [ed] at f
    unfold forL at f
    refine .inr ⟨go, fun sg' H' => ∃ env' Z' O', At K mg ph Z' H' sg' env' O' ∧ Tr Z0 H0 O0 Z' H' O' ∧ B Z' H' ∧ Fin K mg W N ph Z0 H0 O0 (forL q body (xs.drop (i + 1)) env'), fun sg' H' ⟨env', Z', O', A', t', b', f'⟩ => ⟨xs.length - (i + 1), by omega, rfl, hlt, env', Z', O', A', t', b', f'⟩, fun v H2 y => ?_⟩
    obtain ⟨Z2, gr, rp⟩ := yld v H2 y
    have A2 := A.grow gr
    have t2 : Tr Z0 H0 O0 Z2 H2 O := t.trans gr.Tr
    have b2 : B Z2 H2 := G.keep Z H Z2 H2 b gr.z1 gr.Kp
    cases e1 : assignP env q xs[i] with
    | none => rw [e1] at f; exact f.elim
    | some env1 =>
      rw [e1] at f
      refine gPat_ok A2 rp e1 fun sg1 O1 A1 s1 => ⟨env1, ph, Z2, O1, A1, ?_⟩
      have t1 : Tr Z0 H0 O0 Z2 H2 O1 := t2.less s1
      have kb : ∀ {H3 : Hp} {Z3 : Zs} {O3 : List Addr}, Tr Z2 H2 O1 Z3 H3 O3 → B Z3 H3 := fun {H3 Z3 O3} t3 =>
        G.keep Z2 H2 Z3 H3 b2 t3.z1 (t3.kept (F := []) (by rw [List.append_nil]; exact A1.vl))
      simp only at f
      cases e2 : body env1 with
      | nx env2 =>
        rw [e2] at f
        exact fun sg3 H3 Z3 O3 A3 t3 => ⟨env2, Z3, O3, A3, t1.trans t3, kb t3, f⟩
      | ct env2 =>
        rw [e2] at f
        exact fun sg3 H3 Z3 O3 A3 t3 => ⟨env2, Z3, O3, A3, t1.trans t3, kb t3, f⟩
      | br env2 =>
        rw [e2] at f
        exact fun sg3 H3 Z3 O3 A3 t3 => f sg3 H3 Z3 O3 A3 (t1.trans t3)
      | rt d env2 =>
        rw [e2] at f
        exact fun v3 sg3 H3 Z3 O3 Od r1 r2 r3 t3 => f v3 sg3 H3 Z3 O3 Od r1 r2 r3 (t1.trans t3)
      | exc x env2 =>
        rw [e2] at f
        exact fun sg3 cls dx H3 Z3 O3 A3 t3 rx => f sg3 cls dx H3 Z3 O3 A3 (t1.trans t3) rx
      | stuck => rw [e2] at f; exact f.elim
  · have ei : i = xs.length := by omega
    subst ei
    rw [List.drop_length] at f
    exact .inl ⟨G.stop Z H b, f sg H Z O A t⟩
theorem rS_forS {q : Pat} {s : SrcF} {body : SF} {sg : St} (h : rS K mg W (sForS q s body) N sg H) : tFor (rI K mg W s) (gPat K q) (rS K mg W body) N sg H := by
  obtain ⟨env, ph, Z, O, A, h⟩ := h
  refine ⟨env, ph, Z, O, A, ?_⟩
  unfold sForS at h
  cases e : s env with
  | stuck => rw [e] at h; exact h
  | exc x env' => rw [e] at h; exact Fin.xc h
  | ok xs env' =>
    rw [e] at h
    exact fun J H' Z' O' B G b A' t' => for_okS G b A' t' h
/-- an argument that is a number -/
theorem args_int {as : List Arg} {os : List (Option D)} {sg : St} {env : Env} {vs : List V} {Ot : List Addr} {ds : List D} (A : At K mg ph Z H sg env O) (ra : RAs K mg Z H sg vs as os Ot) (e : args2 env as os = some ds) : ∃ Z2, RDs K mg Z2 H vs ds Ot := by
  obtain ⟨Ob, O2, p, rf, nb, hv⟩ := A.freezes (as := as)
  exact ⟨plusZ Z Ob, RAs.go (as0 := as) (fun i d u hd hu m => hv i d u m hd hu) (fun a m => m) (fun a q => .inl q) ra e⟩
end
abbrev JI (X : Cx) (W : WX) (tg iter : Expr) (s : SrcF) : Prop := PI X tg iter (rI X.K X.mg W s)
theorem PIimp {X : Cx} {tg e : Expr} {t t' : TI} (h : PI X tg e t) (q : ∀ sg H R, t' sg H R → t sg H R) : PI X tg e t' := ⟨fun pins s sg H R I hh => h.run pins s sg H R I (q sg H R hh)⟩
section
variable {X : Cx} {W : WX} {k : Nat} {pos p : Pos} {tg e a b : Expr} {as : List Arg} {f : EF} {sts : List Stmt} {q : Pat} {s : SrcF} {body : SF}
/-- a list, a tuple, a text -/
def iAny (K : PySem.W.Frag) (tl : TE) : TI := fun sg H R => tl sg H fun x H1 => (∃ z, x = .str z ∧ R (Its z) H1) ∨ ∃ a, x = .ref a ∧ ((∃ xs, SqL K H1 a xs) ∧ R (Itl K a) H1 ∨ (∃ xs, SqT K H1 a xs) ∧ R (Itt K a) H1)
theorem pi_any {l : Expr} {tl : TE} (hl : PE X l tl) : PI X tg l (iAny X.K tl) := by
  refine ⟨fun pins s sg H R I h => ?_⟩
  refine thn (hl.run pins s sg H _ I h) fun v s1 ⟨x, H1, I1, r1, q1⟩ => ?_
  rcases q1 with ⟨z, ex, q⟩ | q1
  · subst ex
    obtain ⟨t, rfl⟩ := r1
    cases ha : z.cps.all (· < 128)
    · exact wpAny_pyIter_wide ha (pi_one (tk := s1.toks) I1 _ (turn_str _ z t "str_iterator" (.inr rfl)) ⟨_, Heap.get?_push_size _ rfl, rfl, rfl⟩ q)
    · exact wpAny_pyIter_ascii ha (pi_one (tk := s1.toks) I1 _ (turn_str _ z t "str_ascii_iterator" (.inl rfl)) ⟨_, Heap.get?_push_size _ rfl, rfl, rfl⟩ q)
  · obtain ⟨a, e, ⟨⟨xs, hq⟩, q⟩ | ⟨⟨xs, hq⟩, q⟩⟩ := q1
    · subst e
      cases r1
      obtain ⟨its, rv, p, hz⟩ := I1.list hq
      refine wpAny_pyIter_list p.isList ⟨s1.heap.objs.size, [s1.heap.objs.size], _, _, H1, rfl, I1.kept (t' := s1.toks) fun b o e => Heap.get?_push_of_some _ e, turn_list a _, ⟨_, Heap.get?_push_size _ rfl, rfl, rfl⟩, fun b hb => ?_, q⟩
      obtain rfl : b = s1.heap.objs.size := by simpa using hb
      exact I1.fpOk (Nat.le_refl _) (I1.hok.fresh (Nat.le_refl _))
    · subst e
      cases r1
      obtain ⟨its, rv, p, hz⟩ := I1.tuple hq
      refine wpAny_pyIter_tuple (show s1.heap.IsTuple a its.toArray from p) ⟨s1.heap.objs.size, [s1.heap.objs.size], _, _, H1, rfl, I1.kept (t' := s1.toks) fun b o e => Heap.get?_push_of_some _ e, turn_tuple a _, ⟨_, Heap.get?_push_size _ rfl, rfl, rfl⟩, fun b hb => ?_, q⟩
      obtain rfl : b = s1.heap.objs.size := by simpa using hb
      exact I1.fpOk (Nat.le_refl _) (I1.hok.fresh (Nat.le_refl _))
theorem goes_scr {K : PySem.W.Frag} {mg : Str → Option Value} {a : Addr} {ns : List Int} : Goes K mg (Itl K a) (ns.map P.int) (fun Z1 H1 => RP K mg Z1 H1 (.ref a) (.scr ns)) where
  keep Z1 H1 Z2 H2 b hz k := b.kp k hz
  item i x Z1 H1 b hi := by
    simp only [RP] at b
    obtain ⟨a', e, h⟩ := b
    cases e
    have s1 := scr_sq h
    obtain ⟨u, eu, ru⟩ := (rps_ints (K := K) (mg := mg) (Z := Z1) (H := H1) ns).get hi
    refine ⟨⟨_, u, s1, eu⟩, fun v H2 ⟨e2, y⟩ => ⟨Z1, by rw [e2]; exact Grow.refl .., ?_⟩⟩
    have := y _ s1
    rw [eu] at this
    cases this
    rw [e2]
    exact ru
  stop Z1 H1 b := by
    simp only [RP] at b
    obtain ⟨a', e, h⟩ := b
    cases e
    exact ⟨_, scr_sq h, by simp⟩
theorem goes_wt {K : PySem.W.Frag} {mg : Str → Option Value} {a : Addr} {xs : List P} : Goes K mg (Itt K a) xs (fun Z1 H1 => RP K mg Z1 H1 (.ref a) (.wt xs)) where
  keep Z1 H1 Z2 H2 b hz k := b.kp k hz
  item i x Z1 H1 b hi := by
    simp only [RP] at b
    obtain ⟨a', us, e, s1, rs⟩ := b
    cases e
    obtain ⟨u, eu, ru⟩ := rs.get hi
    refine ⟨⟨us, u, s1, eu⟩, fun v H2 ⟨e2, y⟩ => ⟨Z1, by rw [e2]; exact Grow.refl .., ?_⟩⟩
    have := y us s1
    rw [eu] at this
    cases this
    rw [e2]
    exact ru
  stop Z1 H1 b := by
    simp only [RP] at b
    obtain ⟨a', us, e, s1, rs⟩ := b
    cases e
    exact ⟨us, s1, by rw [rs.length]; exact Nat.le_refl _⟩
theorem goes_str {K : PySem.W.Frag} {mg : Str → Option Value} {z : Str} : Goes K mg (Its z) (z.cps.toList.map fun c => .str ⟨#[c]⟩) (fun _ _ => True) where
  keep _ _ _ _ _ _ _ := trivial
  item i x Z1 H1 _ hi := by
    rw [List.getElem?_map, Array.getElem?_toList] at hi
    cases ec : z.cps[i]? with
    | none => rw [ec] at hi; cases hi
    | some c =>
      rw [ec] at hi
      cases hi
      refine ⟨(Array.getElem?_eq_some_iff.mp ec).1, fun v H2 ⟨e2, c', ec', ev⟩ => ⟨Z1, by rw [e2]; exact Grow.refl .., ?_⟩⟩
      rw [ec] at ec'
      cases ec'
      rw [ev]
      simp only [RP]
  stop Z1 H1 _ := by simp [Its]
theorem itemsS_vw {d : D} {xs : List P} (h : itemsS d = some xs) : (∃ ns, vw d = .scr ns ∧ xs = ns.map P.int) ∨ (vw d = .wt xs) ∨ (∃ s, vw d = .str s ∧ xs = s.cps.toList.map fun c => .str ⟨#[c]⟩) ∨ itemsD d = some xs := by
  unfold itemsS at h
  split at h
  · cases h; exact .inl ⟨_, rfl, rfl⟩
  · cases h; exact .inr (.inl rfl)
  · cases h; exact .inr (.inr (.inl ⟨_, rfl, rfl⟩))
  · exact .inr (.inr (.inr h))
theorem ji_seq (h : JE X W e f) : JI X W tg e (oSeq f) := PIimp (pi_any h) fun sg H R hh => by
  obtain ⟨env, ph, Z, O, A, hh⟩ := hh
  refine ⟨env, ph, Z, O, A, ?_⟩
  unfold oSeq at hh
  cases e1 : f env with
  | stuck => simp only [e1, ER.bind] at hh
  | exc x env' => simp only [e1, ER.bind] at hh; exact hh
  | ok d env' =>
    simp only [e1, ER.bind] at hh
    cases ei : itemsS d with
    | none => simp only [ei] at hh
    | some xs =>
      simp only [ei] at hh
      intro v H' Z' O' Od r1 r2 r3 r4
      obtain ⟨A2, rp, t2⟩ := At.seal r1 r2 r3 r4
      rcases itemsS_vw ei with ⟨ns, ev, ex⟩ | ev | ⟨z, ev, ex⟩ | ei2
      · subst ex
        rw [ev] at rp
        have rp0 := rp
        simp only [RP] at rp
        obtain ⟨a, e2, s⟩ := rp
        subst e2
        exact .inr ⟨a, rfl, .inl ⟨⟨_, scr_sq s⟩, hh _ _ _ _ _ goes_scr rp0 A2 t2⟩⟩
      · rw [ev] at rp
        have rp0 := rp
        simp only [RP] at rp
        obtain ⟨a, us, e2, s, rs⟩ := rp
        subst e2
        exact .inr ⟨a, rfl, .inr ⟨⟨us, s⟩, hh _ _ _ _ _ goes_wt rp0 A2 t2⟩⟩
      · subst ex
        rw [ev] at rp
        simp only [RP] at rp
        exact .inl ⟨z, rp, hh _ _ _ _ _ goes_str trivial A2 t2⟩
      right
      rcases itemsD_vw ei2 with ev | ev
      · rw [ev] at rp
        have rp0 := rp
        simp only [RP] at rp
        obtain ⟨a, us, e2, _, s, rs⟩ := rp
        subst e2
        exact ⟨a, rfl, .inl ⟨⟨us, .inl (.inl s)⟩, hh _ _ _ _ _ goes_lst rp0 A2 t2⟩⟩
      · rw [ev] at rp
        have rp0 := rp
        simp only [RP] at rp
        obtain ⟨a, us, e2, s, rs⟩ := rp
        subst e2
        exact ⟨a, rfl, .inr ⟨⟨us, s.1⟩, hh _ _ _ _ _ goes_tup rp0 A2 t2⟩⟩
theorem fits62_iff {i : Int} : fits62 i = true ↔ -(2 ^ 62) ≤ i ∧ i < 2 ^ 62 := by
  unfold fits62
  simp only [Bool.and_eq_true, decide_eq_true_eq]
theorem ji_rg1 (hg : Gl X "range") (hm : X.mg "range" = none) {x : Arg} (ha : JAs X W [a] [x]) (hs : starEach [a] X.env = [(false, eval a X.env)] := by rfl) : JI X W tg (.Call (.Name "range" p) [a] [] pos) (oRg [x]) :=
  PIimp (pi_range1 hg hm ha hs) fun sg H R hh => by
    obtain ⟨env, ph, Z, O, A, hh⟩ := hh
    refine ⟨env, ph, Z, O, A, ?_⟩
    unfold oRg at hh
    cases e1 : args1 [x] env with
    | stuck => simp only [e1, ER.bind] at hh
    | exc y env' => simp only [e1, ER.bind] at hh; exact hh
    | ok os env' =>
      simp only [e1, ER.bind] at hh
      intro vs H' Z' O' Ot r1 ra r3 r4
      cases e2 : args2 env' [x] os with
      | none => simp only [e2] at hh
      | some ds =>
        simp only [e2] at hh
        have A' : At X.K X.mg ph Z' H' sg env' O' := ⟨r1, r3.left⟩
        obtain ⟨Z2, rd⟩ := args_int A' ra e2
        have hl := ra.len
        cases er : rgItems ds with
        | none => simp only [er] at hh
        | some xs =>
          simp only [er] at hh
          rcases rgItems_inv er with ⟨j, ed, hf, ex⟩ | ⟨i, j, ed, hf1, hf2, ex⟩
          · subst ed; subst ex
            match vs, rd with
            | [v], rd =>
              have r := (of_rd_p (rds1 rd)).2
              simp only [RP] at r
              subst r
              have b := fits62_iff.mp hf
              exact ⟨j, rfl, b.1, b.2, hh _ _ _ _ _ goes_rng trivial A' (r4.less fun a m => List.mem_append_left _ m)⟩
            | [], rd => simp only [RDs] at rd
            | _ :: _ :: _, rd => simp only [RDs] at rd; obtain ⟨_, _, _, h, _⟩ := rd; exact h.elim
          · subst ed
            have := rd.length
            rw [hl] at this
            simp at this
theorem ji_rg2 (hg : Gl X "range") (hm : X.mg "range" = none) {x y : Arg} (ha : JAs X W [a, b] [x, y]) (hs : starEach [a, b] X.env = [(false, eval a X.env), (false, eval b X.env)] := by rfl) (hs2 : starEach [b] X.env = [(false, eval b X.env)] := by rfl) : JI X W tg (.Call (.Name "range" p) [a, b] [] pos) (oRg [x, y]) :=
  PIimp (pi_range2 hg hm ha hs hs2) fun sg H R hh => by
    obtain ⟨env, ph, Z, O, A, hh⟩ := hh
    refine ⟨env, ph, Z, O, A, ?_⟩
    unfold oRg at hh
    cases e1 : args1 [x, y] env with
    | stuck => simp only [e1, ER.bind] at hh
    | exc y env' => simp only [e1, ER.bind] at hh; exact hh
    | ok os env' =>
      simp only [e1, ER.bind] at hh
      intro vs H' Z' O' Ot r1 ra r3 r4
      cases e2 : args2 env' [x, y] os with
      | none => simp only [e2] at hh
      | some ds =>
        simp only [e2] at hh
        have A' : At X.K X.mg ph Z' H' sg env' O' := ⟨r1, r3.left⟩
        obtain ⟨Z2, rd⟩ := args_int A' ra e2
        have hl := ra.len
        cases er : rgItems ds with
        | none => simp only [er] at hh
        | some xs =>
          simp only [er] at hh
          rcases rgItems_inv er with ⟨j, ed, hf, ex⟩ | ⟨i, j, ed, hf1, hf2, ex⟩
          · subst ed
            have := rd.length
            rw [hl] at this
            simp at this
          · subst ed; subst ex
            obtain ⟨u, w, O1, O2, eu, q1, q2, eO⟩ := rds2 rd
            subst eu
            have q1 := (of_rd_p q1).2
            have q2 := (of_rd_p q2).2
            simp only [RP] at q1 q2
            subst q1; subst q2
            have b1 := fits62_iff.mp hf1
            have b2 := fits62_iff.mp hf2
            exact ⟨i, j, rfl, ⟨b1.1, b1.2, b2.1, b2.2⟩, hh _ _ _ _ _ goes_rng trivial A' (r4.less fun a m => List.mem_append_left _ m)⟩
theorem js_forS (C : Cz X W k) (h : JI X W tg e s) (hg : PG X tg (gPat X.K q)) (hb : JSs X W sts body) (hs : ∀ x, foldedSetIterable e X.env x = pure x := by intro _; rfl) : JS X W (.For tg e sts [] pos) (sForS q s body) :=
  PSimp (ps_for C.po C.calm h hg hb hs) fun D sg H q => rS_forS q
end
end Z
set_option Elab.async false
set_option linter.all false
set_option maxRecDepth 100000
set_option maxHeartbeats 1000000
namespace Z
open PySem L2
/-- the slots vs are forgotten -/
def wipeE (env : Env) : List Nat → Env
  | [] => env
  | v :: vs => (wipeE env vs).set v .no
mutual
def pidx : Pat → List Nat
  | .n i => [i]
  | .t ps => pidxs ps
def pidxs : List Pat → List Nat
  | [] => []
  | q :: qs => pidx q ++ pidxs qs
end
def compL (vs : List Nat) (q : Pat) (t : TF) (g : EF) : List P → Env → List D → ER D
  | [], env, acc => .ok (.l acc) env
  | x :: xs, env, acc => match assignP env q x with
    | some env1 => match t env1 with
      | .ok c env2 => if c then (match g env2 with
        | .ok d env3 => if acc.length < lineN then compL vs q t g xs (wipeE env3 vs) (acc ++ [d]) else .stuck
        | _ => .stuck) else compL vs q t g xs (wipeE env2 vs) acc
      | _ => .stuck
    | none => .stuck
/-- [g for q in s if t], the names of its own at vs -/
def eComp (vs : List Nat) (q : Pat) (s : SrcF) (t : TF) (g : EF) : EF := fun env => (s env).bind fun xs env => compL vs q t g xs (wipeE env vs) []
def tYesF : TF := fun env => .ok true env
section
variable {K : PySem.W.Frag} {mg : Str → Option Value} {W : WX} {ph : Nat → V} {Z Z' : Zs} {H H' : Hp} {O : List Addr}
theorem wipe_set {sg : St} {i : Nat} {x : Option V} : ∀ {vs : List Nat}, i ∈ vs → wipe (sg.set i x) vs = wipe sg vs
  | [], h => by cases h
  | v :: vs, h => by
    unfold wipe
    by_cases e : v = i
    · subst e
      by_cases h2 : v ∈ vs
      · rw [wipe_set h2]
      · have : wipe (sg.set v x) vs = (wipe sg vs).set v x := wipe_comm h2
        rw [this, List.set_set]
    · rcases List.mem_cons.mp h with q | q
      · exact (e q.symm).elim
      · rw [wipe_set q]
where
  wipe_comm {sg : St} {i : Nat} {x : Option V} : ∀ {vs : List Nat}, i ∉ vs → wipe (sg.set i x) vs = (wipe sg vs).set i x
  | [], _ => rfl
  | v :: vs, h => by
    unfold wipe
    have h1 : i ≠ v := fun e => h (e ▸ List.mem_cons_self)
    have h2 : i ∉ vs := fun m => h (List.mem_cons_of_mem _ m)
    rw [wipe_comm h2, List.set_comm _ _ h1]
/-- a pattern writes its own slots alone -/
theorem gPat_in {R : St → Hp → Prop} {vs : List Nat} : ∀ {q : Pat} {v : V} {sg : St} {H : Hp}, (∀ i ∈ pidx q, i ∈ vs) → gPat K q v sg H R → gPat K q v sg H fun sg2 H2 => wipe sg2 vs = wipe sg vs ∧ R sg2 H2 :=
  fun hv h => go _ hv h
where
  go {R : St → Hp → Prop} : ∀ (q : Pat) {v : V} {sg : St} {H : Hp}, (∀ i ∈ pidx q, i ∈ vs) → gPat K q v sg H R → gPat K q v sg H fun sg2 H2 => wipe sg2 vs = wipe sg vs ∧ R sg2 H2
  | .n i, v, sg, H, hv, h => by
    unfold gPat at h ⊢
    exact ⟨wipe_set (hv i (by unfold pidx; exact List.mem_cons_self)), h⟩
  | .t ps, v, sg, H, hv, h => by
    unfold gPat at h ⊢
    obtain ⟨a, xs, e, s, l, h⟩ := h
    exact ⟨a, xs, e, s, l, gos ps (fun i m => hv i (by unfold pidx; exact m)) h⟩
  gos {R : St → Hp → Prop} : ∀ (ps : List Pat) {us : List V} {sg : St} {H : Hp}, (∀ i ∈ pidxs ps, i ∈ vs) → gPats K ps us sg H R → gPats K ps us sg H fun sg2 H2 => wipe sg2 vs = wipe sg vs ∧ R sg2 H2
  | [], us, sg, H, hv, h => by
    unfold gPats at h ⊢
    exact ⟨h.1, rfl, h.2⟩
  | q :: qs, us, sg, H, hv, h => by
    unfold gPats at h ⊢
    obtain ⟨v, r, e, h⟩ := h
    refine ⟨v, r, e, ?_⟩
    have q1 := go q (fun i m => hv i (by unfold pidxs; exact List.mem_append_left _ m)) h
    refine mono q (fun sg2 H2 ⟨e2, h2⟩ => ?_) q1
    have q2 := gos qs (fun i m => hv i (by unfold pidxs; exact List.mem_append_right _ m)) h2
    exact monos qs (fun sg3 H3 ⟨e3, h3⟩ => ⟨e3.trans e2, h3⟩) q2
  mono {R R' : St → Hp → Prop} : ∀ (q : Pat) {v : V} {sg : St} {H : Hp}, (∀ sg H, R sg H → R' sg H) → gPat K q v sg H R → gPat K q v sg H R'
  | .n i, v, sg, H, hr, h => by
    unfold gPat at h ⊢
    exact hr _ _ h
  | .t ps, v, sg, H, hr, h => by
    unfold gPat at h ⊢
    obtain ⟨a, xs, e, s, l, h⟩ := h
    exact ⟨a, xs, e, s, l, monos ps hr h⟩
  monos {R R' : St → Hp → Prop} : ∀ (ps : List Pat) {us : List V} {sg : St} {H : Hp}, (∀ sg H, R sg H → R' sg H) → gPats K ps us sg H R → gPats K ps us sg H R'
  | [], us, sg, H, hr, h => by
    unfold gPats at h ⊢
    exact ⟨h.1, hr _ _ h.2⟩
  | q :: qs, us, sg, H, hr, h => by
    unfold gPats at h ⊢
    obtain ⟨v, r, e, h⟩ := h
    exact ⟨v, r, e, mono q (fun sg2 H2 h2 => monos qs hr h2) h⟩
/-- the slots forgotten -/
theorem RE.wipe {sg : St} {env : Env} : ∀ {vs : List Nat} {O : List Addr}, RE K mg Z H ph sg env O → ∃ O1 O2, RE K mg Z H ph (L2.wipe sg vs) (wipeE env vs) O1 ∧ O.Perm (O1 ++ O2)
  | [], O, h => ⟨O, [], h, by rw [List.append_nil]⟩
  | v :: vs, O, h => by
    obtain ⟨O1, O2, h1, p1⟩ := RE.wipe (vs := vs) h
    unfold L2.wipe wipeE
    cases e : (wipeE env vs)[v]? with
    | none =>
      have l1 : (wipeE env vs).length ≤ v := List.getElem?_eq_none_iff.mp e
      have l2 : (L2.wipe sg vs).length ≤ v := by
        obtain ⟨O0, h0, _⟩ := h1
        rw [len0 h0]; exact l1
      rw [List.set_eq_of_length_le l1, List.set_eq_of_length_le l2]
      exact ⟨O1, O2, h1, p1⟩
    | some s =>
      obtain ⟨w, P1, Pr, ew, rw_, pp, put, _⟩ := h1.at e
      have r2 := put Z H none .no [] (fun a q => q) Kp.refl rfl
      refine ⟨Pr, P1 ++ O2, by simpa using r2, ?_⟩
      refine p1.trans ((pp.append_right O2).trans ?_)
      rw [← List.append_assoc]
      exact List.Perm.append_right O2 List.perm_append_comm
where
  len0 : ∀ {sg : St} {env : Env} {k : Nat} {O : List Addr}, RE0 K mg Z H ph k sg env O → sg.length = env.length
  | [], [], _, _, _ => rfl
  | [], _ :: _, _, _, h => h.elim
  | _ :: _, [], _, _, h => h.elim
  | v :: sg, s :: env, k, O, h => by
    obtain ⟨O1, O2, _, h2, _⟩ := h
    simp only [List.length_cons, len0 h2]
theorem At.wipe {sg : St} {env : Env} {vs : List Nat} (A : At K mg ph Z H sg env O) : ∃ O1, At K mg ph Z H (L2.wipe sg vs) (wipeE env vs) O1 ∧ ∀ a ∈ O1, a ∈ O := by
  obtain ⟨O1, O2, h, p⟩ := A.re.wipe (vs := vs)
  exact ⟨O1, ⟨h, A.vl.sub p⟩, fun a m => p.mem_iff.mpr (List.mem_append_left _ m)⟩
theorem wipe_idem {sg : St} (vs : List Nat) : wipe (wipe sg vs) vs = wipe sg vs := go vs vs (fun i m => m)
where
  go (ws : List Nat) : ∀ vs : List Nat, (∀ i ∈ vs, i ∈ ws) → wipe (wipe sg vs) ws = wipe sg ws
  | [], _ => rfl
  | v :: vs, h => by
    rw [show wipe sg (v :: vs) = (wipe sg vs).set v none from rfl, wipe_set (h v List.mem_cons_self)]
    exact go ws vs fun i m => h i (List.mem_cons_of_mem _ m)
/-- slots that were forgotten stand for anything -/
theorem RE0.unwipe : ∀ {sg sg' : St} {env : Env} {k : Nat} {O : List Addr}, RE0 K mg Z H ph k sg env O → sg'.length = sg.length → (∀ i : Nat, env[i]? = some Slot.no ∨ sg'[i]? = sg[i]?) → RE0 K mg Z H ph k sg' env O
  | [], [], [], _, _, h, _, _ => h
  | [], _ :: _, _, _, _, _, l, _ => by cases l
  | _ :: _, [], _, _, _, _, l, _ => by cases l
  | [], [], _ :: _, _, _, h, _, _ => h.elim
  | _ :: _, _ :: _, [], _, _, h, _, _ => h.elim
  | v :: sg, v' :: sg', s :: env, k, O, h, l, hi => by
    obtain ⟨O1, O2, h1, h2, e⟩ := h
    refine ⟨O1, O2, ?_, RE0.unwipe h2 (by simpa using l) (fun i => by simpa using hi (i + 1)), e⟩
    rcases hi 0 with q | q
    · have : s = .no := by simpa using q
      subst this
      exact h1
    · have : v' = v := by simpa using q
      subst this
      exact h1
theorem wipeE_no {env : Env} : ∀ {vs : List Nat} {i : Nat}, i ∈ vs → i < env.length → (wipeE env vs)[i]? = some .no
  | [], _, h, _ => by cases h
  | v :: vs, i, h, hl => by
    unfold wipeE
    have ll : (wipeE env vs).length = env.length := wlen
    by_cases e : v = i
    · subst e
      rw [List.getElem?_set_self (by rw [ll]; exact hl)]
    · rw [List.getElem?_set_ne e]
      rcases List.mem_cons.mp h with q | q
      · exact (e q.symm).elim
      · exact wipeE_no q hl
where
  wlen {env : Env} : ∀ {vs : List Nat}, (wipeE env vs).length = env.length
  | [] => rfl
  | v :: vs => by unfold wipeE; rw [List.length_set, wlen]
theorem wipe_ne {sg : St} {i : Nat} : ∀ {vs : List Nat}, i ∉ vs → (wipe sg vs)[i]? = sg[i]?
  | [], _ => rfl
  | v :: vs, h => by
    have h1 : v ≠ i := fun e => h (by rw [e]; exact List.mem_cons_self)
    unfold wipe
    rw [List.getElem?_set_ne h1, wipe_ne fun m => h (List.mem_cons_of_mem _ m)]
theorem At.unwipe {sg : St} {env : Env} {vs : List Nat} (A : At K mg ph Z H (L2.wipe sg vs) env O) (hn : ∀ i ∈ vs, i < env.length → env[i]? = some .no) : At K mg ph Z H sg env O := by
  refine ⟨?_, A.vl⟩
  obtain ⟨O0, h, p⟩ := A.re
  have hl : sg.length = (L2.wipe sg vs).length := (wipe_length sg vs).symm
  have hl2 := RE.wipe.len0 h
  refine ⟨O0, RE0.unwipe h hl fun i => ?_, p⟩
  by_cases m : i ∈ vs
  · by_cases hi : i < env.length
    · exact .inl (hn i m hi)
    · refine .inr ?_
      rw [List.getElem?_eq_none (by omega), List.getElem?_eq_none (by omega)]
  · exact .inr (wipe_ne m).symm
end
/-- where nothing is let out -/
abbrev W0 : WX := fun _ _ _ _ => False
theorem Cz.blk {X : Cx} {W : WX} {k : Nat} (C : Cz X W k) (s : Shared) (H : Hp) (scope : Scope) (cenv : PySem.Env) (fp : List Addr) : Cz (X.blk s H scope cenv fp) W0 k where
  calm := C.calm
  tk := fun u s' ⟨a, B, sI, pins, σ, H, cls, d, e, I, nb, up, sky, na, os, ag, w⟩ => w.elim
  hr := C.hr
  po := PassesOwn.never
section
variable {X : Cx} {W : WX} {k : Nat} {pos : Pos} {elt tg iter : Expr} {ifs : List Expr} {scope : Scope} {own : List (Str × Nat)} {q : Pat} {s : SrcF} {t : TF} {g : EF}
/-- how a comprehension stands ahead of a turn -/
def CompAt (X : Cx) (ph : Nat → V) (sg : St) (vs : List Nat) (q : Pat) (t : TF) (g : EF) (Z0 : Zs) (H0 : Hp) (O0 : List Addr) (B : Zs → Hp → Prop) (Q : VK) (D : Addr) (xs : List P) (H : Hp) : Prop :=
  ∃ env Z Oe us ds Oa, At X.K X.mg ph Z H (wipe sg vs) env Oe ∧ (∀ i ∈ vs, i < env.length → env[i]? = some Slot.no) ∧ B Z H ∧ H D = some (.lst us) ∧ RDs X.K X.mg Z H us ds Oa ∧ Vld Z H (Oe ++ (D :: Oa)) ∧ Tr Z0 H0 O0 Z H (Oe ++ (D :: Oa)) ∧
    match compL vs q t g xs env ds with
    | .ok d env' => ∀ v H' Z' O' Od, RE X.K X.mg Z' H' ph sg env' O' → RD X.K X.mg Z' H' v d Od → Vld Z' H' (O' ++ Od) → Tr Z0 H0 O0 Z' H' (O' ++ Od) → Q v H'
    | _ => False
theorem rE_comp {vs : List Nat} (hq : ∀ i ∈ pidx q, i ∈ vs) {sg : St} {H : Hp} {Q : VK} (h : rE X.K X.mg W (eComp vs q s t g) sg H Q) : tLc (rI X.K X.mg W s) (gPat X.K q) (rT X.K X.mg W0 t) (rE X.K X.mg W0 g) vs sg H Q := by
  obtain ⟨env, ph, Z, O, A, h⟩ := h
  refine ⟨env, ph, Z, O, A, ?_⟩
  unfold eComp at h
  cases e : s env with
  | stuck => simp only [e, ER.bind] at h
  | exc x env' => simp only [e, ER.bind] at h; exact h
  | ok xs env1 =>
    simp only [e, ER.bind] at h
    intro J H1 Z1 O1 B G b A1 t1 D hD
    have aO1 : D ∉ O1 := fun m => by have := A1.vl.mu D m; rw [hD] at this; exact this
    refine ⟨fun i m H2 => m = xs.length - i ∧ i ≤ xs.length ∧ CompAt X ph sg vs q t g Z H O B Q D (xs.drop i) H2, ⟨xs.length, by simp, Nat.zero_le _, ?_⟩, ?_⟩
    · obtain ⟨Ow, Aw, sub⟩ := A1.wipe (vs := vs)
      have v1 : Vld Z1 (upd H1 D (.lst [])) (D :: Ow) := Aw.vl.add hD trivial
      have kp : Kp Z1 Ow H1 (upd H1 D (.lst [])) := fun a o ea _ _ => by rw [upd_ne (ne_of_none ea hD)]; exact ea
      have pp : (D :: Ow).Perm (Ow ++ [D]) := (List.perm_append_comm (l₁ := [D]))
      refine ⟨wipeE env1 vs, Z1, Ow, [], [], [], ⟨Aw.re.kp (fun _ z => z) kp, v1.perm (pp) |>.left⟩, fun i m hl => wipeE_no m (by rw [wipeE_no.wlen] at hl; exact hl), G.keep _ _ _ _ b (fun _ z => z) (kp.less fun a m => by cases m), upd_same, by simp only [RDs], v1.perm pp, ?_, ?_⟩
      · have q1 : Tr Z H O Z1 H1 Ow := t1.less sub
        exact (q1.trans (Tr.add hD (by intro _ z; cases z))).perm (List.Perm.refl _) pp
      · rw [List.drop_zero]
        cases ec : compL vs q t g xs (wipeE env1 vs) [] with
        | ok d env2 => rw [ec] at h; exact h
        | exc x env2 => exact (compL_exc ec).elim
        | stuck => rw [ec] at h; exact h
    · rintro i m H2 ⟨rfl, hi, env2, Z2, Oe, us, ds, Oa, A2, hno, b2, hD2, rd, vl, tr, hc⟩
      by_cases hlt : i < xs.length
      · have hx : xs[i]? = some xs[i] := by simp [hlt]
        obtain ⟨go, yld⟩ := G.item i _ Z2 H2 b2 hx
        have ed : xs.drop i = xs[i] :: xs.drop (i + 1) := List.drop_eq_getElem_cons hlt
        rw [ed] at hc
        unfold compL at hc
        refine .inr ⟨go, CompAt X ph sg vs q t g Z H O B Q D (xs.drop (i + 1)), fun H' c => ⟨xs.length - (i + 1), by omega, rfl, hlt, c⟩, fun v H3 y => ?_⟩
        obtain ⟨Z3, gr, rp⟩ := yld v H3 y
        have A3 := A2.grow gr
        have vl3 := vl.grow gr
        have tr3 : Tr Z H O Z3 H3 (Oe ++ (D :: Oa)) := tr.trans gr.Tr
        have hD3 : H3 D = some (.lst us) := gr.kp _ _ hD2
        have rd3 : RDs X.K X.mg Z3 H3 us ds Oa := RDs.kp gr.z1 gr.Kp rd
        have b3 : B Z3 H3 := G.keep _ _ _ _ b2 gr.z1 gr.Kp
        cases e1 : assignP env2 q xs[i] with
        | none => rw [e1] at hc; exact hc.elim
        | some env3 =>
          rw [e1] at hc
          simp only at hc
          refine gPat_in.mono q (fun sg2 H4 z => ⟨z.1.trans (wipe_idem vs), z.2 (z.1.trans (wipe_idem vs))⟩) (gPat_in (R := fun sg2 H4 => wipe sg2 vs = wipe sg vs → _) hq (gPat_ok A3 rp e1 fun sg2 O3 A4 s3 ew => ?_))
          refine ⟨env3, ph, Z3, O3, A4, ?_⟩
          -- the frame: the list and what it holds
          have vlF : Vld Z3 H3 (O3 ++ (D :: Oa)) := by
            refine ⟨?_, fun a m => vl3.nz a ?_, vl3.zs, fun a m => vl3.mu a ?_, vl3.tb⟩
            · refine List.nodup_append.mpr ⟨A4.vl.nd, (List.nodup_append.mp vl3.nd).2.1, fun a m c m2 e3 => ?_⟩
              exact (List.nodup_append.mp vl3.nd).2.2 a (s3 a m) c m2 e3
            · rcases List.mem_append.mp m with z | z
              · exact List.mem_append_left _ (s3 a z)
              · exact List.mem_append_right _ z
            · rcases List.mem_append.mp m with z | z
              · exact List.mem_append_left _ (s3 a z)
              · exact List.mem_append_right _ z
          have trF : Tr Z H O Z3 H3 (O3 ++ (D :: Oa)) := tr3.less fun a m => by
            rcases List.mem_append.mp m with z | z
            · exact List.mem_append_left _ (s3 a z)
            · exact List.mem_append_right _ z
          have nxt : ∀ {env5 : Env} {Z5 : Zs} {H5 : Hp} {O5 : List Addr} {us5 : List V} {ds5 : List _root_.Z.D} {Oa5 : List Addr}, At X.K X.mg ph Z5 H5 sg2 env5 O5 → B Z5 H5 → H5 D = some (.lst us5) → RDs X.K X.mg Z5 H5 us5 ds5 Oa5 → Vld Z5 H5 (O5 ++ (D :: Oa5)) → Tr Z H O Z5 H5 (O5 ++ (D :: Oa5)) →
              (match compL vs q t g (xs.drop (i + 1)) (wipeE env5 vs) ds5 with
                | .ok d env' => ∀ v H' Z' O' Od, RE X.K X.mg Z' H' ph sg env' O' → RD X.K X.mg Z' H' v d Od → Vld Z' H' (O' ++ Od) → Tr Z H O Z' H' (O' ++ Od) → Q v H'
                | _ => False) → CompAt X ph sg vs q t g Z H O B Q D (xs.drop (i + 1)) H5 := fun {env5 Z5 H5 O5 us5 ds5 Oa5} A5 b5 hD5 rd5 vl5 tr5 hc5 => by
            obtain ⟨O6, O7, h6, p6⟩ := A5.re.wipe (vs := vs)
            rw [ew] at h6
            have pp : (O5 ++ (D :: Oa5)).Perm ((O6 ++ (D :: Oa5)) ++ O7) := by
              refine (p6.append_right (D :: Oa5)).trans ?_
              rw [List.append_assoc, List.append_assoc]
              exact List.Perm.append_left O6 List.perm_append_comm
            have v6 := vl5.sub pp
            exact ⟨wipeE env5 vs, Z5, O6, us5, ds5, Oa5, ⟨h6, v6.left⟩, fun i m hl => wipeE_no m (by rw [wipeE_no.wlen] at hl; exact hl), b5, hD5, rd5, v6, tr5.less fun a m => pp.mem_iff.mpr (List.mem_append_left _ m), hc5⟩
          -- behind a step beside the frame
          have beside : ∀ {Z5 Z6 : Zs} {H5 H6 : Hp} {O5 O6 : List Addr}, Tr Z5 H5 O5 Z6 H6 O6 → Vld Z6 H6 O6 → Vld Z5 H5 (O5 ++ (D :: Oa)) → Tr Z H O Z5 H5 (O5 ++ (D :: Oa)) → B Z5 H5 → H5 D = some (.lst us) → RDs X.K X.mg Z5 H5 us ds Oa →
              B Z6 H6 ∧ H6 D = some (.lst us) ∧ RDs X.K X.mg Z6 H6 us ds Oa ∧ Vld Z6 H6 (O6 ++ (D :: Oa)) ∧ Tr Z H O Z6 H6 (O6 ++ (D :: Oa)) := fun {Z5 Z6 H5 H6 O5 O6} tt v6 v5 t5 b5 h5 r5 => by
            have kp := tt.kept v5
            exact ⟨G.keep _ _ _ _ b5 tt.z1 (kp.less fun a m => by cases m), kp _ _ h5 (.inr (.inl List.mem_cons_self)) (fun _ z => nomatch z), RDs.kp tt.z1 (kp.less fun a m => List.mem_cons_of_mem _ m) r5, v5.step tt v6, t5.trans (tt.frame (F := D :: Oa))⟩
          cases e4 : t env3 with
          | stuck => rw [e4] at hc; exact hc.elim
          | exc x env4 => rw [e4] at hc; exact hc.elim
          | ok c env4 =>
            rw [e4] at hc
            simp only at hc ⊢
            intro H4 Z4 O4 A5 t5
            obtain ⟨b5, hD5, rd5, vl5, tr5⟩ := beside t5 A5.vl vlF trF b3 hD3 rd3
            cases c with
            | false =>
              simp only [Bool.false_eq_true, if_false] at hc ⊢
              exact nxt A5 b5 hD5 rd5 vl5 tr5 hc
            | true =>
              simp only [if_true] at hc ⊢
              refine ⟨env4, ph, Z4, O4, A5, ?_⟩
              cases e5 : g env4 with
              | stuck => rw [e5] at hc; exact hc.elim
              | exc x env5 => rw [e5] at hc; exact hc.elim
              | ok d env5 =>
                rw [e5] at hc
                simp only at hc ⊢
                intro w H6 Z6 O6 Od r6 rd6 vl6 t6
                by_cases hz : ds.length < lineN
                · rw [if_pos hz] at hc
                  obtain ⟨b7, hD7, rd7, vl7, tr7⟩ := beside t6 vl6 vl5 tr5 b5 hD5 rd5
                  refine ⟨us, hD7, by rw [rd7.length, ← lineN_eq]; exact hz, ?_⟩
                  have pp : ((O6 ++ Od) ++ (D :: Oa)).Perm (D :: ((O6 ++ Od) ++ Oa)) := List.perm_middle
                  have v8 := vl7.perm pp
                  have kp : Kp Z6 ((O6 ++ Od) ++ Oa) H6 (upd H6 D (.lst (us ++ [w]))) := kp_write v8 hD7
                  have v9 := v8.write (o' := .lst (us ++ [w])) (O' := (O6 ++ Od) ++ Oa) hD7 (fun _ z => nomatch z) trivial (fun a m => m) (List.nodup_cons.mp v8.nd).2
                  have t9 : Tr Z6 H6 (D :: ((O6 ++ Od) ++ Oa)) Z6 (upd H6 D (.lst (us ++ [w]))) (D :: ((O6 ++ Od) ++ Oa)) := Tr.write hD7 (fun _ z => nomatch z) (fun _ z => nomatch z) (fun a m => m) (by intro _ z; cases z)
                  have p9 : (D :: ((O6 ++ Od) ++ Oa)).Perm (O6 ++ (D :: (Oa ++ Od))) := by
                    refine List.Perm.trans ?_ List.perm_middle.symm
                    refine List.Perm.cons D ?_
                    rw [List.append_assoc]
                    exact List.Perm.append_left O6 List.perm_append_comm
                  refine nxt (O5 := O6) (Oa5 := Oa ++ Od) (us5 := us ++ [w]) (ds5 := ds ++ [d]) ⟨r6.kp (fun _ z => z) (kp.less fun a m => List.mem_append_left _ (List.mem_append_left _ m)), (v9.perm p9).left⟩ (G.keep _ _ _ _ b7 (fun _ z => z) (kp.less fun a m => by cases m)) upd_same ?_ (v9.perm p9) ?_ hc
                  · exact (RDs.kp (fun _ z => z) (kp.less fun a m => List.mem_append_right _ m) rd7).app (RDs.one (RD.kp (fun _ z => z) (kp.less fun a m => List.mem_append_left _ (List.mem_append_right _ m)) rd6))
                  · exact (tr7.trans (t9.perm pp.symm (List.Perm.refl _))).perm (List.Perm.refl _) p9
                · rw [if_neg hz] at hc
                  exact hc.elim
      · have ei : i = xs.length := by omega
        subst ei
        rw [List.drop_length] at hc
        unfold compL at hc
        refine .inl ⟨G.stop Z2 H2 b2, hc (.ref D) H2 Z2 Oe (D :: Oa) (A2.unwipe hno).re ?_ vl tr⟩
        simp only [RD]
        exact ⟨D, us, Oa, rfl, hD2, rd, rfl⟩
where
  compL_exc {vs : List Nat} {q : Pat} {t : TF} {g : EF} {x : Ex} {env2 : Env} : ∀ {xs : List P} {env : Env} {acc : List D}, compL vs q t g xs env acc = .exc x env2 → False
  | [], env, acc, h => by unfold compL at h; cases h
  | y :: xs, env, acc, h => by
    unfold compL at h
    split at h
    · split at h
      · split at h
        · split at h
          · split at h
            · exact compL_exc h
            · cases h
          · cases h
        · exact compL_exc h
      · cases h
    · cases h
theorem jts_nil : PTs X [] (rT X.K X.mg W0 tYesF) := ⟨fun pins s σ H Q I h => pts_nil.run pins s σ H Q I (rT_ok h)⟩
theorem jts_one {c : Expr} (h : JT X W0 c t) : PTs X [c] (rT X.K X.mg W0 t) := pts_one h
theorem je_comp (C : Cz X W k) (hN : X.N.Nodup) (hi : JI X W tg iter s) (ok : BlkOk X.N X.env.scope scope own) (hq : ∀ i ∈ pidx q, i ∈ own.map (·.2))
    (hg : ∀ (s : Shared) (H : Hp) (C : Addr) (cl : List (Str × Addr)) (fp : List Addr), Cz (X.blk s H scope (compEnvC scope cl C X.env) fp) W0 k → PG (X.blk s H scope (compEnvC scope cl C X.env) fp) tg (gPat X.K q))
    (ht : ∀ (s : Shared) (H : Hp) (C : Addr) (cl : List (Str × Addr)) (fp : List Addr), Cz (X.blk s H scope (compEnvC scope cl C X.env) fp) W0 k → PTs (X.blk s H scope (compEnvC scope cl C X.env) fp) ifs (rT X.K X.mg W0 t))
    (he : ∀ (s : Shared) (H : Hp) (C : Addr) (cl : List (Str × Addr)) (fp : List Addr), Cz (X.blk s H scope (compEnvC scope cl C X.env) fp) W0 k → JE (X.blk s H scope (compEnvC scope cl C X.env) fp) W0 elt g)
    (hs : ∀ x, foldedSetIterable iter X.env x = pure x := by intro _; rfl) : JE X W (.ListComp elt [⟨tg, iter, ifs, 0⟩] scope pos) (eComp (own.map (·.2)) q s t g) :=
  PEimp (pe_lc C.calm hN hi ok (fun s H A cl fp => hg s H A cl fp (C.blk ..)) (fun s H A cl fp => ht s H A cl fp (C.blk ..)) (fun s H A cl fp => he s H A cl fp (C.blk ..)) hs) fun sg H Q h => rE_comp hq h
end
end Z
set_option Elab.async false
set_option linter.all false
set_option maxRecDepth 100000
set_option maxHeartbeats 1000000
namespace Z
open PySem L2
/-- the module's name x is a def that keeps h -/
def OkF (P : Program) (w : World) (K : PySem.W.Frag) (mg : Str → Option Value) (base : Heap) (x : Str) (n k : Nat) (m : Bool) (h : Fn) : Prop :=
  ∃ f fd ps, FnOk P w K mg base (L2N.CX P w) k f fd ps (Sat K mg m n h) ∧ mg x = some (.ref f) ∧ PySem.W.keepIn K (.ref f) = true ∧ Binds K fd ps []
/-- where the def of the text stands -/
def Dt (K : PySem.W.Frag) (mg : Str → Option Value) (x : Str) (st : Stmt) : Prop := ∃ f fd, FunD K x x (defArgs st) (defBody st) (defScope st) [] [] f fd ∧ mg x = some (.ref f)
section
variable {P : Program} {w : World} {K : PySem.W.Frag} {mg : Str → Option Value} {base : Heap} {x : Str} {st : Stmt}
theorem okf {N ps : List Str} {k j n : Nat} {m : Bool} {s : SF} (D : Dt K mg x st) (S : FnScope N ps (defScope st)) (hp : ps.length = n) (hN : N.length = j) (hm : m = true → 0 < n)
    (hbind : ∀ (kV doc pm : Value) (an : Option Addr) (cdv ct : Value) (us : List Value), us.length = ps.length → bindArgs (PySem.W.fnOf x x (defArgs st) (defBody st) (defScope st) .none kV doc pm an cdv ct) ⟨us, []⟩ = pure (ps.zip us))
    (hb : ∀ (f : Addr) (cdv : Value) (A : Around) (outer : List PySem.Env) (sh : Shared) (H : Hp) (E : XK), Cz (cxOf (L2N.CX P w) P w K mg base N x (defScope st) f cdv A outer sh H E) (fun cls d _ H => E cls d H) k → JSs (cxOf (L2N.CX P w) P w K mg base N x (defScope st) f cdv A outer sh H E) (fun cls d _ H => E cls d H) (defBody st) s) :
    OkF P w K mg base x n (k + 1) m (mkFn m n j s) := by
  obtain ⟨f, fd, F, g⟩ := D
  exact ⟨f, fd, ps, fn_z F S hp hN hm (hb f), g, F.kp, F.bindsN hbind⟩
end
section
variable {X : Cx} {W : WX} {k j n : Nat} {h : Fn} {x : Str} {p pos : Pos} {e a b c : Expr} {es : List Expr} {as : List Arg} {i m : Nat} {is js ls : List Nat} {ga gb gc : VF} {x1 : Nat}
theorem je_callO (C : Cz X W k) (F : OkF X.prog X.w X.K X.mg X.base x n j false h) (hj : j ≤ k) (hg : Gl X x) (ha : JAs X W (e :: es) as) (hn : as.length = n) (hdb : (x == ("__debug__" : Str)) = false := by decide)
    (he : starEach (e :: es) X.env = (false, eval e X.env) :: starEach es X.env := by rfl) (hpl : (backTo pos (starEach es X.env)).any (·.1) = false := by rfl) : JE X W (.Call (.Name x p) (e :: es) [] pos) (eOp as h) := by
  obtain ⟨f, fd, ps, F1, g, kp, b⟩ := F
  exact je_call C F1 hj hg g kp b ha hn hdb he hpl
theorem je_callMO (C : Cz X W k) (F : OkF X.prog X.w X.K X.mg X.base x n j true h) (hj : j ≤ k) (hg : Gl X x) (hv : PE X e (tVar i)) (ha : JAs X W es as) (hn : as.length + 1 = n) (hdb : (x == ("__debug__" : Str)) = false := by decide)
    (he : starEach (e :: es) X.env = (false, eval e X.env) :: starEach es X.env := by rfl) (hpl : (backTo pos (starEach es X.env)).any (·.1) = false := by rfl) : JE X W (.Call (.Name x p) (e :: es) [] pos) (eOpM i as h) := by
  obtain ⟨f, fd, ps, F1, g, kp, b⟩ := F
  exact je_callM C F1 hj hg g kp b hv ha hn hdb he hpl
theorem je_callO0 (C : Cz X W k) (F : OkF X.prog X.w X.K X.mg X.base x 0 j false h) (hj : j ≤ k) (hg : Gl X x) (hdb : (x == ("__debug__" : Str)) = false := by decide) : JE X W (.Call (.Name x p) [] [] pos) (eOp [] h) := by
  obtain ⟨f, fd, ps, F1, g, kp, b⟩ := F
  exact je_call0 C F1 hj hg g kp b hdb
def Bl2 (h : P → P → Option P) : Prop := ∀ a b r, h a b = some r → ∃ c, r = .bl c
def BlF (h : Fn) : Prop := ∀ ds r f, h ds = .ok r f → ∃ c, r = .p (.bl c)
theorem blf {h : P → P → Option P} (q : Bl2 h) : BlF (lift2 h) := by
  intro ds r f e
  unfold lift2 at e
  split at e
  · split at e
    · rename_i y ey
      cases e
      obtain ⟨c, ec⟩ := q _ _ _ ey
      exact ⟨c, by rw [ec]⟩
    · cases e
  · cases e
theorem bl_eq : Bl2 pEq := fun a b r e => by unfold pEq at e; split at e <;> cases e; exact ⟨_, rfl⟩
theorem bl_ne : Bl2 pNe := fun a b r e => by unfold pNe at e; split at e <;> cases e; exact ⟨_, rfl⟩
theorem bl_lt : Bl2 pLt := fun a b r e => by unfold pLt at e; split at e <;> cases e; exact ⟨_, rfl⟩
theorem bl_le : Bl2 pLe := fun a b r e => by unfold pLe at e; split at e <;> cases e; exact ⟨_, rfl⟩
theorem bl_gt : Bl2 pGt := fun a b r e => by unfold pGt at e; split at e <;> cases e; exact ⟨_, rfl⟩
theorem bl_ge : Bl2 pGe := fun a b r e => by unfold pGe at e; split at e <;> cases e; exact ⟨_, rfl⟩
theorem bl_is : Bl2 pIs := fun a b r e => by unfold pIs at e; split at e <;> cases e <;> exact ⟨_, rfl⟩
theorem bl_isn : Bl2 pIsNot := fun a b r e => by unfold pIsNot at e; split at e <;> cases e <;> exact ⟨_, rfl⟩
theorem bl_in : Bl2 pIn := fun a b r e => by unfold pIn at e; split at e <;> (try split at e) <;> cases e <;> exact ⟨_, rfl⟩
theorem bl_nin : Bl2 pNotIn := fun a b r e => by unfold pNotIn at e; split at e <;> (try split at e) <;> cases e <;> exact ⟨_, rfl⟩
def IxZ (X : Cx) (h : Fn) : Prop := IxR X fun x y H Q => ∃ E, Sat X.K X.mg false 2 h [x, y] H Q E
theorem ix_Z (hr : RU X.A) : IxZ X (lift2 pIx) := by
  intro value slice pins s sg H x y v u Q I rx ry hq hs
  obtain ⟨E, hl, Z, O, ds, rd, vl, hq⟩ := hq
  refine ix_V hr value slice pins s sg H x y v u Q I rx ry ?_ hs
  have rp := rd.seal
  match ds, rd, hq, rp with
  | [a, b], rd, hq, rp =>
    unfold lift2 at hq
    simp only [vws, RPs] at rp
    cases e : pIx (vw a) (vw b) with
    | none => simp only [e] at hq
    | some r =>
      simp only [e] at hq
      exact ⟨plusZ Z O, vw a, vw b, r, rp.1, rp.2.1, e, got_sat vl hq⟩
  | [], rd, hq, rp => exact hq.elim
  | [_], rd, hq, rp => exact hq.elim
  | _ :: _ :: _ :: _, rd, hq, rp => exact hq.elim
theorem je_ix (hr : RU X.A) {x y : Arg} (ha : JA X W a x) (hb : JA X W b y) (hs : PlainIx b := by exact fun _ _ => rfl) : JE X W (.Subscript a b pos) (eOp [x, y] (lift2 pIx)) :=
  PEimp (pe_ix (ix_Z hr) ha hb hs) fun sg H Q q => rE_op2 q
def pTup (xs : List P) : Option P := if xs.length ≤ lineN then some (.tup xs) else none
theorem je_tup (ha : JAs X W es as) : JE X W (.Tuple es x1 pos) (eOp as (liftN pTup)) :=
  PEimp (pe_tup ha) fun sg H Q q => rAs_mono (fun vs H1 z => by
    obtain ⟨hl, Z, O, ds, rd, vl, h⟩ := z
    have rp := rd.seal
    unfold liftN pTup at h
    split at h
    · rename_i r fin e1
      split at e1
      · rename_i y ey
        split at ey
        · rename_i hz
          cases ey
          cases e1
          refine ⟨by rw [rp.length, ← lineN_eq]; exact hz, fun p hp => ?_⟩
          refine got_sat vl h _ _ _ (Grow.new hp (by intro _ z; cases z)) ?_
          simp only [RP]
          exact ⟨p, vs, rfl, SqI.of upd_same, rp.grow (Grow.new hp (by intro _ z; cases z))⟩
        · cases ey
      · cases e1
    · rename_i x1 f e1
      split at e1 <;> cases e1
    · exact h.elim) (eOp_ok q)
def gChain (h h' : P → P → Option P) (a b c : VF) : VF := fun env => (a env).bind fun x => (b env).bind fun y => match h x y with
  | some (.bl true) => (c env).bind fun z => h' y z
  | some (.bl false) => some (.bl false)
  | _ => none
theorem rV_chain {K : PySem.W.Frag} {mg : Str → Option Value} {h h' : P → P → Option P} {sg : St} {H : Hp} {Q : VK} (q : rV K mg (is ++ (js ++ ls)) (gChain h h' ga gb gc) sg H Q) :
    tChain (fun x y H Q => ∃ Z a b r, RP K mg Z H x a ∧ RP K mg Z H y b ∧ h a b = some r ∧ Got K mg Z H r Q) (fun x y H Q => ∃ Z a b r, RP K mg Z H x a ∧ RP K mg Z H y b ∧ h' a b = some r ∧ Got K mg Z H r Q) (rV K mg is ga) (rV K mg js gb) (rV K mg ls gc) sg H Q := by
  obtain ⟨env, ph, Z, O, A, hn, r, er, hg⟩ := q
  unfold gChain at er
  cases ea : ga env with
  | none => rw [ea] at er; cases er
  | some x =>
    simp only [ea, Option.bind_some] at er
    cases eb : gb env with
    | none => simp only [eb] at er; cases er
    | some y =>
      simp only [eb, Option.bind_some] at er
      refine ⟨env, ph, Z, O, A, fun i m => hn i (List.mem_append_left _ m), x, ea, fun v1 Z1 H1 g1 rp1 => ?_⟩
      refine ⟨env, ph, Z1, O, A.grow g1, fun i m => hn i (List.mem_append_right _ (List.mem_append_left _ m)), y, eb, fun v2 Z2 H2 g2 rp2 => ?_⟩
      cases eh : h x y with
      | none => simp only [eh] at er; cases er
      | some t =>
        simp only [eh] at er
        refine ⟨Z2, x, y, t, rp1.grow g2, rp2, eh, fun v3 Z3 H3 g3 rp3 => ?_⟩
        cases t with
        | bl b =>
          simp only [RP] at rp3
          refine ⟨b, rp3, ?_⟩
          cases b with
          | false =>
            cases er
            exact hg (.bl false) Z3 H3 ((g1.trans g2).trans g3) (by simp only [RP])
          | true =>
            simp only at er
            cases ec : gc env with
            | none => simp only [ec] at er; cases er
            | some z =>
              simp only [ec, Option.bind_some] at er
              refine ⟨env, ph, Z3, O, ((A.grow g1).grow g2).grow g3, fun i m => hn i (List.mem_append_right _ (List.mem_append_right _ m)), z, ec, fun v4 Z4 H4 g4 rp4 => ?_⟩
              exact ⟨Z4, y, z, r, (rp2.grow g3).grow g4, rp4, er, fun v5 Z5 H5 g5 rp5 => hg v5 Z5 H5 ((((g1.trans g2).trans g3).trans g4).trans g5) rp5⟩
        | _ => simp at er
theorem jf_chain {op op' : CmpOp} {h h' : P → P → Option P} (ho : OpV X (compareOp op) h) (ho' : OpV X (compareOp op') h') (ha : JF X a is ga) (hb : JF X b js gb) (hc : JF X c ls gc) (hm : lastMarks [op, op'] [b, c] = false := by with_unfolding_all rfl) :
    JF X (.Compare a [op, op'] [b, c] pos) (is ++ (js ++ ls)) (gChain h h' ga gb gc) :=
  ⟨PEimp (pe_chain ho ho' ha.run hb.run hc.run hm) fun sg H Q q => rV_chain q, fun env i => by unfold gChain; rw [ha.inv, hb.inv, hc.inv]⟩
theorem jt_chain {op op' : CmpOp} {h h' : P → P → Option P} (ho : OpV X (compareOp op) h) (ho' : OpV X (compareOp op') h') (ha : JF X a is ga) (hb : JF X b js gb) (hc : JF X c ls gc) (hm : lastMarks [op, op'] [b, c] = false := by with_unfolding_all rfl) (hbl : Bl2 h') :
    JT X W (.Compare a [op, op'] [b, c] pos) (tE (eW (is ++ (js ++ ls)) (gChain h h' ga gb gc))) := by
  refine PTimp (pt_chain ho ho' ha.run hb.run hc.run hm) fun sg H Q hq => ?_
  show tChain _ _ _ _ _ sg H fun x H' => ∃ k, x = .bl k ∧ Q k H'
  refine rV_chain (rE_w (W := W) (jf_chain (pos := pos) ho ho' ha hb hc hm).inv ?_)
  obtain ⟨env, ph, Z, O, A, q⟩ := hq
  refine ⟨env, ph, Z, O, A, ?_⟩
  unfold tE at q
  unfold eW at q ⊢
  cases e : gChain h h' ga gb gc env with
  | none => simp only [e, ER.bind] at q
  | some x =>
    simp only [e, ER.bind] at q ⊢
    intro v H' Z' O' Od r1 r2 r3 r4
    have hx : ∃ c, x = .bl c := by
      unfold gChain at e
      cases ea : ga env with
      | none => rw [ea] at e; cases e
      | some y =>
        simp only [ea, Option.bind_some] at e
        cases eb : gb env with
        | none => simp only [eb] at e; cases e
        | some z =>
          simp only [eb, Option.bind_some] at e
          split at e
          · cases ec : gc env with
            | none => rw [ec] at e; cases e
            | some z' => rw [ec] at e; exact hbl _ _ _ e
          · cases e; exact ⟨_, rfl⟩
          · cases e
    obtain ⟨c, ec⟩ := hx
    subst ec
    simp only [truth] at q
    have rv := (of_rd_p r2).2
    simp only [RP] at rv
    exact ⟨c, rv, q H' Z' O' ⟨r1, r3.left⟩ (r4.less fun a m => List.mem_append_left _ m)⟩
theorem tyX_of {Z : Zs} {H : Hp} {x : P} {v : V} {n : String} {b : Bool} (h : RP X.K X.mg Z H v x) (e : isTyP n x = some b) : ∃ t, TyX X.K H v (.type t) ∧ kitB t n = some b := by
  unfold isTyP at e
  split at e <;> first | (cases e; done) | skip
  all_goals cases e
  all_goals simp only [RP] at h
  all_goals first
    | (subst h; exact ⟨_, .base (.int _), by decide +kernel⟩)
    | (subst h; exact ⟨_, .base (.bl _), by decide +kernel⟩)
    | (subst h; exact ⟨_, .base .non, by decide +kernel⟩)
    | (subst h; exact ⟨_, .base (.str _), by decide +kernel⟩)
    | (obtain ⟨a, us, rfl, (s | ⟨o, s⟩) | ⟨o, its, n, s, c, _⟩, _⟩ := h
       · exact ⟨_, .base (.tup s), by decide +kernel⟩
       · exact ⟨_, .fTuple s, by decide +kernel⟩
       · exact ⟨_, .kTuple s c, by decide +kernel⟩)
    | (obtain ⟨a, us, rfl, _, s, _⟩ := h; exact ⟨_, .base (.lst s), by decide +kernel⟩)
theorem cv_isi : CallV X (.builtin "isinstance") bIsTy := by
  intro pins s sg H xs us Q I r ⟨Z, as, y, ra, e, q⟩
  unfold bIsTy at e
  split at e
  · rename_i z n
    cases eb : isTyP n z with
    | none => rw [eb] at e; cases e
    | some b =>
      rw [eb] at e
      cases e
      obtain ⟨w1, w2, ew, r1, r2⟩ := rps2 ra
      obtain ⟨t, ty, kb⟩ := tyX_of r1 eb
      simp only [RP] at r2
      exact call_isi pins s sg H xs us Q I r ⟨w1, w2, _, _, b, ew, by rw [r2]; exact .ty n, ty, kit_ty kb, got_p q (by simp only [RP])⟩
  · cases e
/-- a built-in type's name -/
theorem jf_ty {id : String} {x : Str} (hg : Gl X x) (hm : X.mg x = none) (hv : bootBuiltins x = some (.type id)) (hn : x ≠ "__name__" := by decide) (hd : (x == ("__debug__" : Str)) = false := by decide) : JF X (.Name x pos) [] (gC (.ty id)) :=
  ⟨PEimp (⟨fun pins s sg H Q I h => ld_blt I hg hm hv (show EP X pins sg Q (.type id) _ from ⟨.ty id, H, I.tok _, rfl, h⟩) hn hd⟩ : PE X (.Name x pos) (tC (.ty id))) fun sg H Q h => rV_c (fun _ _ => by simp only [RP]) h, fun _ _ => rfl⟩
theorem js_setO {i : Nat} {x : Str} {pos' : Pos} {f : EF} (hN : X.N.Nodup) (hi : X.N[i]? = some x) (hx : Loc X.env.scope x) (h : JE X W e f) (hs : swapsWith e (some (.Name x pos')) pos.line X.env = pure false := by rfl)
    (hf : X.fn x = true ∨ X.env.scope.names.lookup x = some .local := by first | exact .inl rfl | exact .inr rfl | assumption) : JS X W (.Assign [.Name x pos'] e pos) (sAsg i f) := js_set hN hi hx h hs hf
end
end Z
set_option Elab.async false
set_option linter.all false
set_option maxRecDepth 100000
set_option maxHeartbeats 1000000
namespace Z
open PySem L2
def pNot : P → Option P
  | .bl b => some (.bl (!b))
  | _ => none
section
variable {X : Cx} {W : WX} {k j n : Nat} {h : Fn} {x : Str} {p pos pos' : Pos} {e a b c : Expr} {es : List Expr} {as : List Arg} {i m : Nat} {is js ls : List Nat} {ga gb gc : VF} {gs : List VF} {x1 : Nat} {f : EF}
theorem jf_lst (h : JFs X es is gs) : JF X (.List es pos) is (gLs gs) := by
  refine ⟨PEimp (pe_lst h.run) fun sg H Q ⟨env, ph, Z, O, A, hn, x, ex, hq⟩ => ?_, fun env i => by unfold gLs; rw [h.inv]⟩
  unfold gLs at ex
  cases eb : gL gs env with
  | none => rw [eb] at ex; cases ex
  | some xs =>
    rw [eb] at ex
    simp only [Option.bind_some] at ex
    split at ex
    · rename_i hl
      cases ex
      refine ⟨env, ph, Z, O, A, hn, xs, eb, fun vs Z' H' gr rps => ⟨?_, fun p hp => ?_⟩⟩
      · rw [rps.length, ← lineN_eq]; exact hl
      · refine hq _ _ _ (gr.trans (Grow.newZ hp (by intro _ z; cases z))) ?_
        simp only [RP]
        exact ⟨p, vs, rfl, .inr (by simp), upd_same, rps.grow (Grow.newZ hp (by intro _ z; cases z))⟩
    · cases ex
theorem cv_list : CallV X (.type "list") bList := by
  intro pins s sg H xs us Q I r ⟨Z, as, y, ra, e, q⟩
  unfold bList at e
  split at e
  · cases e
    obtain ⟨w, ew, rw_⟩ := rps1 ra
    simp only [RP] at rw_
    obtain ⟨a, ws, e1, _, s1, r1⟩ := rw_
    refine call_list_of pins s sg H xs us Q I r ⟨a, ws, by rw [ew, e1], .inl (.inl (.inl s1)), fun p hp => ?_⟩
    refine q _ _ _ (Grow.newZ hp (by intro _ z; cases z)) ?_
    simp only [RP]
    exact ⟨p, ws, rfl, .inr (by simp), upd_same, r1.grow (Grow.newZ hp (by intro _ z; cases z))⟩
  · cases e
    obtain ⟨w, ew, rw_⟩ := rps1 ra
    simp only [RP] at rw_
    obtain ⟨a, ws, e1, s1, r1⟩ := rw_
    refine call_list_of pins s sg H xs us Q I r ⟨a, ws, by rw [ew, e1], .inr s1.1, fun p hp => ?_⟩
    refine q _ _ _ (Grow.newZ hp (by intro _ z; cases z)) ?_
    simp only [RP]
    exact ⟨p, ws, rfl, .inr (by simp), upd_same, r1.grow (Grow.newZ hp (by intro _ z; cases z))⟩
  · cases e
theorem pv' (i : Nat) (hN : X.N[i]? = some x := by rfl) (hv : Vis X.env.scope x := by first | exact .inl rfl | exact .inr (.inl rfl) | exact .inr (.inr rfl)) (hd : (x == ("__debug__" : Str)) = false := by decide) (hcd : (x == ("__classdict__" : Str)) = false := by decide) : PE X (.Name x pos) (tVar i) := pe_var hN hv hd hcd
theorem nv (i : Nat) (hN : X.N[i]? = some x := by rfl) (hv : Vis X.env.scope x := by first | exact .inl rfl | exact .inr (.inl rfl) | exact .inr (.inr rfl)) (hd : (x == ("__debug__" : Str)) = false := by decide) (hcd : (x == ("__classdict__" : Str)) = false := by decide) : JF X (.Name x pos) [i] (gV i) := jf_v (pe_var hN hv hd hcd)
theorem av (i : Nat) (hN : X.N[i]? = some x := by rfl) (hv : Vis X.env.scope x := by first | exact .inl rfl | exact .inr (.inl rfl) | exact .inr (.inr rfl)) (hd : (x == ("__debug__" : Str)) = false := by decide) (hcd : (x == ("__classdict__" : Str)) = false := by decide) : JA X W (.Name x pos) (.v i) := ja_v (pe_var hN hv hd hcd)
theorem ev (i : Nat) (hN : X.N[i]? = some x := by rfl) (hv : Vis X.env.scope x := by first | exact .inl rfl | exact .inr (.inl rfl) | exact .inr (.inr rfl)) (hd : (x == ("__debug__" : Str)) = false := by decide) (hcd : (x == ("__classdict__" : Str)) = false := by decide) : JE X W (.Name x pos) (eV i) := je_v (pe_var hN hv hd hcd)
theorem mv (i : Nat) (hN : X.N[i]? = some x := by rfl) (hv : Vis X.env.scope x := by first | exact .inl rfl | exact .inr (.inl rfl) | exact .inr (.inr rfl)) (hd : (x == ("__debug__" : Str)) = false := by decide) (hcd : (x == ("__classdict__" : Str)) = false := by decide) : JE X W (.Name x pos) (eM i) := je_m (pe_var hN hv hd hcd)
theorem st (S : X.N.Nodup) (i : Nat) (h : JE X W e f) (hi : X.N[i]? = some x := by rfl) (hx : Loc X.env.scope x := by first | exact .inl rfl | exact .inr rfl) (hs : swapsWith e (some (.Name x pos')) pos.line X.env = pure false := by rfl)
    (hf : X.fn x = true ∨ X.env.scope.names.lookup x = some .local := by first | exact .inl rfl | exact .inr rfl) : JS X W (.Assign [.Name x pos'] e pos) (sAsg i f) := js_set S hi hx h hs hf
theorem pn (S : X.N.Nodup) (i : Nat) (hi : X.N[i]? = some x := by rfl) (hx : Loc X.env.scope x := by first | exact .inl rfl | exact .inr rfl) (hf : X.fn x = true ∨ X.env.scope.names.lookup x = some .local := by first | exact .inl rfl | exact .inr rfl) : PG X (.Name x pos) (gPat X.K (.n i)) := pgp_n S hi hx hf
theorem kO (C : Cz X W k) (F : OkF X.prog X.w X.K X.mg X.base x n j false h) (ha : JAs X W (e :: es) as) (hn : as.length = n := by rfl) (hj : j ≤ k := by first | decide | omega) (hg : Gl X x := by rfl) (hdb : (x == ("__debug__" : Str)) = false := by decide)
    (he : starEach (e :: es) X.env = (false, eval e X.env) :: starEach es X.env := by rfl) (hpl : (backTo pos (starEach es X.env)).any (·.1) = false := by rfl) : JE X W (.Call (.Name x p) (e :: es) [] pos) (eOp as h) := je_callO C F hj hg ha hn hdb he hpl
theorem kM (C : Cz X W k) (F : OkF X.prog X.w X.K X.mg X.base x n j true h) (hv : PE X e (tVar i)) (ha : JAs X W es as) (hn : as.length + 1 = n := by rfl) (hj : j ≤ k := by first | decide | omega) (hg : Gl X x := by rfl) (hdb : (x == ("__debug__" : Str)) = false := by decide)
    (he : starEach (e :: es) X.env = (false, eval e X.env) :: starEach es X.env := by rfl) (hpl : (backTo pos (starEach es X.env)).any (·.1) = false := by rfl) : JE X W (.Call (.Name x p) (e :: es) [] pos) (eOpM i as h) := je_callMO C F hj hg hv ha hn hdb he hpl
theorem k0 (C : Cz X W k) (F : OkF X.prog X.w X.K X.mg X.base x 0 j false h) (hj : j ≤ k := by first | decide | omega) (hg : Gl X x := by rfl) (hdb : (x == ("__debug__" : Str)) = false := by decide) : JE X W (.Call (.Name x p) [] [] pos) (eOp [] h) := je_callO0 C F hj hg hdb
theorem fB {id : String} {hh : List P → Option P} (hc : CallV X (.builtin id) hh) (hm : X.mg x = none) (h : JFs X (e :: es) is gs) (hg : Gl X x := by rfl) (hv : bootBuiltins x = some (.builtin id) := by rfl) (hn : x ≠ "__name__" := by decide) (hdb : (x == ("__debug__" : Str)) = false := by decide)
    (he : starEach (e :: es) X.env = (false, eval e X.env) :: starEach es X.env := by rfl) (hpl : (backTo pos (starEach es X.env)).any (·.1) = false := by rfl) : JF X (.Call (.Name x p) (e :: es) [] pos) is (gN hh gs) := jf_callB hc hg hm hv h hn hdb he hpl
theorem fT {id : String} {hh : List P → Option P} (hc : CallV X (.type id) hh) (hm : X.mg x = none) (h : JFs X (e :: es) is gs) (hg : Gl X x := by rfl) (hv : bootBuiltins x = some (.type id) := by rfl) (hn : x ≠ "__name__" := by decide) (hdb : (x == ("__debug__" : Str)) = false := by decide)
    (he : starEach (e :: es) X.env = (false, eval e X.env) :: starEach es X.env := by rfl) (hpl : (backTo pos (starEach es X.env)).any (·.1) = false := by rfl) : JF X (.Call (.Name x p) (e :: es) [] pos) is (gN hh gs) := jf_callTy hc hg hm hv h hn hdb he hpl
theorem eB {id : String} (hc : CallZ X (.builtin id) n h) (hm : X.mg x = none) (ha : JAs X W (e :: es) as) (hnn : as.length = n := by rfl) (hg : Gl X x := by rfl) (hv : bootBuiltins x = some (.builtin id) := by rfl) (hn : x ≠ "__name__" := by decide) (hdb : (x == ("__debug__" : Str)) = false := by decide)
    (he : starEach (e :: es) X.env = (false, eval e X.env) :: starEach es X.env := by rfl) (hpl : (backTo pos (starEach es X.env)).any (·.1) = false := by rfl) : JE X W (.Call (.Name x p) (e :: es) [] pos) (eOp as h) := je_callB hc hg hm hv ha hnn hn hdb he hpl
theorem eT {id : String} (hc : CallZ X (.type id) n h) (hm : X.mg x = none) (ha : JAs X W (e :: es) as) (hnn : as.length = n := by rfl) (hg : Gl X x := by rfl) (hv : bootBuiltins x = some (.type id) := by rfl) (hn : x ≠ "__name__" := by decide) (hdb : (x == ("__debug__" : Str)) = false := by decide)
    (he : starEach (e :: es) X.env = (false, eval e X.env) :: starEach es X.env := by rfl) (hpl : (backTo pos (starEach es X.env)).any (·.1) = false := by rfl) : JE X W (.Call (.Name x p) (e :: es) [] pos) (eOp as h) := je_callTy hc hg hm hv ha hnn hn hdb he hpl
theorem fTy {id : String} (hm : X.mg x = none) (hg : Gl X x := by rfl) (hv : bootBuiltins x = some (.type id) := by rfl) (hn : x ≠ "__name__" := by decide) (hd : (x == ("__debug__" : Str)) = false := by decide) : JF X (.Name x pos) [] (gC (.ty id)) := jf_ty hg hm hv hn hd
theorem tC2 {op : CmpOp} {hh : P → P → Option P} (ho : OpV X (compareOp op) hh) (hbl : Bl2 hh) (ha : JF X a is ga) (hb : JF X b js gb) (hm : behindInMarks op b = false := by first | exact nobehind _ (by decide) (by decide) | rfl) : JT X W (.Compare a [op] [b] pos) (tE (eW (is ++ js) (g2 hh ga gb))) := jtf_cmp ho ha hb hm hbl
theorem fC2 {op : CmpOp} {hh : P → P → Option P} (ho : OpV X (compareOp op) hh) (ha : JF X a is ga) (hb : JF X b js gb) (hm : behindInMarks op b = false := by first | exact nobehind _ (by decide) (by decide) | rfl) : JF X (.Compare a [op] [b] pos) (is ++ js) (g2 hh ga gb) := jf_cmp ho ha hb hm
theorem tC2e {op : CmpOp} {hh : P → P → Option P} {x y : Arg} (ho : OpV X (compareOp op) hh) (hbl : Bl2 hh) (ha : JA X W a x) (hb : JA X W b y) (hm : behindInMarks op b = false := by first | exact nobehind _ (by decide) (by decide) | rfl) : JT X W (.Compare a [op] [b] pos) (tE (eOp [x, y] (lift2 hh))) := jt_cmp (opz_of ho) ha hb hm (blf hbl)
theorem eC2 {op : CmpOp} {hh : P → P → Option P} {x y : Arg} (ho : OpV X (compareOp op) hh) (ha : JA X W a x) (hb : JA X W b y) (hm : behindInMarks op b = false := by first | exact nobehind _ (by decide) (by decide) | rfl) : JE X W (.Compare a [op] [b] pos) (eOp [x, y] (lift2 hh)) := je_cmp (opz_of ho) ha hb hm
theorem tV (h : JE X W e f) (he : ∀ whole, isTrue e X.env whole = (do let v ← whole; standAt e.pos; holding [v] (truthy v)) := by intro _; rfl) : JT X W e (tE f) := jt_val h he
theorem eBin {op : Operator} {hh : P → P → Option P} {x y : Arg} (ho : OpV X (binaryOp op) hh) (ha : JA X W a x) (hb : JA X W b y) : JE X W (.BinOp a op b pos) (eOp [x, y] (lift2 hh)) := je_bin (opz_of ho) ha hb
theorem eUn {op : UnaryOp} {hh : P → Option P} {x : Arg} (ho : UnV X (unaryOp op) hh) (ha : JA X W a x) : JE X W (.UnaryOp op a pos) (eOp [x] (lift1 hh)) := je_un (unz_of ho) ha
theorem uv_not : UnV X (unaryOp .Not) pNot := by
  intro pins s sg H x v Q I rx ⟨Z, a, r, ra, e, q⟩
  cases a with
  | bl b =>
    cases e
    simp only [RP] at ra
    subst ra
    cases (show v = _ from rx)
    exact wpAny_bind (wpAny_truthy_bool (wpAny_pure ⟨.bl (!b), H, I, rfl, got_p q (by simp only [RP])⟩))
  | _ => cases e
end
end Z
set_option Elab.async false
set_option linter.all false
set_option maxRecDepth 100000
set_option maxHeartbeats 1000000
namespace Z
open PySem L2
section
variable {K : PySem.W.Frag} {mg : Str → Option Value} {W : WX} {Z : Zs} {H : Hp}
theorem rE_newD {sg : St} {R : VK} {p : Addr} (hp : H p = none) (h : rE K mg W eNewD sg H R) : R (.ref p) (upd H p (.dK [])) := by
  obtain ⟨env, ph, Z, O, A, h⟩ := h
  have vp := A.vl.add (o := .dK []) hp trivial
  have pp : (p :: O).Perm (O ++ [p]) := (List.perm_append_comm (l₁ := [p]))
  refine h (.ref p) (upd H p (.dK [])) Z O [p] (A.grow (Grow.new hp (by intro _ z; cases z))).re ?_ (vp.perm pp) ((Tr.add hp (by intro _ z; cases z)).perm (List.Perm.refl _) pp)
  simp only [RD]
  exact ⟨p, [], [], rfl, .inl ⟨[], upd_same, rfl, rfl⟩, by simp only [RDs], rfl⟩
theorem mergeK_snoc {kvs more : List (Key × V)} : mergeK kvs more = more.foldl (fun acc kv => putK acc kv.1 kv.2) kvs := rfl
theorem putK_new {kvs : List (Key × V)} {k : Key} {v : V} (h : ∀ q ∈ kvs, q.1 ≠ k) : putK kvs k v = kvs ++ [(k, v)] := by
  unfold putK
  rw [if_neg]
  simp only [List.any_eq_true, decide_eq_true_eq, not_exists, not_and]
  exact fun q m => h q m
theorem mergeK_nd : ∀ {more kvs : List (Key × V)}, ((kvs ++ more).map (·.1)).Nodup → mergeK kvs more = kvs ++ more
  | [], kvs, _ => by simp [mergeK]
  | q :: more, kvs, h => by
    show mergeK (putK kvs q.1 q.2) more = _
    rw [putK_new, mergeK_nd]
    · simp
    · simpa using h
    · intro r m e
      rw [List.map_append, List.nodup_append] at h
      exact h.2.2 r.1 (List.mem_map.mpr ⟨r, m, rfl⟩) q.1 (by simp) e
theorem nodup_of : ∀ {ks : List Key}, nodupP (ks.map kP) = true → ks.Nodup
  | [], _ => List.nodup_nil
  | k :: ks, h => by
    simp only [List.map_cons, nodupP, Bool.and_eq_true, Bool.not_eq_true'] at h
    refine List.nodup_cons.mpr ⟨fun m => ?_, nodup_of h.2⟩
    have h1 := h.1
    unfold inP at h1
    have : ((ks.map kP).any fun y => eqP y (kP k)) = true := by
      rw [List.any_map, List.any_eq_true]
      exact ⟨k, m, by simp [kP_inj]⟩
    rw [this] at h1
    cases h1
theorem jkeys_of : ∀ {ks : List P}, ks.all keyOk = true → ∃ qs : List Key, ks = qs.map kP
  | [], _ => ⟨[], rfl⟩
  | x :: ks, h => by
    simp only [List.all_cons, Bool.and_eq_true] at h
    obtain ⟨qs, e⟩ := jkeys_of h.2
    cases x with
    | int i => exact ⟨.inl i :: qs, by rw [e]; rfl⟩
    | str i => exact ⟨.inr i :: qs, by rw [e]; rfl⟩
    | _ => cases h.1
end
section
variable {X : Cx} {W : WX} {pos : Pos}
/-- a key of a display: a text, a number -/
def JKeys (X : Cx) : List (Option Expr) → List Key → Prop
  | [], [] => True
  | some e :: es, k :: ks => PE X e (tC (kV k)) ∧ JKeys X es ks
  | _, _ => False
/-- the pairs of a display -/
def JVals (X : Cx) (W : WX) : List Expr → List Arg → Prop
  | [], [] => True
  | e :: es, a :: as => JA X W e a ∧ JVals X W es as
  | _, _ => False
theorem pps_of : ∀ {ks : List (Option Expr)} {es : List Expr} {qs : List Key} {as : List Arg}, JKeys X ks qs → JVals X W es as → ks.length = es.length → PPs X pos ks es ((qs.zip as).map fun q => (tC (kV q.1), rArg X.K X.mg W q.2))
  | [], [], [], [], _, _, _ => pps_nil
  | some k :: ks, e :: es, q :: qs, a :: as, h1, h2, hl => pps_cons h1.1 h2.1 (pps_of h1.2 h2.2 (by simpa using hl))
  | [], [], [], _ :: _, _, h, _ => h.elim
  | [], [], _ :: _, _, h, _, _ => h.elim
  | [], _ :: _, _, _, _, _, hl => by simp at hl
  | _ :: _, [], _, _, _, _, hl => by simp at hl
  | none :: _, _ :: _, _, _, h, _, _ => by cases ‹List Key› <;> exact h.elim
  | some _ :: _, _ :: _, [], _, h, _, _ => h.elim
  | some _ :: _, _ :: _, _ :: _, [], _, h, _ => h.elim
theorem tPairs_of {sg : St} : ∀ {qs : List Key} {as : List Arg} {H : Hp} {R : List (V × V) → Hp → Prop}, qs.length = as.length → rAs X.K X.mg W as sg H (fun vs H1 => R ((qs.zip vs).map fun q => (kV q.1, q.2)) H1) →
    tPairs ((qs.zip as).map fun q => (tC (kV q.1), rArg X.K X.mg W q.2)) sg H R
  | [], [], H, R, _, h => rAs_nil h
  | [], _ :: _, _, _, hl, _ => by simp at hl
  | _ :: _, [], _, _, hl, _ => by simp at hl
  | q :: qs, a :: as, H, R, hl, h => by
    show rArg X.K X.mg W a sg H fun y H2 => tPairs _ sg H2 fun ps H3 => R ((kV q, y) :: ps) H3
    refine rArg_mono (fun y H2 h2 => ?_) (rAs_cons h)
    exact tPairs_of (by simpa using hl) (rAs_mono (fun vs H3 h3 => by simpa using h3) h2)
theorem je_dict {keys : List (Option Expr)} {values : List Expr} {qs : List Key} {as : List Arg} (hk : JKeys X keys qs) (hv : JVals X W values as) (hall : keys.all (·.isSome) = true := by rfl) (hl : keys.length = values.length := by rfl) (h0 : keys ≠ [] := by exact List.cons_ne_nil _ _)
    (h15 : keys.length ≤ 15 := by decide) (hqa : qs.length = as.length := by rfl) : JE X W (.Dict keys values pos) (eOp (.e eNewD :: as) (hDict (qs.map kP))) := by
  refine PEimp (pe_disp (pps_of hk hv hl) hall hl h0 h15) fun sg H Q q => ?_
  intro p hp
  have q1 := rE_newD (W := W) hp (rAs_cons (eOp_ok q))
  refine tPairs_of hqa (rAs_mono (fun vs H1 z => ?_) q1)
  obtain ⟨hlen, Z, O, ds, rd, vl, h⟩ := z
  cases ds with
  | nil => simp only [RDs] at rd
  | cons d ds =>
    simp only [RDs] at rd
    obtain ⟨O1, O2, r1, r2, eO⟩ := rd
    unfold hDict at h
    split at h
    · rename_i r fin e1
      split at e1
      · rename_i ds' heq
        cases heq
        split at e1
        · rename_i hc
          obtain ⟨c1, c2, c3, c4⟩ := hc
          cases e1
          simp only [RD] at r1
          obtain ⟨a, us, O', ea, hd, ru, e2⟩ := r1
          cases ea
          have hus : us = [] := by
            cases us with
            | nil => rfl
            | cons _ _ => simp only [RDs] at ru
          subst hus
          simp only [RDs] at ru
          subst ru
          subst e2
          have hH : H1 p = some (.dK []) := by
            rcases hd with ⟨kvs, h1, h2, h3⟩ | ⟨kvs, h1, h2, h3, h4⟩
            · cases kvs with
              | nil => exact h1
              | cons _ _ => cases h2
            · cases kvs with
              | nil => exact (h4 rfl).elim
              | cons _ _ => cases h2
          have hlv : vs.length = qs.length := by rw [r2.length, ← c1, List.length_map]
          refine ⟨hH, qs.zip vs, rfl, ?_, ?_⟩
          · rw [List.length_zip, hlv, Nat.min_self]
            rw [List.length_map] at c2
            exact c2
          · have em : mergeK [] (qs.zip vs) = qs.zip vs := mergeK_nd (by
              rw [List.nil_append, List.map_fst_zip (by omega)]
              exact nodup_of c4)
            rw [em]
            subst eO
            have kp : Kp Z O2 H1 (upd H1 p (.dK (qs.zip vs))) := kp_write (O := O2) vl hH
            refine h (.ref p) Z _ (p :: O2) ?_ (vl.write (O := O2) (o' := .dK (qs.zip vs)) hH (fun _ z => nomatch z) trivial (fun b m => m) (List.nodup_cons.mp vl.nd).2) (Tr.write hH (fun _ z => nomatch z) (fun _ z => nomatch z) (fun b m => m) (by intro _ z; cases z))
            unfold nFin dFin
            simp only [Bool.false_eq_true, if_false]
            refine RDs.one ?_
            simp only [RD]
            refine ⟨p, vs, O2, rfl, .inl ⟨qs.zip vs, upd_same, ?_, ?_⟩, RDs.kp (fun _ z => z) kp r2, rfl⟩
            · rw [show (fun q : Key × V => kP q.1) = kP ∘ Prod.fst from rfl, ← List.map_map, List.map_fst_zip (by omega)]
            · exact (List.map_snd_zip (by omega)).symm
        · cases e1
      · cases e1
    · rename_i x1 f e1
      split at e1
      · split at e1 <;> cases e1
      · cases e1
    · exact h.elim
end
end Z
set_option Elab.async false
set_option linter.all false
set_option maxRecDepth 100000
namespace Z
open PySem L2
/-- the module's name x stands for the tree y -/
def GT (K : PySem.W.Frag) (mg : Str → Option Value) (x : Str) (y : P) : Prop := ∃ v u, mg x = some u ∧ L2.RelV v u ∧ ∀ Z H, RP K mg Z H v y
theorem gT {X : Cx} {x : Str} {y : P} {pos : Pos} (h : GT X.K X.mg x y) (hg : Gl X x := by rfl) (hd : (x == ("__debug__" : Str)) = false := by decide) : JF X (.Name x pos) [] (gC y) := by
  obtain ⟨v, u, hm, r, hv⟩ := h
  exact jf_glob hg hm r hv hd
section
variable {X : Cx} {W : WX} {tg a b : Expr} {p pos : Pos} {x y : Arg}
theorem sr1 (hm : X.mg "range" = none) (ha : JAs X W [a] [x]) (hg : Gl X "range" := by rfl) (hs : starEach [a] X.env = [(false, eval a X.env)] := by rfl) : JI X W tg (.Call (.Name "range" p) [a] [] pos) (oRg [x]) := ji_rg1 hg hm ha hs
theorem sr2 (hm : X.mg "range" = none) (ha : JAs X W [a, b] [x, y]) (hg : Gl X "range" := by rfl) (hs : starEach [a, b] X.env = [(false, eval a X.env), (false, eval b X.env)] := by rfl) (hs2 : starEach [b] X.env = [(false, eval b X.env)] := by rfl) : JI X W tg (.Call (.Name "range" p) [a, b] [] pos) (oRg [x, y]) := ji_rg2 hg hm ha hs hs2
end
end Z
set_option Elab.async false
set_option linter.all false
set_option maxRecDepth 100000
set_option maxHeartbeats 1000000
namespace Z
open PySem PySem.Spec L2
theorem okf0 {P : Program} {w : World} {K : PySem.W.Frag} {mg : Str → Option Value} {base : Heap} {x : Str} {st : Stmt} {N ps : List Str} {k n : Nat} {m : Bool} (D : Dt K mg x st) (S : FnScope N ps (defScope st)) (hp : ps.length = n)
    (hbind : ∀ (kV doc pm : Value) (an : Option Addr) (cdv ct : Value) (us : List Value), us.length = ps.length → bindArgs (PySem.W.fnOf x x (defArgs st) (defBody st) (defScope st) .none kV doc pm an cdv ct) ⟨us, []⟩ = pure (ps.zip us)) :
    OkF P w K mg base x n (k + 1) m (fun _ => .stuck) := by
  obtain ⟨f, fd, F, g⟩ := D
  refine ⟨f, fd, ps, F.ok S (fun vs H Q E h => by rw [hp]; exact h.1) fun cdv A outer st H vs Q E hr h => ?_, g, F.kp, F.bindsN hbind⟩
  obtain ⟨_, _, _, _, _, _, h⟩ := h
  exact h.elim
/-- what an error's own __init__ does: its fields fs are stored, from the left -/
def spInit (C : Addr) (fs : List Str) : Sp := fun vs H Q _ => ∃ (a : Addr) (us : List V), vs = .ref a :: us ∧ us.length = fs.length ∧ H a = some (exo a C none) ∧
  ∀ d H2, H d = none → d ≠ a → H2 a = some (exo a C (some d)) → H2 d = some (exd d (fs.zip us).reverse) → (∀ b, b ≠ a → b ≠ d → H2 b = H b) → Q .non H2
/-- the class x of errors, its own __init__ keeps its fields -/
def XO (P : Program) (w : World) (K : PySem.W.Frag) (mg : Str → Option Value) (base : Heap) (x : Str) (fs : List Str) : Prop :=
  ∃ C fI fd ps, mg x = some (.ref C) ∧ OexC K C ∧ PySem.W.findIn K (.ref C) "__init__" = some (some (.ref fI)) ∧ PySem.W.typeIn K (.ref fI) = some (.type "function") ∧ FnOk P w K mg base (L2N.CX P w) 1 fI fd ps (spInit C fs) ∧ Binds K fd ps []
section
variable {X : Cx} {x : Str} {Cc fI : Addr} {k : Nat} {fd : FuncData} {ps : List Str} {fs : List Str} {p pos : Pos} {e : Expr} {es : List Expr} {ta : TA}
/-- an error of one's own class is made where no error is handled: its context is None -/
theorem pmk_n (T : OexC X.K Cc) (iC : PySem.W.findIn X.K (.ref Cc) "__init__" = some (some (.ref fI))) (tI : PySem.W.typeIn X.K (.ref fI) = some (.type "function")) (F : FnOk X.prog X.w X.K X.mg X.base (L2N.CX X.prog X.w) k fI fd ps (spInit Cc fs))
    (hr : Room (k + 1) X.A) (hb : Binds X.K fd ps []) (tk : ∀ pins σ H s e s', L2.Inv X pins σ H s → L2N.CX X.prog X.w X.stack H s (fun _ _ _ => False) e s' → X.xe e s') (hg : Gl X x) (hm : X.mg x = some (.ref Cc)) (ha : PA X (e :: es) ta)
    (hdb : (x == ("__debug__" : Str)) = false) (he : starEach (e :: es) X.env = (false, eval e X.env) :: starEach es X.env) (hpl : (backTo pos (starEach es X.env)).any (·.1) = false) :
    L2N.PMk X (.Call (.Name x p) (e :: es) [] pos) (tMkO Cc (spInit Cc fs) [] ta) := by
  intro pins s0 sg H Q I hq
  obtain ⟨_, _, _, _, bm, _, _, _, _, _, _, _, _, _, _, look, base⟩ := T.cls
  refine wpAny_Call_Name_kw (ld_glob I hg hm ?_ hdb)
  refine PySem.W.callWith_K (h₀ := X.base) I.ok.mod.kin T.kC ?_ he hpl
  refine thn (ha.run pos pins s0 sg H _ I hq) fun us s1 hs1 => ?_
  obtain ⟨vs, H1, I1, rv, few, mk⟩ := hs1
  refine ⟨I1.kIn, ?_⟩
  show wpAny _ _ (call (.ref Cc) us) _ _ _
  obtain ⟨hp0, gn, dr, tks, os⟩ := s1
  -- the new error stands behind its tuple of arguments
  generalize ed0 : hp0.objs.size = n0
  have up : n0 ≤ n0 + 1 := Nat.le_succ _
  have free1 : H1 (n0 + 1) = none := I1.hok.fresh (by rw [← ed0]; exact Nat.le_succ _)
  have told := mk (n0 + 1) free1
  rw [List.append_nil] at told
  let hp1 : Heap := (hp0.push (PySem.W.kdv_tup us)).push (PySem.HandSPX.excO Cc n0)
  have old : ∀ b o, hp0.get? b = some o → hp1.get? b = some o := fun b o q => Heap.get?_push_of_some _ (Heap.get?_push_of_some _ q)
  have there : hp1.get? (n0 + 1) = some (PySem.HandSPX.excO Cc n0) := by
    subst ed0
    show ((hp0.push (PySem.W.kdv_tup us)).push (PySem.HandSPX.excO Cc hp0.objs.size)).get? _ = _
    heap_get
  have J1 : L2.Inv X pins sg (upd H1 (n0 + 1) (exo (n0 + 1) Cc none)) ⟨hp1, gn, dr, tks, os⟩ :=
    I1.laid (t' := tks) (a := n0 + 1) (o := exo (n0 + 1) Cc none) (h' := hp1) old (by rw [← ed0]; exact Nat.le_succ _) (exo_ok there)
  have rv1 : Vals (V.ref (n0 + 1) :: vs) (Value.ref (n0 + 1) :: us) := .cons rfl rv
  have lens : (Value.ref (n0 + 1) :: us).length = ps.length := by
    have q := rv1.length
    rw [F.len _ _ _ _ told] at q
    exact q.symm
  have bound := hb ⟨hp1, gn, dr, tks, os⟩ (Value.ref (n0 + 1) :: us) J1.kIn (by rw [List.append_nil]; exact lens)
  rw [List.append_nil] at bound
  have line : us.length ≤ sizeLine := by
    rw [← rv.length, sizeLine_eq]
    exact Nat.le_trans few (by decide)
  have runs := F.run (X.A.under (.builtin "type.__call__" ⟨.ref Cc :: us, []⟩)) X.stack ⟨hp1, gn, dr, tks, os⟩ _ ⟨Value.ref (n0 + 1) :: us, []⟩ _ _ _ (fun _ _ _ => False) (hr.make Cc us []) (J1.env0.make Cc us []) bound rv1 told
  subst ed0
  refine wpAny_call (PySem.HandSPX.call_own PySem.F.excBase_ValueError (fun Y => PySem.HandSPX.refsVE_contains Y bm base) (I1.kIn _ _ look) (PySem.W.looks_findIn I1.kIn iC) (fun self => PySem.W.bind_fn I1.kIn self tI) line (codeAny_mono runs ?_))
  intro r s2 out
  cases r with
  | error er => exact tk pins sg _ _ er s2 J1 out
  | ok fl =>
    cases fl with
    | ret u =>
      obtain ⟨v, H2, same, bare2, un2, ok2, rv2, ev, dd, gs, e1, e2, e3, fin⟩ := out
      subst ev
      obtain ⟨hp2, gn2, dr2, tk2, os2⟩ := s2
      obtain ⟨t0, G, J, kG, g1, g2, g3⟩ := mk_end0 (d2 := dr2) (t2 := tk2) I1 up old un2 ok2 same bare2 e1 e2 e3
      exact ⟨rv2, _, _, _, ⟨G, gn2, dr2, tk2, os2⟩, _, .ref Cc, some dd, rfl, J, kG, g1, g2, ⟨rfl, rfl, fun ws hw => by cases hw; rfl⟩, rfl, rfl, g3, rfl, bare2, raises_own T.exC T.tyC, fin⟩
    | next => exact out.elim
    | brk => exact out.elim
    | cont => exact out.elim
end
section
variable {X : Cx} {W : WX} {k : Nat} {x : Str} {fs : List Str} {p pos pos' : Pos} {e : Expr} {es : List Expr} {as : List Arg}
theorem js_raise (C : Cz X W k) (E : XO X.prog X.w X.K X.mg X.base x fs) (ha : JAs X W (e :: es) as) (hk : 2 ≤ k := by first | decide | omega) (hn : as.length = fs.length := by rfl) (h1000 : fs.length ≤ 1000 := by decide) (hg : Gl X x := by rfl)
    (hdb : (x == ("__debug__" : Str)) = false := by decide) (he : starEach (e :: es) X.env = (false, eval e X.env) :: starEach es X.env := by rfl) (hpl : (backTo pos (starEach es X.env)).any (·.1) = false := by rfl) :
    JS X W (.Raise (some (.Call (.Name x p) (e :: es) [] pos)) none pos') (sRaise x fs as) := by
  obtain ⟨Cc, fI, fd, ps, hm, T, iC, tI, F, hb⟩ := E
  refine PSimp (L2N.ps_raise C.calm C.tk (pmk_n T iC tI F (C.hr.mono hk) hb (fun pins σ H s e s' I c => L2N.passes_call (E := fun _ _ _ => False) C.tk (fun _ _ _ _ h => h.elim) pins σ H s e s' I c) hg hm ha hdb he hpl)) fun N sg H q => ?_
  obtain ⟨env, ph, Z, O, A, q⟩ := q
  refine ⟨env, ph, Z, O, A, ?_⟩
  unfold sRaise at q
  cases e1 : args1 as env with
  | stuck => rw [e1] at q; exact q.elim
  | exc y env' => rw [e1] at q; exact Fin.xc q
  | ok os env' =>
    rw [e1] at q
    simp only at q
    intro vs H1 Z1 O1 Ot r1 ra v1 t1
    have hl := ra.len
    cases e2 : args2 env' as os with
    | none => rw [e2] at q; exact q.elim
    | some ds =>
      rw [e2] at q
      have A1 : At X.K X.mg ph Z1 H1 sg env' O1 := ⟨r1, v1.left⟩
      obtain ⟨Ob, O2, pp, rf, nb, hv⟩ := A1.freezes (as := as)
      have hz : ∀ a, Z1 a → plusZ Z1 Ob a := fun a q => .inl q
      have rds : RDs X.K X.mg (plusZ Z1 Ob) H1 vs ds Ot := RAs.go (as0 := as) (fun i d u hd hu m => hv i d u m hd hu) (fun a m => m) hz ra e2
      have vall : Vld (plusZ Z1 Ob) H1 (O2 ++ Ot) := v1.part (pp.append_right Ot |>.trans (by rw [List.append_assoc]))
      -- all that goes into the error is sealed
      have rps : RPs X.K X.mg (plusZ (plusZ Z1 Ob) Ot) H1 vs (vws ds) := rds.seal
      have v2 : Vld (plusZ (plusZ Z1 Ob) Ot) H1 O2 := vall.part List.perm_append_comm
      have A2 : At X.K X.mg ph (plusZ (plusZ Z1 Ob) Ot) H1 sg (freezes env' as) O2 := ⟨rf.mono fun a q => .inl q, v2⟩
      have pO : (O1 ++ Ot).Perm ((Ob ++ O2) ++ Ot) := pp.append_right Ot
      have t2 : Tr Z H O (plusZ (plusZ Z1 Ob) Ot) H1 O2 := by
        have t := t1.perm (List.Perm.refl _) pO
        refine ⟨fun a q => .inl (.inl (t.z1 a q)), fun a q => ?_, fun a m => t.o1 a (List.mem_append_left _ (List.mem_append_right _ m)), t.kp, t.nn, t.tb⟩
        rcases q with (q | q) | q
        · exact t.z2 a q
        · exact .inr (t.o1 a (List.mem_append_left _ (List.mem_append_left _ q)))
        · exact .inr (t.o1 a (List.mem_append_right _ q))
      refine ⟨by rw [hl, hn]; exact h1000, fun a ha1 => ?_⟩
      rw [List.append_nil]
      refine ⟨a, vs, rfl, by rw [hl, hn], upd_same, fun d H2 hd hda h2a h2d hother => ?_⟩
      rw [upd_ne hda] at hd
      refine ⟨rfl, d, _, h2a, h2d, hd, ?_⟩
      have eH : upd (del H2 a) d (.xd (fs.zip vs).reverse) = upd H1 d (.xd (fs.zip vs).reverse) := by
        funext b
        by_cases h1 : b = d
        · subst h1; rw [upd_same, upd_same]
        · rw [upd_ne h1, upd_ne h1]
          by_cases h2 : b = a
          · subst h2; rw [del_same, ha1]
          · rw [del_ne h2, hother b h2 h1, upd_ne h2]
      rw [eH]
      have gr : Grow (plusZ (plusZ Z1 Ob) Ot) H1 (plusZ (plusZ (plusZ Z1 Ob) Ot) [d]) (upd H1 d (.xd (fs.zip vs).reverse)) := Grow.newZ hd (by intro _ z; cases z)
      exact q sg _ _ _ _ O2 (A2.grow gr) (t2.trans gr.Tr) ⟨Cc, d, vs, hm, rfl, rfl, .inr (by simp), upd_same, by rw [hl, hn], rps.grow gr⟩
end
section
variable {P : Program} {w : World} {K : PySem.W.Frag} {mg : Str → Option Value} {base : Heap} {x qual f g : Str} {C fI : Addr} {fd : FuncData} {pa : Arguments} {sc : Scope}
theorem init1 {x1 : Str} {q1 q2 q3 q4 : Pos} (F : FunD K "__init__" qual pa [.Assign [.Attribute (.Name "self" q1) f q2] (.Name x1 q3) q4] sc [] [] fI fd) (S : FnScope ["self", x1] ["self", x1] sc) (T : OexC K C) (hno : PySem.W.findIn K (.ref C) f = some none)
    (hv0 : Vis sc "self") (hv1 : Vis sc x1) (hd : (x1 == ("__debug__" : Str)) = false) (hcd : (x1 == ("__classdict__" : Str)) = false) : FnOk P w K mg base (L2N.CX P w) 1 fI fd ["self", x1] (spInit C [f]) := by
  refine F.ok S (fun vs H Q E h => ?_) fun cdv A outer s H vs Q E hr h => ?_
  · obtain ⟨a, us, e, l, _⟩ := h
    rw [e, List.length_cons, l]; rfl
  · obtain ⟨a, us, e, l, ha, hq⟩ := h
    match us, l with
    | [u], _ =>
      subst e
      refine ⟨_, pss_one (ps_ost (pe_var (i := 0) rfl hv0) (pe_var (i := 1) rfl hv1 hd hcd)), ?_⟩
      refine ⟨u, rfl, .ref a, rfl, a, C, rfl, T, hno, .inl ⟨ha, fun dx hdx hne => ?_⟩⟩
      exact hq dx _ hdx hne upd_same (by rw [upd_ne hne, upd_same]; rfl) fun b h1 h2 => by rw [upd_ne h1, upd_ne h2]
theorem init2 {x1 x2 : Str} {q1 q2 q3 q4 r1 r2 r3 r4 : Pos} (F : FunD K "__init__" qual pa [.Assign [.Attribute (.Name "self" q1) f q2] (.Name x1 q3) q4, .Assign [.Attribute (.Name "self" r1) g r2] (.Name x2 r3) r4] sc [] [] fI fd)
    (S : FnScope ["self", x1, x2] ["self", x1, x2] sc) (T : OexC K C) (hno : PySem.W.findIn K (.ref C) f = some none) (hno2 : PySem.W.findIn K (.ref C) g = some none)
    (hv0 : Vis sc "self") (hv1 : Vis sc x1) (hv2 : Vis sc x2) (hd : (x1 == ("__debug__" : Str)) = false) (hcd : (x1 == ("__classdict__" : Str)) = false) (hd2 : (x2 == ("__debug__" : Str)) = false) (hcd2 : (x2 == ("__classdict__" : Str)) = false) :
    FnOk P w K mg base (L2N.CX P w) 1 fI fd ["self", x1, x2] (spInit C [f, g]) := by
  refine F.ok S (fun vs H Q E h => ?_) fun cdv A outer s H vs Q E hr h => ?_
  · obtain ⟨a, us, e, l, _⟩ := h
    rw [e, List.length_cons, l]; rfl
  · obtain ⟨a, us, e, l, ha, hq⟩ := h
    match us, l with
    | [u, v], _ =>
      subst e
      refine ⟨_, pss_cons (ps_ost (pe_var (i := 0) rfl hv0) (pe_var (i := 1) rfl hv1 hd hcd)) (pss_one (ps_ost (pe_var (i := 0) rfl hv0) (pe_var (i := 2) rfl hv2 hd2 hcd2))), ?_⟩
      refine ⟨u, rfl, .ref a, rfl, a, C, rfl, T, hno, .inl ⟨ha, fun dx hdx hne => ?_⟩⟩
      refine ⟨v, rfl, .ref a, rfl, a, C, rfl, T, hno2, .inr ⟨dx, [(f, u)], upd_same, by rw [upd_ne hne, upd_same], by simp, ?_⟩⟩
      refine hq dx _ hdx hne (by rw [upd_ne (Ne.symm hne), upd_same]) (by rw [upd_same]; rfl) fun b h1 h2 => by rw [upd_ne h2, upd_ne h1, upd_ne h2]
end
end Z
set_option Elab.async false
set_option linter.all false
set_option maxRecDepth 100000
set_option maxHeartbeats 1000000
namespace Z
open PySem PySem.Spec PySem.Calls PySem.W PyProof.Rows
section
variable {prog : Program} {w : World} {A : Around} {E : Value → Shared → Prop} {K : Frag} {x D : Addr} {ox : Obj} {od : Option Obj}
/-- an error's __class__, its dict whatever it is -/
theorem class_of {Q : Option Value → Shared → Prop} (c : L2.ExcC K D) : ∀ (s : Shared), K.In s.heap → PySem.W.InstAt s.heap x ox D od → Q (some (.ref D)) { s with toks := s.toks + 1 } → wpAny (model prog w) A (getAttr? (.ref x) "__class__") Q E s := by
  rintro ⟨hp, g, d, t, os⟩ X I h
  obtain ⟨cd, hcd, _⟩ := any_some c.hd
  have found : findObj K D od "__class__" = some (.bind (.builtin "getset_descriptor.__get__") (.builtin "object.__class__")) := by
    unfold findObj
    rw [hcd, Option.bind_some, c.ha, Option.bind_some]
    simp [c.hn, c.ht]
  have T0 := I.type (M := model prog w)
  have T1 := looks_findIn (M := model prog w) X c.hg
  have T2 := looks_findIn (M := model prog w) X c.hk
  have T3 := looks_find (M := model prog w) X I found
  have isX : Looks (model prog w) hp (isInstance (.ref x) (.type "BaseException")) true := T0.andThen (looks_subIn X c.hs)
  have n1 : (Value.builtin "BaseException.__getattribute__" == Value.builtin "object.__getattribute__") = false := by decide +kernel
  have n2 : (onTheHeap (Value.ref D) && Value.builtin "BaseException.__getattribute__" == Value.builtin "object.__getattribute__") = false := by rw [n1, Bool.and_false]
  have n3 : (false && onTheHeap (Value.builtin "BaseException.__getattribute__")) = false := Bool.false_and _
  unfold getAttr?
  unfold getAttrBy?
  unfold getAttrBy
  refine wpAny_bind (wpAny_mkText ?_)
  refine wpAny_bind (wpAny_attempt ?_)
  refine wpAny_holding (wpAny_bind ?_)
  refine T0.at (wpAny_bind (T1.at ?_))
  show wpAny _ _ (if (onTheHeap (Value.ref D) && Value.builtin "BaseException.__getattribute__" == Value.builtin "object.__getattribute__") = true then _ else _) _ _ _
  rw [n2]
  rw [if_neg Bool.false_ne_true]
  unfold getAttrByItsOwn
  unfold hookBefore
  refine wpAny_bind ?_
  rw [show onTheHeap (Value.ref D) = true from rfl]
  rw [if_pos rfl]
  refine T2.at (wpAny_bind ?_)
  refine wpAny_attempt (wpAny_holding ?_)
  unfold callGetattribute
  rw [n3]
  rw [if_neg Bool.false_ne_true]
  unfold boundAndCalled
  rw [PySem.F.excAttr_ValueError.ga.bind (.ref x)]
  refine wpAny_bind (wpAny_pure ?_)
  show wpAny _ _ (call (.builtin "BaseException.__getattribute__") [.ref x, .str "__class__" t]) _ _ _
  refine wpAny_call ?_
  refine codeAny_call_builtin PySem.F.excAttr_ValueError.ga.plain PySem.F.entry_bexc_ga ?_
  refine @check_slot (model prog w) _ _ ⟨hp, g, d, t + 1, os⟩ "BaseException.__getattribute__" "BaseException" "__getattribute__" (.ref x) [.str "__class__" t] [] _ (by decide +kernel) (by decide +kernel) isX (PySem.F.args_bexc_ga (.ref x) (.str "__class__" t)) ?_
  unfold Builtin.«object.__getattribute__»
  refine wpAny_bind (wpAny_of_eq (a := ((Value.ref x : Value), [Value.str "__class__" t])) (by first | rfl | (simp only [slotArgs]; rfl)) ?_)
  refine wpAny_bind (wpAny_pure ?_)
  refine wpAny_bind (T0.at (wpAny_bind (T3.at ?_)))
  show wpAny _ _ (holding [Value.builtin "object.__class__"] (call (.builtin "getset_descriptor.__get__") [.builtin "object.__class__", .ref x, .ref D]) >>= ret) _ _ _
  refine wpAny_bind (wpAny_holding (wpAny_call ?_))
  refine class_get (s := ⟨hp, g, d, t + 1, os⟩) (ox := ox) (od := od) X I c.hm ?_
  refine wpAny_pure ?_
  show wpAny _ _ (handedOut (.ref D)) _ _ _
  rw [handedOut_of (v := .ref D) rfl]
  first
    | exact wpAny_pure (wpAny_pure h)
    | exact wpAny_pure h
    | exact wpAny_pure (wpAny_bind (wpAny_pure (wpAny_pure h)))
theorem kitx_d (c : L2.ExcC K D) : KitX K (.ref x) (.ref D) (fun h => PySem.W.InstAt h x ox D od) := by
  obtain ⟨cd, hcd, _⟩ := any_some c.hd
  have obj : ∃ c' d' sl', K.lookup D = some ⟨c', d', .cls cd, sl'⟩ := by
    unfold clsIn at hcd
    split at hcd
    · rename_i c' d' cd' sl' ho
      cases hcd
      exact ⟨_, _, _, ho⟩
    · cases hcd
  obtain ⟨c', d', sl', ho⟩ := obj
  refine ⟨fun _ _ _ I => I.type, fun M h X _ A' Q' E' s' k q => ?_, fun h tp dd its n sl X htp => ?_, fun X I k => class_of c _ X I k⟩
  · unfold isType loadHead
    exact wpAny_bind (wpAny_loadPart (k _ _ (X _ _ ho)) (wpAny_pure q))
  · refine Bool.eq_false_iff.mpr fun q => ?_
    have e : D = tp := Value.ref.inj (beq_iff_eq.mp q)
    subst e
    rw [X _ _ ho] at htp
    cases htp
end
end Z
set_option Elab.async false
set_option linter.all false
set_option maxRecDepth 100000
set_option maxHeartbeats 1000000
namespace Z
open PySem L2
/-- the context of an except suite that holds the error at a (its dict at d, its class at c), of a def that is called there -/
structure HX (X : Cx) (a d c k : Nat) : Prop where
  pin : ∃ oe vs, (a, oe) ∈ X.pn ∧ L2N.Zn (.ref c) (some d) oe ∧ oe.data = .fields vs
  hh : X.A.handled = some (.ref a)
  hr : L2H.RoomH k X.A
theorem HX.ru {X : Cx} {a d c k : Nat} (h : HX X a d c k) : RU X.A := ⟨by have := h.hr.un; omega⟩
theorem HX.hot {X : Cx} {a d c k : Nat} (h : HX X a d c k) : L2H.HotC X := by
  obtain ⟨oe, vs, m, z, hd⟩ := h.pin
  exact ⟨(a, oe), ⟨h.hh, vs, hd, z.2.2 vs hd⟩, m⟩
/-- what the classes say of each other: tab t C, is a C a t -/
def IsTab (K : PySem.W.Frag) (mg : Str → Option Value) (tab : Str → Str → Option Bool) : Prop := ∀ t C b, tab t C = some b → ∀ cc, mg C = some (.ref cc) →
  ExcC K cc ∧ (∀ tt, mg t = some (.ref tt) → PySem.W.kitOne K (.ref cc) (.ref tt) = some b) ∧ (t = "ValueError" → PySem.W.kitOne K (.ref cc) (.type "ValueError") = some b)
/-- isinstance(e, T), e the error at a -/
def bIsE (a d c : Nat) (tab : Str → Str → Option Bool) : List P → Option P
  | [.exc a' d' c' C _ _, .cls t] => if a' = a ∧ d' = d ∧ c' = c then (tab t C).map .bl else none
  | [.exc a' d' c' C _ _, .ty n] => if a' = a ∧ d' = d ∧ c' = c ∧ n = "ValueError" then (tab "ValueError" C).map .bl else none
  | _ => none
def lkP (f : Str) : List (Str × P) → Option P
  | [] => none
  | q :: r => if f = q.1 then some q.2 else lkP f r
/-- e.f -/
def pXf (a d c : Nat) (fld : Str → Str → Bool) (f : Str) : P → Option P
  | .exc a' d' c' C fs vs => if a' = a ∧ d' = d ∧ c' = c ∧ fld C f = true then lkP f (fs.zip vs).reverse else none
  | _ => none
def XfTab (K : PySem.W.Frag) (mg : Str → Option Value) (fld : Str → Str → Bool) : Prop := ∀ C f, fld C f = true → ∀ cc, mg C = some (.ref cc) → XfC K cc ∧ PySem.W.findIn K (.ref cc) f = some none
section
variable {X : Cx} {W : WX} {a d c k : Nat} {tab : Str → Str → Option Bool} {fld : Str → Str → Bool} {is : List Nat} {g : VF} {pos : Pos} {e : Expr} {f : Str}
theorem cv_isE (hx : HX X a d c k) (T : IsTab X.K X.mg tab) : CallV X (.builtin "isinstance") (bIsE a d c tab) := by
  intro pins s sg H xs us Q I r ⟨Z, as, y, ra, er, q⟩
  have go : ∀ {C : Str} {fs : List Str} {vs : List P} {t : P} {cv : Value} {b : Bool}, as = [.exc a d c C fs vs, t] → y = .bl b → (∀ v, RP X.K X.mg Z H v t → ClsV v cv) → (∀ cc, X.mg C = some (.ref cc) → ExcC X.K cc ∧ PySem.W.kitOne X.K (.ref cc) cv = some b) →
      wpAny (model X.prog X.w) X.A (call (.builtin "isinstance") us) (EP X pins sg Q) X.xe s := fun {C fs vs t cv b} ea ey hv hk => by
    subst ea; subst ey
    obtain ⟨w1, w2, ew, r1, r2⟩ := rps2 ra
    subst ew
    simp only [RP] at r1
    obtain ⟨us1, e1, hC, z, hd, hl, _⟩ := r1
    subst e1
    obtain ⟨u1, u2, rfl, q1, q2⟩ := vals2 r
    obtain rfl : u1 = Value.ref a := q1
    have e2 := (hv w2 r2).eq q2
    subst e2
    obtain ⟨oe, ws, m, zz, dd⟩ := hx.pin
    obtain ⟨hc, kk⟩ := hk c hC
    obtain ⟨hget, _⟩ := I.pin (a, oe) (List.mem_append_left _ m)
    have hob : ObjOk X.prog X.w H s.heap d (.xd (fs.zip us1).reverse) := I.hok d _ hd
    obtain ⟨mA, hns, hrel⟩ := hob
    obtain ⟨od, ho, hlk⟩ := lookIn_ns hns
    have J : PySem.W.InstAt s.heap a oe c (some od) := ⟨hget, zz.1, by unfold PySem.W.notCls; rw [dd] <;> rfl, by rw [zz.2.1]; exact ho⟩
    exact PySem.W.kia_one (kitx_d hc) I.kIn J kk (fun z => nomatch z) fun tk => ⟨.bl b, H, I.kept (t' := tk) fun _ _ z => z, rfl, got_p q (by simp only [RP])⟩
  unfold bIsE at er
  split at er
  · rename_i a' d' c' C fs vs t
    split at er
    · rename_i hc
      obtain ⟨h1, h2, h3⟩ := hc
      subst h1; subst h2; subst h3
      cases et : tab t C with
      | none => rw [et] at er; cases er
      | some b =>
        rw [et] at er
        cases er
        obtain ⟨w1, w2, ew, r1, r2⟩ := rps2 ra
        simp only [RP] at r2
        obtain ⟨tt, ht, _⟩ := r2
        exact go rfl rfl (cv := .ref tt) (fun v hv => by
          simp only [RP] at hv
          obtain ⟨t2, h5, e5⟩ := hv
          rw [ht] at h5
          cases h5
          rw [e5]; exact .own tt) fun cc hcc => ⟨(T _ _ _ et cc hcc).1, (T _ _ _ et cc hcc).2.1 tt ht⟩
    · cases er
  · rename_i a' d' c' C fs vs n
    split at er
    · rename_i hc
      obtain ⟨h1, h2, h3, h4⟩ := hc
      subst h1; subst h2; subst h3; subst h4
      cases et : tab "ValueError" C with
      | none => rw [et] at er; cases er
      | some b =>
        rw [et] at er
        cases er
        exact go rfl rfl (cv := .type "ValueError") (fun v hv => by
          simp only [RP] at hv
          rw [hv]; exact .ty _) fun cc hcc => ⟨(T _ _ _ et cc hcc).1, (T _ _ _ et cc hcc).2.2 rfl⟩
    · cases er
  · cases er
theorem lkP_ok {K : PySem.W.Frag} {mg : Str → Option Value} {Z : Zs} {H : Hp} : ∀ {ps : List (Str × P)} {qs : List (Str × V)} {x : P}, Paired (fun p q => p.1 = q.1 ∧ RP K mg Z H q.2 p.2) ps qs → lkP f ps = some x → ∃ v, qs.lookup f = some v ∧ RP K mg Z H v x
  | _, _, _, .nil, e => by cases e
  | p :: ps, q :: qs, x, .cons h t, e => by
    unfold lkP at e
    obtain ⟨h1, h2⟩ := h
    by_cases hf : f = p.1
    · rw [if_pos hf] at e
      cases e
      refine ⟨q.2, ?_, h2⟩
      rw [List.lookup_cons]
      have : (f == q.1) = true := by rw [hf, h1]; simp
      rw [this]
    · rw [if_neg hf] at e
      obtain ⟨v, e1, e2⟩ := lkP_ok t e
      refine ⟨v, ?_, e2⟩
      rw [List.lookup_cons]
      have : (f == q.1) = false := by
        rw [← h1]
        exact beq_eq_false_iff_ne.mpr hf
      rw [this]
      exact e1
theorem paired_zip {K : PySem.W.Frag} {mg : Str → Option Value} {Z : Zs} {H : Hp} : ∀ {fs : List Str} {us : List V} {vs : List P}, RPs K mg Z H us vs → Paired (fun (p : Str × P) (q : Str × V) => p.1 = q.1 ∧ RP K mg Z H q.2 p.2) (fs.zip vs) (fs.zip us)
  | [], _, _, _ => by simp only [List.zip_nil_left]; exact .nil
  | _ :: _, [], [], _ => by simp only [List.zip_nil_right]; exact .nil
  | _ :: _, [], _ :: _, h => by simp only [RPs] at h
  | _ :: _, _ :: _, [], h => by simp only [RPs] at h
  | f :: fs, u :: us, v :: vs, h => by
    simp only [RPs] at h
    exact .cons ⟨rfl, h.1⟩ (paired_zip h.2)
theorem paired_rev {α β : Type} {R : α → β → Prop} : ∀ {xs : List α} {ys : List β}, Paired R xs ys → Paired R xs.reverse ys.reverse
  | _, _, .nil => .nil
  | _ :: _, _ :: _, .cons h t => by
    rw [List.reverse_cons, List.reverse_cons]
    exact app (paired_rev t) (.cons h .nil)
where
  app {α β : Type} {R : α → β → Prop} : ∀ {xs zs : List α} {ys ws : List β}, Paired R xs ys → Paired R zs ws → Paired R (xs ++ zs) (ys ++ ws)
  | _, _, _, _, .nil, h => h
  | _ :: _, _, _ :: _, _, .cons h t, h2 => .cons h (app t h2)
theorem jf_xf (hx : HX X a d c k) (T : XfTab X.K X.mg fld) (he : JF X e is g) (hb : attributeBase e f X.env (eval e X.env) = eval e X.env := by rfl) : JF X (.Attribute e f pos) is (g1 (pXf a d c fld f) g) := by
  refine ⟨⟨fun pins s sg H Q I q => ?_⟩, g1_inv he.inv⟩
  refine attr_of hb (thn (he.run.run pins s sg H _ I (rV_1 q)) fun u s1 hh => ?_)
  obtain ⟨x, H1, I1, rx, Z, y, r, rp, er, got⟩ := hh
  unfold pXf at er
  split at er
  · rename_i a' d' c' C fs vs
    split at er
    · rename_i hc
      obtain ⟨h1, h2, h3, h4⟩ := hc
      subst h1; subst h2; subst h3
      simp only [RP] at rp
      obtain ⟨us, ex, hC, hz, hd, hl, rs⟩ := rp
      subst ex
      obtain rfl : u = Value.ref a' := rx
      obtain ⟨v, hv, rv⟩ := lkP_ok (paired_rev (paired_zip rs)) er
      obtain ⟨Xf, hno⟩ := T C f h4 c' hC
      obtain ⟨oe, ws, m, zz, dd⟩ := hx.pin
      obtain ⟨hget, _⟩ := I1.pin (a', oe) (List.mem_append_left _ m)
      have hob : ObjOk X.prog X.w H1 s1.heap d' (.xd (fs.zip us).reverse) := I1.hok d' _ hd
      obtain ⟨mA, hns, hrel⟩ := hob
      obtain ⟨od, ho, hlk⟩ := lookIn_ns hns
      have hf := hrel f
      rw [hv] at hf
      obtain ⟨w, hw, rw_⟩ := RelO.some_of (v := v) (o := mA f) hf
      have J : PySem.W.InstAt s1.heap a' oe c' (some od) := ⟨hget, zz.1, by unfold PySem.W.notCls; rw [dd] <;> rfl, by rw [zz.2.1]; exact ho⟩
      exact PySem.HandSPX.exc_get I1.kIn J Xf.ga Xf.gg Xf.exC (PySem.W.findObj_own Xf.hdC hno rfl (by rw [hlk, hw])) (handed_of rw_) ⟨v, H1, I1.tok _, rw_, got_p got rv⟩
    · cases er
  · cases er
end
end Z
set_option Elab.async false
set_option linter.all false
set_option maxRecDepth 100000
set_option maxHeartbeats 1000000
namespace Z
open PySem PySem.Spec PyProof.Rows L2
open L2H (RoomH Hot1 PinOk cxH inv_startH)
/-- what a def does where the error p is handled -/
structure FnE (P : Program) (w : World) (K : PySem.W.Frag) (mg : Str → Option Value) (base : Heap) (p : Addr × Obj) (k : Nat) (f : Addr) (fd : FuncData) (ps : List Str) (sp : Sp) : Prop where
  len : ∀ vs H Q E, sp vs H Q E → vs.length = ps.length
  run : ∀ {A : Around} {outer : List PySem.Env} {sh : Shared} {H : Hp} {args : Args} {us : List Value} {vs : List V} {Q : VK} {E : XK}, RoomH k A → Hot1 A p → PinOk outer H sh p → Env0 P w K mg base A outer sh H →
    BindsTo sh fd args (ps.zip us) → Vals vs us → sp vs H Q E → codeAny (model P w) A (.call (.ref f) args) (CR (L2N.CX P w) outer P w H sh Q E) sh
section
variable {P : Program} {w : World} {K : PySem.W.Frag} {mg : Str → Option Value} {base : Heap} {p : Addr × Obj} {k : Nat} {f : Addr} {fd : FuncData} {x : Str} {pa : Arguments} {body : List Stmt} {sc : Scope} {dvs : List V} {kws : List (Str × V)} {N ps : List Str} {sp : Sp}
theorem fn_e (F : FunD K x x pa body sc dvs kws f fd) (S : FnScope N ps sc) (len : ∀ vs H Q E, sp vs H Q E → vs.length = ps.length)
    (hb : ∀ (cdv : Value) (A : Around) (outer : List PySem.Env) (sh : Shared) (H : Hp) (vs : List V) (Q : VK) (E : XK), Hot1 A p → RoomH k (A.deeper (envOfC x sc sh.heap.objs.size f cdv)) → sp vs H Q E →
      ∃ t, PSs (cxH (L2N.CX P w) P w K mg base N x sc f cdv A outer sh H E p) body t ∧ t { nx := fun _ H' => Q .non H', rt := Q } (L2.start N vs) H) : FnE P w K mg base p (k + 1) f fd ps sp := by
  obtain ⟨oc, od, dV, kV, doc, pm, an, cdv, ct, osl, rfl, lk, hcd, _, _⟩ := F.ex
  refine ⟨len, fun {A outer sh H args us vs Q E} room hot pin e0 bd rv told => ?_⟩
  have kin : K.In sh.heap := e0.mod.kin.keeps fun b o e => (e0.bs b o e).1
  have free : sh.heap.NoLimit := e0.mod.nolimit.keeps fun b o e => (e0.bs b o e).1
  have kinds : ∀ y ∈ ps.zip us, sc.names.lookup y.1 = some .local ∨ (sc.names.lookup y.1 = some .cell ∧ ((cellsFrom (sh.heap.objs.size + 1) sc.names []).lookup y.1).isSome = true) := by
    rintro ⟨nm, v⟩ m
    rcases S.par nm (List.of_mem_zip m).1 with q | q
    · exact .inl q
    · refine .inr ⟨q, ?_⟩
      exact PySem.W.cellsFrom_some _ _ _ (.inl q)
  refine codeAny_call_function room.depth (kin _ _ lk) rfl S.co S.gen rfl (PySem.W.codeRec_of kin hcd) (bd _ _ _ _ ?_)
  refine wpAny_newFunctionEnv_cells S.kind kinds ?_
  intro env he s1 started
  subst he
  refine ⟨free.keeps started.toInCall.keep, codeAny_func ?_⟩
  obtain ⟨t, ht, tq⟩ := hb cdv A outer sh H vs Q E hot (room.deeper _) told
  have J0 := inv_startH (CX := L2N.CX P w) (E := E) (cd := cdv) (qual := x) (f := f) S pin e0 (len _ _ _ _ told) rv started
  refine wpAny_mono (ht.run [] s1 (L2.start N vs) H _ J0 tq) ?_ fun e s' hs => hs
  intro fl s' hs
  cases fl with
  | ret u =>
    obtain ⟨v, sg', H', J, r1, q⟩ := hs
    exact ⟨v, H', J.os, J.bare, J.base, J.hok, r1, q⟩
  | next =>
    obtain ⟨sg', H', J, q⟩ := hs
    exact ⟨V.non, H', J.os, J.bare, J.base, J.hok, rfl, q⟩
  | brk =>
    obtain ⟨_, _, _, q⟩ := hs
    exact q.elim
  | cont =>
    obtain ⟨_, _, _, q⟩ := hs
    exact q.elim
end
/-- the module's name x is a def that keeps h where an error is handled that stands at a, its dict at d, its class at c -/
def OkE (P : Program) (w : World) (K : PySem.W.Frag) (mg : Str → Option Value) (base : Heap) (x : Str) (n k : Nat) (h : Nat → Nat → Nat → Fn) : Prop :=
  ∃ f fd ps, (∀ a d c oe, L2N.Zn (.ref c) (some d) oe → FnE P w K mg base (a, oe) k f fd ps (Sat K mg false n (h a d c))) ∧ mg x = some (.ref f) ∧ PySem.W.keepIn K (.ref f) = true ∧ Binds K fd ps []
section
variable {P : Program} {w : World} {K : PySem.W.Frag} {mg : Str → Option Value} {base : Heap} {x : Str} {st : Stmt}
theorem oke {N ps : List Str} {k j n : Nat} {s : Nat → Nat → Nat → SF} (D : Dt K mg x st) (S : FnScope N ps (defScope st)) (hp : ps.length = n) (hN : N.length = j)
    (hbind : ∀ (kV doc pm : Value) (an : Option Addr) (cdv ct : Value) (us : List Value), us.length = ps.length → bindArgs (PySem.W.fnOf x x (defArgs st) (defBody st) (defScope st) .none kV doc pm an cdv ct) ⟨us, []⟩ = pure (ps.zip us))
    (hb : ∀ (a d c : Nat) (f : Addr) (cdv : Value) (A : Around) (outer : List PySem.Env) (sh : Shared) (H : Hp) (E : XK) (oe : Obj), HX (cxH (L2N.CX P w) P w K mg base N x (defScope st) f cdv A outer sh H E (a, oe)) a d c k →
      JSs (cxH (L2N.CX P w) P w K mg base N x (defScope st) f cdv A outer sh H E (a, oe)) (fun cls d _ H => E cls d H) (defBody st) (s a d c)) : OkE P w K mg base x n (k + 1) (fun a d c => mkFn false n j (s a d c)) := by
  obtain ⟨f, fd, F, g⟩ := D
  refine ⟨f, fd, ps, fun a d c oe hz => ?_, g, F.kp, F.bindsN hbind⟩
  refine fn_e F S (fun vs H Q E h => by rw [hp]; exact h.1) fun cdv A outer sh H vs Q E hot room h => ?_
  obtain ⟨hh, ws, dd, _⟩ := hot
  exact ⟨_, hb a d c f cdv A outer sh H E oe ⟨⟨oe, ws, List.mem_singleton.mpr rfl, hz, dd⟩, hh, room⟩, body_ok hN (fun z => by cases z) h⟩
end
section
variable {X : Cx} {a d c k j n : Nat} {x : Str} {h : Nat → Nat → Nat → Fn} {p pos : Pos} {e : Expr} {es : List Expr} {as : List Arg}
theorem takes0 {X : Cx} : L2N.Takes X W0 := fun u s' ⟨a, B, sI, pins, σ, H, cls, d, e, I, nb, up, sky, na, os, ag, w⟩ => w.elim
/-- such a def, called -/
theorem kE {W : WX} (hx : HX X a d c k) (tk : L2N.Takes X W) (F : OkE X.prog X.w X.K X.mg X.base x n j h) (ha : JAs X W (e :: es) as) (hn : as.length = n := by rfl) (hj : j ≤ k := by first | decide | omega) (hg : Gl X x := by rfl) (hdb : (x == ("__debug__" : Str)) = false := by decide)
    (he : starEach (e :: es) X.env = (false, eval e X.env) :: starEach es X.env := by rfl) (hpl : (backTo pos (starEach es X.env)).any (·.1) = false := by rfl) : JE X W (.Call (.Name x p) (e :: es) [] pos) (eOp as (h a d c)) := by
  obtain ⟨f, fd, ps, F1, hm, hk, hb⟩ := F
  refine ⟨fun pins s sg H Q I q => ?_⟩
  have q1 := eOp_ok q
  rw [hn] at q1
  refine wpAny_Call_Name_kw (ld_glob I hg hm ?_ hdb)
  refine PySem.W.callWith_K (h₀ := X.base) I.ok.mod.kin hk ?_ he hpl
  refine thn (ha.run pos pins s sg H _ I q1) fun us s1 hs => ?_
  obtain ⟨vs, H1, I1, rv, told⟩ := hs
  refine ⟨I1.kIn, ?_⟩
  obtain ⟨oe, ws, m, zz, dd⟩ := hx.pin
  have G := F1 a d c oe zz
  have hl : us.length = ps.length := by rw [← rv.length]; exact G.len _ _ _ _ told
  have bd := hb s1 us I1.kIn (by rw [List.append_nil]; exact hl)
  rw [List.append_nil] at bd
  have pin := I1.pin (a, oe) (List.mem_append_left _ m)
  have po : PinOk X.stack H1 s1 (a, oe) := by
    refine ⟨pin.1, pin.2.1, fun mm => ?_, pin.2.2.2.2⟩
    rcases List.mem_cons.mp (I1.stkSub a mm) with z | z
    · exact pin.2.2.1 z
    · exact pin.2.2.2.1 z
  refine wpAny_call (codeAny_mono (G.run (args := ⟨us, []⟩) (hx.hr.mono hj) ⟨hx.hh, ws, dd, zz.2.2 ws dd⟩ po I1.env0 bd rv told) ?_)
  intro r s2 out
  cases r with
  | error er => exact L2N.passAt tk sg pins H1 s1 er s2 I1 out
  | ok fl =>
    cases fl with
    | ret u => exact I1.after out
    | next => exact out.elim
    | brk => exact out.elim
    | cont => exact out.elim
end
end Z
set_option Elab.async false
set_option linter.all false
set_option maxRecDepth 100000
set_option maxHeartbeats 1000000
namespace Z
open PySem L2
def wipeR (i : Nat) : SR → SR
  | .nx env => .nx (env.set i .no)
  | .br env => .br (env.set i .no)
  | .ct env => .ct (env.set i .no)
  | .rt d env => .rt d (env.set i .no)
  | _ => .stuck
/-- the suite's slot i holds the error; it is forgotten behind the suite -/
def sTryAs (i : Nat) (sub : Str → Option Bool) (body : SF) (su : Nat → Nat → Nat → SF) : SF := fun env => match body env with
  | .exc e env1 => match sub e.C with
    | some true => match setV env1 i (.p (.exc 0 0 0 e.C e.fs e.vs)) with
      | some env2 => wipeR i (su 0 0 0 env2)
      | none => .stuck
    | some false => .exc e env1
    | none => .stuck
  | r => r
def SubTab (K : PySem.W.Frag) (mg : Str → Option Value) (sub : Str → Option Bool) (cv : Value) : Prop := ∀ C b, sub C = some b → ∀ cc, mg C = some (.ref cc) → PySem.W.exmOne K (.ref cc) cv = some b
theorem setV_eq {env env' : Env} {i : Nat} {d : D} (h : setV env i d = some env') : env' = env.set i (.var d) := by
  unfold setV at h
  split at h <;> cases h <;> rfl
theorem setV_to {env env' : Env} {i : Nat} {d d' : D} (h : setV env i d = some env') : setV env i d' = some (env.set i (.var d')) := by
  unfold setV at h ⊢
  split at h <;> first | rfl | (cases h; done)
section
variable {K : PySem.W.Frag} {mg : Str → Option Value} {ph : Nat → V} {Z : Zs} {H : Hp}
/-- a slot is forgotten -/
theorem At.drop {sg : St} {env : Env} {O : List Addr} {i : Nat} (A : At K mg ph Z H sg env O) (hi : i < env.length) : ∃ O1, At K mg ph Z H (sg.set i none) (env.set i .no) O1 ∧ At K mg ph Z H sg (env.set i .no) O1 ∧ ∀ a ∈ O1, a ∈ O := by
  obtain ⟨v, O1, Or, ev, r, pp, put, put2⟩ := A.re.at (i := i) (s := env[i]) (by simp [hi])
  have r1 := put Z H none .no [] (fun a q => q) Kp.refl rfl
  have r2 := put2 Z H .no [] (fun a q => q) Kp.refl rfl
  have v1 : Vld Z H Or := (A.vl.perm pp).right
  exact ⟨Or, ⟨by simpa using r1, v1⟩, ⟨by simpa using r2, v1⟩, fun a m => pp.mem_iff.mpr (List.mem_append_right _ m)⟩
theorem At.drop' {sg : St} {env : Env} {O : List Addr} {i : Nat} (A : At K mg ph Z H sg env O) : ∃ O1, At K mg ph Z H (sg.set i none) (env.set i .no) O1 ∧ At K mg ph Z H sg (env.set i .no) O1 ∧ ∀ a ∈ O1, a ∈ O := by
  by_cases hi : i < env.length
  · exact A.drop hi
  · have hl : sg.length = env.length := by
      obtain ⟨O0, h0, _⟩ := A.re
      exact RE.wipe.len0 h0
    rw [List.set_eq_of_length_le (by omega), List.set_eq_of_length_le (by omega)]
    exact ⟨O, A, A, fun a m => m⟩
theorem Fin.wipe {W : WX} {D : Ends} {O : List Addr} {i : Nat} {r : SR} (h : Fin K mg W D ph Z H O (wipeR i r)) : Fin K mg W0 { nx := fun σ' H' => D.nx (σ'.set i none) H', rt := D.rt, bk := fun σ' H' => D.bk (σ'.set i none) H', ct := fun σ' H' => D.ct (σ'.set i none) H' } ph Z H O r := by
  cases r with
  | nx env =>
    intro sg' H' Z' O' A t
    obtain ⟨O1, A1, _, s⟩ := A.drop' (i := i)
    exact h _ H' Z' O1 A1 (t.less s)
  | br env =>
    intro sg' H' Z' O' A t
    obtain ⟨O1, A1, _, s⟩ := A.drop' (i := i)
    exact h _ H' Z' O1 A1 (t.less s)
  | ct env =>
    intro sg' H' Z' O' A t
    obtain ⟨O1, A1, _, s⟩ := A.drop' (i := i)
    exact h _ H' Z' O1 A1 (t.less s)
  | rt d env =>
    intro v sg' H' Z' O' Od r1 r2 v1 t
    obtain ⟨O1, _, A2, s⟩ := At.drop' (i := i) ⟨r1, v1.left⟩
    have sub : ∀ a ∈ O1 ++ Od, a ∈ O' ++ Od := fun a m => by
      rcases List.mem_append.mp m with z | z
      · exact List.mem_append_left _ (s a z)
      · exact List.mem_append_right _ z
    refine h v sg' H' Z' O1 Od A2.re r2 ⟨?_, fun a m => v1.nz a (sub a m), v1.zs, fun a m => v1.mu a (sub a m), v1.tb⟩ (t.less sub)
    exact List.nodup_append.mpr ⟨A2.vl.nd, (List.nodup_append.mp v1.nd).2.1, fun a m b m2 e => (List.nodup_append.mp v1.nd).2.2 a (s a m) b m2 e⟩
  | exc e env => exact h.elim
  | stuck => exact h.elim
end
section
variable {X : Cx} {W : WX} {k i : Nat} {x n : Str} {cv : Value} {sub : Str → Option Bool} {body suite : List Stmt} {b0 : Stmt} {np pos pos' : Pos} {b : SF} {su : Nat → Nat → Nat → SF}
theorem js_tryAs (C : Cz X W k) (S : X.N.Nodup) (hi : X.N[i]? = some n) (hln : X.env.kindOf n = some .local) (hc : Names X x cv) (hsub : SubTab X.K X.mg sub cv) (hs : X.stack = X.env :: X.outer) (hf : X.env.frame = some X.env.locals)
    (hb : ∀ (W' : WX) (pn : List (Addr × Obj)) (xe : Value → Shared → Prop), Cz (X.tr pn xe) W' k → JSs (X.tr pn xe) W' body b)
    (hsu : ∀ (a d c : Nat) (oe : Obj) (pn : List (Addr × Obj)), HX (X.suite a ((a, oe) :: pn)) a d c k → JSs (X.suite a ((a, oe) :: pn)) W0 (b0 :: suite) (su a d c))
    (hpar : ∀ (a d c : Nat) (C : Str) (fs : List Str) (vs : List P) (env : Env), wipeR i (su a d c (env.set i (.var (.p (.exc a d c C fs vs))))) = wipeR i (su 0 0 0 (env.set i (.var (.p (.exc 0 0 0 C fs vs)))))) :
    JS X W (.Try body [.ExceptHandler (some (.Name x np)) (some n) (b0 :: suite) pos'] [] [] pos) (sTryAs i sub b su) := by
  refine PSimp (L2N.ps_try_as (Wout := W) (tb := fun W' => rS X.K X.mg W' b) (ts := fun a cls dx D sg H => ∃ c d, cls = .ref c ∧ dx = some d ∧ rS X.K X.mg W0 (su a d c) D sg H) hs hf S hi hln hc C.tk
    (fun W' pn xe tk po => hb W' pn xe ⟨C.calm, tk, C.hr, po⟩) (fun a oe cls dx pn hz hd => ?_)) fun D sg H q => ?_
  · refine ⟨fun pins s sg H D I h => ?_⟩
    obtain ⟨c, d, ec, ed, h⟩ := h
    subst ec; subst ed
    obtain ⟨vs, dd⟩ := hd
    exact (hsu a d c oe pn ⟨⟨oe, vs, List.mem_cons_self, hz, dd⟩, rfl, L2H.roomH_mark C.hr _⟩).run pins s sg H D I h
  · obtain ⟨env, ph, Z, O, A, q⟩ := q
    refine ⟨env, ph, Z, O, A, ?_⟩
    unfold sTryAs at q
    cases e1 : b env with
    | nx env1 => rw [e1] at q; exact q
    | br env1 => rw [e1] at q; exact q
    | ct env1 => rw [e1] at q; exact q
    | rt d env1 => rw [e1] at q; exact q
    | stuck => rw [e1] at q; exact q
    | exc e env1 =>
      rw [e1] at q
      simp only at q
      intro sg' cls dx H' Z' O' A' t rx
      obtain ⟨c, d, us, hC, ec, ed, hz, hd, hl, rs⟩ := rx
      subst ec; subst ed
      cases es : sub e.C with
      | none => rw [es] at q; exact q.elim
      | some bb =>
        rw [es] at q
        refine ⟨bb, hsub _ _ es c hC, fun hbb a ha => ?_, fun hbb => ?_⟩
        · subst hbb
          simp only at q
          cases ev : setV env1 i (.p (.exc 0 0 0 e.C e.fs e.vs)) with
          | none => rw [ev] at q; exact q.elim
          | some env2 =>
            rw [ev] at q
            simp only at q
            have e2 := setV_eq ev
            have e3 := setV_to (d' := .p (.exc a d c e.C e.fs e.vs)) ev
            have r0 : RD X.K X.mg Z' H' (.ref a) (.p (.exc a d c e.C e.fs e.vs)) [] := rd_p (by
              simp only [RP]
              exact ⟨us, by first | rfl | trivial, hC, hz, hd, hl, rs⟩)
            obtain ⟨O2, A2, t2, s2⟩ := At.store (Z0 := Z) (H0 := H) (O0 := O) A'.re (by rw [List.append_nil]; exact A'.vl) (by rw [List.append_nil]; exact t) e3 r0
            refine ⟨c, d, rfl, rfl, _, ph, Z', O2, A2, ?_⟩
            rw [e2, ← hpar a d c e.C e.fs e.vs env1] at q
            exact Fin.trans t2 (Fin.wipe q)
        · subst hbb
          exact q sg' _ _ H' Z' O' A' t ⟨c, d, us, hC, rfl, rfl, hz, hd, hl, rs⟩
end
end Z
set_option Elab.async false
set_option linter.all false
set_option maxRecDepth 100000
namespace Z
open PySem L2
/-- is a C a t -/
def subOf (anc : List (Str × List Str)) (t C : Str) : Option Bool := if t = "ValueError" ∨ (anc.lookup t).isSome then (anc.lookup C).bind fun l => if l.isEmpty then none else some (l.contains t) else none
def fldOf (tab : List (Str × List Str)) (C f : Str) : Bool := match tab.lookup C with
  | some l => l.contains f
  | none => false
/-- an except clause's class -/
def SubX (K : PySem.W.Frag) (mg : Str → Option Value) (x : Str) (sub : Str → Option Bool) : Prop := ∃ cv, mg x = some cv ∧ SubTab K mg sub cv
end Z
set_option Elab.async false
set_option linter.all false
set_option maxRecDepth 100000
set_option maxHeartbeats 1000000
namespace Z
open PySem L2
open HotX (HotAt raiseNew_hot)
section
variable {prog : Program} {w : World} {A : Around} {s : Shared}
/-- a list's iterator at the end, while an error is handled -/
theorem list_end_hot {E : Value → Shared → Prop} {jt lst eh : Addr} {n : Nat} {items : Array Value} {Q : Option Value → Shared → Prop} (hot : HotAt A eh s.heap) (hj : s.heap.IsListIter jt lst n) (hl : s.heap.IsList lst items) (hx : items[n]? = none)
    (hQ : ∀ h', (∀ b o, b ≠ jt → s.heap.get? b = some o → h'.get? b = some o) → Q none { s with heap := h' }) : wpAny (model prog w) A (pyNext (.ref jt)) Q E s := by
  obtain ⟨oj, gj, _, dj⟩ := id hj
  obtain ⟨ol, gl, _, nl, dl⟩ := hl
  obtain ⟨hh, o1, vs1, h1, d1, c1⟩ := hot
  have hne : jt ≠ eh := fun e => by
    subst e; rw [gj] at h1; cases h1; rw [dj] at d1; cases d1; cases c1
  unfold pyNext
  refine wpAny_bind (wpAny_attempt (wpAny_callSpecial?_slot (name := Str.ofString "__next__") hj.typeIs slot_listiter_next (wpAny_call_entry slot_listiter_next hj.typeIs entry_listiter_next ?_ (args_listiter_next _))))
  show wpAny _ _ (field (.ref jt) 0 >>= _) _ _ s
  refine wpAny_bind (wpAny_field gj dj (x := .ref lst) rfl ?_)
  show wpAny _ _ (if (Value.ref lst == Value.none) = true then _ else _) _ _ s
  rw [if_neg (show ¬ ((Value.ref lst == Value.none) = true) by exact Bool.false_ne_true)]
  show wpAny _ _ (field (.ref jt) 1 >>= _) _ _ s
  refine wpAny_bind (wpAny_field gj dj (x := .int n 0) rfl ?_)
  show wpAny _ _ (seqItems? (.ref lst) >>= _) _ _ s
  refine wpAny_bind (wpAny_seqItems gl dl ?_)
  simp only [hx, Int.toNat_natCast]
  refine wpAny_bind (wpAny_rule (wpAny_bind (wpAny_setField gj dj (by simp) ?_)))
  show wpAny _ _ (newExc (.type "StopIteration") [] >>= _) _ _ _
  refine wpAny_bind ?_
  simp only [newExc, newTuple]
  have g1 : (s.heap.update jt (Obj.mapFields fun x => x.setIfInBounds 0 .none)).get? eh = some o1 := by rw [Heap.get?_update_other _ _ hne]; exact h1
  refine wpAny_bind (wpAny_newObj_type ?_ (by size_fits))
  refine wpAny_bind (m := firstArgMember _ _) (wpAny_of_eq (a := Value.none) (by first | rfl | (simp only [firstArgMember]; rfl)) ?_)
  refine wpAny_newObj_type ?_ (by size_fits)
  refine raiseNew_hot ⟨hh, o1, vs1, Heap.get?_push_of_some _ (Heap.get?_push_of_some _ g1), d1, c1⟩ (Nat.ne_of_lt (Heap.lt_size (Heap.get?_push_of_some _ g1))) (Heap.get?_push_size _ rfl) rfl (by first | (simp; done) | (simp; omega) | (simp only [Array.size_append]; simp; omega)) ?_
  refine wpAny_bind (wpAny_isInstance (b := true) (T := "StopIteration") ⟨_, Heap.get?_update_self _ (Heap.get?_push_size _ rfl) rfl, rfl⟩ isSubtype_stop ?_)
  refine wpAny_pure (hQ _ fun b o hb e => ?_)
  have e1 : (s.heap.update jt (Obj.mapFields fun x => x.setIfInBounds 0 .none)).get? b = some o := by rw [Heap.get?_update_other _ _ (Ne.symm hb)]; exact e
  rw [Heap.get?_update_other _ _ (Nat.ne_of_gt (Heap.lt_size (Heap.get?_push_of_some _ e1)))]
  exact Heap.get?_push_of_some _ (Heap.get?_push_of_some _ e1)
/-- what a walk over a list of one's own needs -/
theorem walk_hot {eh jt lst : Addr} (hh : A.handled = some (.ref eh)) (hne : lst ≠ jt) (h2 : eh ≠ jt) (items : Array Value) :
    Walks prog w A jt [jt, lst, eh] [jt] items.size (fun i v => items[i]? = some v) (fun i h => h.IsListIter jt lst i ∧ h.IsList lst items ∧ HotAt A eh h) where
  sub := fun b hb => by simp at hb; simp [hb]
  frame := fun i h h' st kk => by
    obtain ⟨s1, s2, _, o1, vs1, g1, d1, c1⟩ := st
    exact ⟨s1.at fun o e => kk jt (by simp) o e, s2.at fun o e => kk lst (by simp) o e, hh, o1, vs1, kk eh (by simp) o1 g1, d1, c1⟩
  item := fun i s Q E hi st hQ => by
    obtain ⟨s1, s2, s3⟩ := st
    refine wpAny_pyNext_list_item s1 s2 (x := items[i]) (by simp [hi]) fun h' it' sb => ?_
    have eb := sb.extBut
    obtain ⟨_, o1, vs1, g1, d1, c1⟩ := s3
    exact hQ _ h' s.toks (by simp [hi]) ⟨it', s2.extBut eb hne, hh, o1, vs1, eb eh o1 h2 g1, d1, c1⟩ fun b o hb e => eb b o (fun z => hb (by simp [z])) e
  done := fun s Q E st hQ => list_end_hot st.2.2 st.1 st.2.1 (by simp) fun h' kk => hQ h' s.toks fun b o hb e => kk b o (fun z => hb (by simp [z])) e
  self := fun _ _ _ _ st hQ => wpAny_pyIter_listiter st.1 hQ
end
/-- a value that counts as a number -/
def NumV (v : Value) (i : Int) : Prop := (∃ t, v = .int i t) ∨ ∃ b, v = .bool b ∧ i = if b then 1 else 0
section
variable {prog : Program} {w : World} {A : Around} {R : Result → Shared → Prop} {jt : Addr} {fp wr : List Addr} {n : Nat} {PP : Nat → Value → Prop} {Sf : Nat → Heap → Prop}
/-- sum's loop, over small numbers and Booleans -/
theorem sum_turns (V : Walks prog w A.in1 jt fp wr n PP Sf) (f : Nat → Int) (hf : ∀ i v, PP i v → NumV v (f i)) (hs : ∀ i, i < n → (-(2 ^ 63) ≤ f i ∧ f i < 2 ^ 63) ∧ (-(2 ^ 63) ≤ preSum f (i + 1) ∧ preSum f (i + 1) < 2 ^ 63)) (ac : Addr) (hac : ac ∉ fp) :
    ∀ (m i : Nat) (s : Shared) (t0 : Tok) (c : Nat), n - i = m → i ≤ n → Sf i s.heap → s.heap.get? ac = some { cls := .type "list", dict := none, data := .seq #[.int (preSum f i) t0] c, slots := #[] } →
      (∀ h' tk t', (∀ b o, b ∉ wr → b ≠ ac → s.heap.get? b = some o → h'.get? b = some o) → R (.ok (.ret (.int (preSum f n) t'))) { s with heap := h', toks := tk }) →
      codeAny (model prog w) A (.builtin "sum.loop" ⟨[.ref jt, .ref ac, rawInt 0, rawInt 0], []⟩) R s := by
  have hw : ac ∉ wr := fun z => hac (V.sub _ z)
  intro m
  induction m with
  | zero =>
    intro i s t0 c hm hi st ha hR
    obtain rfl : i = n := by omega
    refine codeAny_builtin F.entry_sum_loop ?_
    rw [Around.under_plainId F.plain_sum_loop _]
    show wpAny _ A.in1 (seqItems? (.ref ac) >>= _) _ _ s
    refine wpAny_bind (wpAny_seqItems ha rfl ?_)
    show wpAny _ A.in1 (tryCatch (pyNext (.ref jt)) _ >>= _) _ _ s
    exact wpAny_bind (wpAny_tryCatch (V.done s _ _ st fun h' tk kk => wpAny_pure (hR h' tk t0 fun b o hb _ e => kk b o hb e)))
  | succ m ih =>
    intro i s t0 c hm hi st ha hR
    have lt : i < n := by omega
    refine codeAny_builtin F.entry_sum_loop ?_
    rw [Around.under_plainId F.plain_sum_loop _]
    show wpAny _ A.in1 (seqItems? (.ref ac) >>= _) _ _ s
    refine wpAny_bind (wpAny_seqItems ha rfl ?_)
    show wpAny _ A.in1 (tryCatch (pyNext (.ref jt)) _ >>= _) _ _ s
    refine wpAny_bind (wpAny_tryCatch (V.item i s _ _ lt st fun v h' tk hp st' kk => ?_))
    have ha' := kk ac _ hw ha
    obtain ⟨⟨l1, l2⟩, l3, l4⟩ := hs i lt
    have l3' : -(2 ^ 63) ≤ preSum f i + f i := l3
    have l4' : preSum f i + f i < 2 ^ 63 := l4
    have hc : ((decide (-(2 ^ 63) ≤ f i) && decide (f i < 2 ^ 63)) && (decide (-(2 ^ 63) ≤ preSum f i + f i) && decide (preSum f i + f i < 2 ^ 63))) = true := by simp only [decide_eq_true l1, decide_eq_true l2, decide_eq_true l3', decide_eq_true l4', Bool.and_self]
    rcases hf i v hp with ⟨t, rfl⟩ | ⟨b, rfl, hb⟩
    · show wpAny _ A.in1 (if (_ : Bool) = true then (mkInt (preSum f i + f i) >>= _) else _) _ _ _
      split
      · refine wpAny_bind (wpAny_mkInt ?_)
        show wpAny _ A.in1 (updateSeq ac (fun _ => #[.int (preSum f i + f i) tk]) >>= _) _ _ _
        refine wpAny_bind (wpAny_updateSeq ha' rfl (wpAny_pure ⟨plainId_quiet F.plain_sum_loop _, ?_⟩))
        refine ih (i + 1) _ tk _ (by omega) lt (V.frame _ _ _ st' fun b hb o e => ?_) (Heap.get?_update_self _ ha' rfl) fun h2 tk2 t2 k2 => hR h2 tk2 t2 fun b o hb hc e => k2 b o hb hc ?_
        · rw [Heap.get?_update_other _ _ (fun z : ac = b => hac (by rw [z]; exact hb))]; exact e
        · rw [Heap.get?_update_other _ _ (Ne.symm hc)]; exact kk b o hb e
      · exact absurd hc (by assumption)
    · rw [hb] at hc
      have ep : preSum f (i + 1) = preSum f i + (if b then 1 else 0) := by rw [← hb]; rfl
      cases b
      all_goals
        simp only [if_true, if_false, Bool.false_eq_true] at ep hc
        show wpAny _ A.in1 (if (_ : Bool) = true then (mkInt _ >>= _) else _) _ _ _
        rw [if_pos ?_]
        · refine wpAny_bind (wpAny_mkInt ?_)
          show wpAny _ A.in1 (updateSeq ac (fun _ => #[.int _ tk]) >>= _) _ _ _
          refine wpAny_bind (wpAny_updateSeq ha' rfl (wpAny_pure ⟨plainId_quiet F.plain_sum_loop _, ?_⟩))
          have hself := Heap.get?_update_self (Obj.mapSeq fun _ => #[Value.int (preSum f (i + 1)) tk]) ha' rfl
          rw [ep] at hself
          refine ih (i + 1) _ tk _ (by omega) lt (V.frame _ _ _ st' fun b hb o e => ?_) (by rw [ep]; exact hself) fun h2 tk2 t2 k2 => hR h2 tk2 t2 fun b o hb hc e => k2 b o hb hc ?_
          · rw [Heap.get?_update_other _ _ (fun z : ac = b => hac (by rw [z]; exact hb))]; exact e
          · rw [Heap.get?_update_other _ _ (Ne.symm hc)]; exact kk b o hb e
        · exact hc
end
section
variable {prog : Program} {w : World} {A : Around} {E : Value → Shared → Prop} {s : Shared}
/-- sum(x), over small numbers and Booleans -/
theorem sum_small {x : Value} {Q : Value → Shared → Prop}
    (h : wpAny (model prog w) A.in1 (pyIter x) (fun it s2 => ∃ jt fp wr n PP Sf f, it = .ref jt ∧ Walks prog w A.in1 jt fp wr n PP Sf ∧ Sf 0 s2.heap ∧ (∀ b ∈ fp, b < s2.heap.objs.size) ∧ (∀ i v, PP i v → NumV v (f i)) ∧
      (∀ i, i < n → (-(2 ^ 63) ≤ f i ∧ f i < 2 ^ 63) ∧ (-(2 ^ 63) ≤ preSum f (i + 1) ∧ preSum f (i + 1) < 2 ^ 63)) ∧ ∀ h' tk t', (∀ b o, b ∉ wr → s2.heap.get? b = some o → h'.get? b = some o) → Q (.int (preSum f n) t') { s2 with heap := h', toks := tk }) E s) :
    wpAny (model prog w) A (call (.builtin "sum") [x]) Q E s := by
  refine call_function_tree F.kind_sum F.plain_sum F.entry_sum (F.args_sum1 _) ?_
  unfold Builtin.«sum»
  simp only [List.length_nil, List.length_cons]
  rw [if_neg (by decide)]
  refine wpAny_bind (wpAny_of_eq (show Builtin.Builtins.bindParams "sum" ["start"] 0 { } = pure [none] by rfl) ?_)
  refine wpAny_bind (wpAny_mono h (fun it s2 ⟨jt, fp, wr, n, PP, Sf, f, e, V, st, hfp, hf, hs, hQ⟩ => ?_) fun _ _ e => e)
  subst e
  refine wpAny_bind (wpAny_mkInt (wpAny_bind (wpAny_pure ?_)))
  simp only [List.forIn_nil, List.forIn_cons]
  refine wpAny_bind (wpAny_bind (wpAny_bind (wpAny_isInstance (b := false) (T := "int") (typeIs_int _ _ _) sub_int_str ?_)))
  simp only [if_false, Bool.false_eq_true]
  refine wpAny_pure (wpAny_bind (wpAny_bind (wpAny_isInstance (b := false) (T := "int") (typeIs_int _ _ _) sub_int_bytes ?_)))
  simp only [if_false, Bool.false_eq_true]
  refine wpAny_pure (wpAny_bind (wpAny_bind (wpAny_isInstance (b := false) (T := "int") (typeIs_int _ _ _) sub_int_bytearray ?_)))
  simp only [if_false, Bool.false_eq_true]
  refine wpAny_pure (wpAny_pure (wpAny_bind (wpAny_newObj_type ?_)))
  have hac : s2.heap.objs.size ∉ fp := fun z => Nat.lt_irrefl _ (hfp _ z)
  refine wpAny_pure ⟨plainId_quiet F.plain_sum_loop _, sum_turns V f hf hs s2.heap.objs.size hac n 0 _ s2.toks 0 rfl (Nat.zero_le _) (V.frame _ _ _ st fun b _ o e => Heap.get?_push_of_some _ e) (Heap.get?_push_size _ rfl) fun h' tk t' kk => ?_⟩
  exact hQ h' tk t' fun b o hb e => kk b o hb (Nat.ne_of_lt (Heap.lt_size e)) (Heap.get?_push_of_some _ e)
end
/-- how many are True -/
def cntB : List P → Option Int
  | [] => some 0
  | .bl b :: xs => (cntB xs).map fun n => (if b then 1 else 0) + n
  | _ => none
def bSumB : List P → Option P
  | [.lst xs] => if xs.length ≤ lineN then (cntB xs).map .int else none
  | _ => none
def sumI : List P → Option Int
  | [] => some 0
  | .int i :: xs => (sumI xs).map fun n => i + n
  | _ => none
def bSum : List P → Option P
  | [.lst xs] => (sumI xs).map .int
  | _ => none
section
variable {K : PySem.W.Frag} {mg : Str → Option Value} {Z : Zs} {H : Hp}
theorem sumI_vals : ∀ {xs : List P} {us : List V} {n : Int}, sumI xs = some n → RPs K mg Z H us xs → ∃ ns : List Int, us = ns.map V.int ∧ n = ns.sum
  | [], [], n, e, _ => by
    unfold sumI at e
    cases e
    exact ⟨[], rfl, rfl⟩
  | [], _ :: _, _, _, r => by simp only [RPs] at r
  | _ :: _, [], _, _, r => by simp only [RPs] at r
  | x :: xs, u :: us, n, e, r => by
    simp only [RPs] at r
    cases x with
    | int i =>
      unfold sumI at e
      cases e2 : sumI xs with
      | none => rw [e2] at e; cases e
      | some m =>
        rw [e2] at e
        cases e
        obtain ⟨ns, en, em⟩ := sumI_vals e2 r.2
        have e3 : u = .int i := by simpa only [RP] using r.1
        exact ⟨i :: ns, by rw [e3, en]; rfl, by rw [em, List.sum_cons]⟩
    | _ => unfold sumI at e; cases e
theorem cntB_vals : ∀ {xs : List P} {us : List V} {n : Int}, cntB xs = some n → RPs K mg Z H us xs → ∃ bs : List Bool, us = bs.map V.bl ∧ n = (bs.map fun b => if b then (1 : Int) else 0).sum
  | [], [], n, e, _ => by
    unfold cntB at e
    cases e
    exact ⟨[], rfl, rfl⟩
  | [], _ :: _, _, _, r => by simp only [RPs] at r
  | _ :: _, [], _, _, r => by simp only [RPs] at r
  | x :: xs, u :: us, n, e, r => by
    simp only [RPs] at r
    cases x with
    | bl i =>
      unfold cntB at e
      cases e2 : cntB xs with
      | none => rw [e2] at e; cases e
      | some m =>
        rw [e2] at e
        cases e
        obtain ⟨ns, en, em⟩ := cntB_vals e2 r.2
        have e3 : u = .bl i := by simpa only [RP] using r.1
        exact ⟨i :: ns, by rw [e3, en]; rfl, by rw [em, List.map_cons, List.sum_cons]⟩
    | _ => unfold cntB at e; cases e
end
section
variable {X : Cx} {W : WX} {a d c k : Nat}
theorem cv_sum (C : Cz X W k) : CallV X (.builtin "sum") bSum := by
  intro pins s sg H xs us Q I r ⟨Z, as, y, ra, e, q⟩
  unfold bSum at e
  split at e
  · rename_i ys
    obtain ⟨w, ew, rw_⟩ := rps1 ra
    simp only [RP] at rw_
    obtain ⟨p, ws, e1, _, s1, r1⟩ := rw_
    cases e2 : sumI ys with
    | none => rw [e2] at e; cases e
    | some n =>
      rw [e2] at e
      cases e
      obtain ⟨ns, en, em⟩ := sumI_vals e2 r1
      subst en; subst em
      exact cr_sum C.calm pins s sg H xs us Q I r ⟨p, ns, by rw [ew, e1], .inl (.inl s1), got_p q (by simp only [RP])⟩
  · cases e
theorem preSum_cnt : ∀ (bs : List Bool) (m : Nat), 0 ≤ preSum (fun i => if bs.getD i false then 1 else 0) m ∧ preSum (fun i => if bs.getD i false then 1 else 0) m ≤ m
  | bs, 0 => ⟨Int.le_refl _, Int.le_refl _⟩
  | bs, m + 1 => by
    obtain ⟨h1, h2⟩ := preSum_cnt bs m
    have e : preSum (fun i => if bs.getD i false then 1 else 0) (m + 1) = preSum (fun i => if bs.getD i false then 1 else 0) m + (if bs.getD m false then 1 else 0) := rfl
    rw [e]
    generalize preSum (fun i => if bs.getD i false then 1 else 0) m = z at *
    cases bs.getD m false
    · simp only [if_false, Bool.false_eq_true]; omega
    · simp only [if_true]; omega
theorem preSum_shift (f : Nat → Int) : ∀ m : Nat, preSum f (m + 1) = f 0 + preSum (fun i => f (i + 1)) m
  | 0 => by show 0 + f 0 = f 0 + 0; omega
  | m + 1 => by
    show preSum f (m + 1) + f (m + 1) = f 0 + (preSum (fun i => f (i + 1)) m + f (m + 1))
    rw [preSum_shift f m]; omega
theorem preSum_all : ∀ bs : List Bool, preSum (fun i => if bs.getD i false then 1 else 0) bs.length = (bs.map fun b => if b then (1 : Int) else 0).sum
  | [] => rfl
  | b :: bs => by
    rw [List.length_cons, preSum_shift]
    have := preSum_all bs
    simp only [List.getD_cons_succ, List.getD_cons_zero, List.map_cons, List.sum_cons]
    rw [this]
theorem cv_sumH (hx : HX X a d c k) : CallV X (.builtin "sum") bSumB := by
  intro pins s sg H xs us Q I r ⟨Z, as, y, ra, e, q⟩
  unfold bSumB at e
  split at e
  · rename_i ys
    obtain ⟨w, ew, rw_⟩ := rps1 ra
    simp only [RP] at rw_
    obtain ⟨p, ws, e1, _, s1, r1⟩ := rw_
    split at e
    · rename_i hlen
      cases e2 : cntB ys with
      | none => rw [e2] at e; cases e
      | some n =>
        rw [e2] at e
        cases e
        obtain ⟨bs, en, em⟩ := cntB_vals e2 r1
        have hbl : bs.length = ys.length := by have := r1.length; rw [en, List.length_map] at this; exact this
        subst en; subst em
        subst ew; subst e1
        obtain ⟨its, rv, hl, _⟩ := I.list (.inl (.inl s1))
        rw [Vals.ref1 r]
        have eits := Vals.bls rv
        obtain ⟨x1, hot⟩ := hx.hot.at I
        have lt : p < s.heap.objs.size := by obtain ⟨_, g, _⟩ := hl.isList; exact Heap.lt_size g
        refine sum_small ?_
        refine wpAny_pyIter_list hl.isList ?_
        refine ⟨s.heap.objs.size, [s.heap.objs.size, p, x1], [s.heap.objs.size], _, _, _, fun i => if bs.getD i false then 1 else 0, rfl, walk_hot (A := X.A.in1) hot.1 (Nat.ne_of_lt lt) (Nat.ne_of_lt (by obtain ⟨_, o1, _, g1, _⟩ := hot; exact Heap.lt_size g1)) its.toArray, ⟨⟨_, Heap.get?_push_size _ rfl, rfl, rfl⟩, hl.isList.push _, hot.1, ?_⟩, fun b hb => ?_, fun i v hv => ?_, fun i hi => ?_, fun h' tk t' kk => ?_⟩
        · obtain ⟨_, o1, vs1, g1, d1, c1⟩ := hot
          exact ⟨o1, vs1, Heap.get?_push_of_some _ g1, d1, c1⟩
        · show b < (s.heap.push _).objs.size
          rw [Heap.size_push]
          obtain ⟨_, o1, vs1, g1, _⟩ := hot
          have := Heap.lt_size g1
          simp only [List.mem_cons, List.not_mem_nil, or_false] at hb
          rcases hb with z | z | z <;> subst z
          · exact Nat.lt_succ_self _
          · exact Nat.lt_succ_of_lt lt
          · exact Nat.lt_succ_of_lt this
        · subst eits
          simp only [List.getElem?_toArray, List.getElem?_map] at hv
          cases eb : bs[i]? with
          | none => rw [eb] at hv; cases hv
          | some b =>
            rw [eb] at hv
            cases hv
            exact .inr ⟨b, rfl, by simp only [List.getD_eq_getElem?_getD, eb, Option.getD_some]⟩
        · have hn : its.toArray.size ≤ lineN := by subst eits; simp only [List.size_toArray, List.length_map]; omega
          have hL : lineN = 16777216 := rfl
          have hi' : i < lineN := Nat.lt_of_lt_of_le hi hn
          obtain ⟨p1, p2⟩ := preSum_cnt bs (i + 1)
          rw [hL] at hi'
          refine ⟨?_, Int.le_trans (by decide) p1, Int.lt_of_le_of_lt p2 (by omega)⟩
          show -(2 ^ 63) ≤ (if bs.getD i false = true then (1 : Int) else 0) ∧ (if bs.getD i false = true then (1 : Int) else 0) < 2 ^ 63
          split <;> decide
        · have hn : its.toArray.size = bs.length := by subst eits; simp only [List.size_toArray, List.length_map]
          rw [hn, preSum_all]
          exact ⟨.int _, H, I.kept (t' := tk) (fun b o g => kk b o (fun z => by rw [List.mem_singleton] at z; exact Nat.ne_of_lt (Heap.lt_size g) z) (Heap.get?_push_of_some _ g)), ⟨_, rfl⟩, got_p q (by simp only [RP])⟩
    · cases e
  · cases e
end
end Z
set_option Elab.async false
set_option linter.all false
set_option maxRecDepth 100000
set_option maxHeartbeats 1000000
namespace Z
open PySem L2
/-- what a thunk's run comes to -/
inductive TO where
  | ok (x : P) | exc (e : Ex) | stuck
def SatT (K : PySem.W.Frag) (mg : Str → Option Value) (r : TO) (Z : Zs) (H : Hp) (Q : VK) (E : XK) : Prop := match r with
  | .ok x => ∀ v Z' H', RP K mg Z' H' v x → Vld Z' H' [] → Tr Z H [] Z' H' [] → Q v H'
  | .exc e => ∀ cls dx Z' H', Vld Z' H' [] → Tr Z H [] Z' H' [] → RX K mg Z' H' cls dx e → E cls dx H'
  | .stuck => False
/-- at f, as of (s, H) under the frames outer, stands a thunk of the tree t that comes to r -/
def ThkU (P : Program) (w : World) (K : PySem.W.Frag) (mg : Str → Option Value) (base : Heap) (k : Nat) (outer : List PySem.Env) (s : Shared) (H : Hp) (f : Addr) (t : _root_.Z.P) (r : TO) : Prop :=
  ∀ (s1 : Shared) (H1 : Hp), Un (frs outer) [] H H1 s.heap s1.heap → PySem.W.FnAt f s1.heap ∧
    ∀ (A1 : Around) (outer1 : List PySem.Env) (Z1 : Zs) (Q : VK) (E : XK), Room k A1 → Env0 P w K mg base A1 outer1 s1 H1 → RP K mg Z1 H1 (.ref f) t → Vld Z1 H1 [] → SatT K mg r Z1 H1 Q E →
      codeAny (model P w) A1 (.call (.ref f) ⟨[], []⟩) (CR (L2N.CX P w) outer1 P w H1 s1 Q E) s1
theorem Un.inner {outer : List PySem.Env} {env : PySem.Env} {H H1 H2 : Hp} {h h1 h2 : Heap} (u : Un (frs outer) [] H H1 h h1) (v : Un (frs (env :: outer)) [] H1 H2 h1 h2) (hl : ∀ L, env.frame = some L → h.objs.size ≤ L) : Un (frs outer) [] H H2 h h2 := by
  have out : ∀ b o, h.get? b = some o → b ∉ frs outer → b ∉ frs (env :: outer) := fun b o e n m => by
    obtain ⟨x, hx, ex⟩ := List.mem_filterMap.mp m
    rcases List.mem_cons.mp hx with q | q
    · subst q
      exact Nat.lt_irrefl _ (Nat.lt_of_lt_of_le (Heap.lt_size e) (hl b ex))
    · exact n (List.mem_filterMap.mpr ⟨x, q, ex⟩)
  have inn : ∀ b, b ∈ frs outer → b ∈ frs (env :: outer) := fun b m => by
    obtain ⟨x, hx, ex⟩ := List.mem_filterMap.mp m
    exact List.mem_filterMap.mpr ⟨x, List.mem_cons_of_mem _ hx, ex⟩
  refine ⟨fun b o e n hb hx => v.keep b o (u.keep b o e n hb hx) (u.free b o e n hx) (out b o e hb) hx, fun b o e n hb hx => ?_, fun b o e n hx => ?_, fun b o e hx => ?_, fun b xs e => v.tups b xs (u.tups b xs e), fun b o w e => v.frzs b o w (u.frzs b o w e), fun b ps e => ?_⟩
  · obtain ⟨sl, e1⟩ := u.slot b o e n hb hx
    obtain ⟨sl2, e2⟩ := v.slot b _ e1 (u.free b o e n hx) (inn b hb) hx
    exact ⟨sl2, e2⟩
  · obtain ⟨o', e1⟩ := u.there b o e hx
    exact v.free b o' e1 (u.free b o e n hx) hx
  · obtain ⟨o', e1⟩ := u.there b o e hx
    exact v.there b o' e1 hx
  · obtain ⟨m1, e1⟩ := u.tbls b ps e
    obtain ⟨m2, e2⟩ := v.tbls b _ e1
    exact ⟨m1 ++ m2, by rw [e2, Array.append_assoc]⟩
section
variable {P : Program} {w : World} {K : PySem.W.Frag} {mg : Str → Option Value} {base : Heap} {k : Nat} {f : Addr} {t : _root_.Z.P} {r : TO}
theorem ThkU.later {outer : List PySem.Env} {s s1 : Shared} {H H1 : Hp} (h : ThkU P w K mg base k outer s H f t r) (u : Un (frs outer) [] H H1 s.heap s1.heap) : ThkU P w K mg base k outer s1 H1 f t r :=
  fun s2 H2 v => h s2 H2 (u.trans v)
theorem ThkU.deeper {outer : List PySem.Env} {env : PySem.Env} {s s1 : Shared} {H H1 : Hp} (h : ThkU P w K mg base k outer s H f t r) (u : Un (frs outer) [] H H1 s.heap s1.heap) (hl : ∀ L, env.frame = some L → s.heap.objs.size ≤ L) : ThkU P w K mg base k (env :: outer) s1 H1 f t r :=
  fun s2 H2 v => h s2 H2 (Un.inner u v hl)
end
section
variable {X : Cx} {pins : List (Addr × Obj)} {sg : St} {H : Hp} {s : Shared}
/-- what stands behind the making: the code object is in its table already, or new there -/
def LamH (H : Hp) (P c : Addr) (q : Str) (H1 : Hp) : Prop :=
  (H1 = H ∧ H c = some (LamX.CodeO c q)) ∨ ∃ ps more, H P = some (.tbl ps) ∧ H c = none ∧ H1 = upd (upd H P (.tbl (ps ++ more))) c (LamX.CodeO c q) ∧ PySem.TriplesOk (ps ++ more).toList ∧
    ∀ pos cv, codeAmong pos (ps ++ more).toList = some cv → codeAmong pos ps.toList = some cv ∨ cv = .ref c
theorem lam_mk {q : Str} {c P : Addr} {params : Arguments} {body : Expr} {scope : Scope} {pos : Pos} {E Q : Value → Shared → Prop} (I : Inv X pins sg H s) (TB : LamX.TabB X.base X.mg c P) (hcode : X.env.code = .ref c) (hq : X.env.qual ++ "<lambda>" = q)
    (hT : LamX.TabS H P q) (hdef : defaultsOf params X.env = ([], [])) (L : LamX.LamS X.env.scope scope)
    (h : ∀ (f c' : Addr) (pm ctv : Value) (H1 : Hp) (s' : Shared), Inv X pins sg H1 s' → LamH H P c' q H1 → s.heap.objs.size ≤ f →
      s'.heap.get? f = some (PySem.W.kla_obj "<lambda>" q params body scope (cloFrom X.env.cells scope.names []) pm c' ctv) → H1 f = none → Q (.ref f) s') :
    wpAny (model X.prog X.w) X.A (eval (.Lambda params body scope pos) X.env) Q E s := by
  subst hq
  obtain ⟨ps, tP, tO, tA⟩ := hT
  have gt : s.heap.get? P = some { cls := .none, data := .fields ps } := I.hok _ _ tP
  have blt := TB.bm.keeps I.bk
  refine PySem.W.kla_eval hdef ?_
  rcases hc : codeAmong pos ps.toList with _ | cv
  · refine PySem.W.kla_makeFunction (c := c) (P := P) (ps := ps) (mg := X.mg) (closure_ok (L.has I.ok)) I.ok.glob (I.mod.glob.keeps I.bk) hcode (TB.code.keeps I.bk) gt tO hc TB.gP blt fun cN ctv hN tk eb le lt rec tab => ?_
    obtain ⟨c2, oc, vs, tt, ec, goc, dd, nm⟩ := rec
    cases ec
    have fr : H cN = none := I.hok.fresh le
    have big : s.heap.objs.size ≤ hN.objs.size := Nat.le_trans le (Nat.le_of_lt lt)
    have J := LamX.inv_table (t' := tk) (more := #[rawInt pos.line, rawInt pos.col, .ref cN]) I tP
      (h' := hN.push (PySem.W.kla_obj "<lambda>" (X.env.qual ++ "<lambda>") params body scope (cloFrom X.env.cells scope.names []) ((X.mg "__name__").getD .none) cN ctv))
      (fun b o hb e => Heap.get?_push_of_some _ (eb b o hb e)) (Heap.get?_push_of_some _ tab) le ⟨oc, vs, tt, Heap.get?_push_of_some _ goc, dd, nm⟩
    have el : (ps ++ #[rawInt pos.line, rawInt pos.col, .ref cN]).toList = ps.toList ++ [rawInt pos.line, rawInt pos.col, .ref cN] := by simp
    refine h hN.objs.size cN _ ctv _ _ J (.inr ⟨ps, _, tP, fr, rfl, ?_, fun p cv hcv => ?_⟩) big (Heap.get?_push_size _ rfl) ?_
    · rw [el]; exact PySem.TriplesOk_snoc _ _ _ _ tO
    · rw [el] at hcv; exact LamX.among_app _ tO hcv
    · have d1 : hN.objs.size ≠ cN := Nat.ne_of_gt lt
      have d2 : hN.objs.size ≠ P := fun z => by
        have y : P < s.heap.objs.size := Heap.lt_size gt
        rw [← z] at y
        exact Nat.lt_irrefl _ (Nat.lt_of_lt_of_le y big)
      rw [upd_ne d1, upd_ne d2]
      exact I.hok.fresh big
  · obtain ⟨cN, ec, ho⟩ := tA pos cv hc
    subst ec
    refine PySem.W.kla_makeFunctionHit (c := c) (P := P) (ps := ps) (mg := X.mg) (closure_ok (L.has I.ok)) I.ok.glob (I.mod.glob.keeps I.bk) hcode (TB.code.keeps I.bk) gt tO hc blt fun ctv hN tk kp big => ?_
    exact h hN.objs.size cN _ ctv H _ (I.kept fun b o e => Heap.get?_push_of_some _ (kp b o e)) (.inl ⟨rfl, ho⟩) big (Heap.get?_push_size _ rfl) (I.hok.fresh big)
end
/-- what the making leaves of a frame's trees -/
theorem LamH.tr {Z : Zs} {H H1 : Hp} {O : List Addr} {P c : Addr} {q : Str} (h : LamH H P c q H1) (hP : (P, q) ∈ LamT) (hu : ∀ p ∈ LamT, p.1 = P → p.2 = q) (v : Vld Z H O) : Tr Z H O Z H1 O ∧ Vld Z H1 O ∧ H1 c = some (LamX.CodeO c q) := by
  rcases h with ⟨e, hc⟩ | ⟨ps, more, tP, fr, e, to, ta⟩
  · subst e
    exact ⟨Tr.refl .., v, hc⟩
  · subst e
    have nPc : P ≠ c := ne_of_none tP fr
    have eP : upd (upd H P (.tbl (ps ++ more))) c (LamX.CodeO c q) P = some (.tbl (ps ++ more)) := by rw [upd_ne nPc, upd_same]
    have kp : ∀ a o, H a = some o → notTb o → upd (upd H P (.tbl (ps ++ more))) c (LamX.CodeO c q) a = some o := fun a o ea nt => by
      rw [upd_ne (ne_of_none ea fr)]
      by_cases z : a = P
      · subst z; rw [tP] at ea; exact (nt ps (Option.some.inj ea).symm).elim
      · rw [upd_ne z]; exact ea
    have tbk : TbOk H → TbOk (upd (upd H P (.tbl (ps ++ more))) c (LamX.CodeO c q)) := fun t1 p hp => by
      · obtain ⟨ps0, a1, a2, a3⟩ := t1 p hp
        by_cases z : p.1 = P
        · rw [hu p hp z] at a3 ⊢
          rw [z] at a1 ⊢
          rw [tP] at a1
          cases a1
          refine ⟨ps ++ more, eP, to, fun pos cv hcv => ?_⟩
          rcases ta pos cv hcv with y | y
          · obtain ⟨c0, e1, e2⟩ := a3 pos cv y
            exact ⟨c0, e1, kp _ _ e2 (fun _ z => nomatch z)⟩
          · exact ⟨c, y, upd_same⟩
        · refine ⟨ps0, by rw [upd_ne (ne_of_none a1 fr), upd_ne z]; exact a1, a2, fun pos cv hcv => ?_⟩
          obtain ⟨c0, e1, e2⟩ := a3 pos cv hcv
          exact ⟨c0, e1, kp _ _ e2 (fun _ z => nomatch z)⟩
    have T : Tr Z H O Z (upd (upd H P (.tbl (ps ++ more))) c (LamX.CodeO c q)) O := by
      refine ⟨fun a z => z, fun a z => .inl z, fun a z => .inl z, fun a o ea _ nt => kp a o ea nt, fun a ea => ?_, tbk⟩
      by_cases z : a = c
      · subst z; exact fr
      · rw [upd_ne z] at ea
        by_cases y : a = P
        · subst y; rw [upd_same] at ea; cases ea
        · rw [upd_ne y] at ea; exact ea
    refine ⟨T, ⟨v.nd, v.nz, fun a z ea => v.zs a z (T.nn a ea), fun a m => ?_, tbk v.tb⟩, upd_same⟩
    have mm := v.mu a m
    cases ea : H a with
    | none => rw [ea] at mm; exact mm.elim
    | some o =>
      rw [ea] at mm
      rw [kp a o ea (notTb.of mm.mut)]
      exact mm
end Z
set_option Elab.async false
set_option linter.all false
set_option maxRecDepth 100000
set_option maxHeartbeats 1000000
namespace Z
open PySem L2
section
variable {K : PySem.W.Frag} {mg : Str → Option Value} {W : WX}
/-- eOp_ok, with a tree t of a value v beside, which is the first argument -/
theorem eOp_ok1 {as : List Arg} {h h' : Fn} {sg : St} {H : Hp} {Q : VK} {env : Env} {ph : Nat → V} {Z : Zs} {O : List Addr} {v0 : V} {t0 : P} (A : At K mg ph Z H sg env O) (rt : RP K mg Z H v0 t0) (hh' : ∀ ds, h' (.p t0 :: ds) = h ds)
    (hh : match eOp as h env with
      | .ok d env' => ∀ v H' Z' O' Od, RE K mg Z' H' ph sg env' O' → RD K mg Z' H' v d Od → Vld Z' H' (O' ++ Od) → Tr Z H O Z' H' (O' ++ Od) → Q v H'
      | .exc e env' => XcK K mg W ph Z H O sg e env'
      | .stuck => False) : rAs K mg W as sg H fun vs H1 => Sat K mg false (as.length + 1) h' (v0 :: vs) H1 Q (WE W sg) := by
  refine ⟨env, ph, Z, O, A, ?_⟩
  unfold eOp at hh
  cases e1 : args1 as env with
  | stuck => simp only [e1, ER.bind] at hh
  | exc x env' => simp only [e1, ER.bind] at hh; exact hh
  | ok os env1 =>
    simp only [e1, ER.bind] at hh
    intro vs H1 Z1 O1 Ot r1 ra v1 t1
    have hlen := ra.len
    refine ⟨by rw [List.length_cons, hlen], ?_⟩
    cases e2 : args2 env1 as os with
    | none => simp only [e2] at hh
    | some ds =>
      simp only [e2] at hh
      have A1 : At K mg ph Z1 H1 sg env1 O1 := ⟨r1, v1.left⟩
      obtain ⟨Ob, O2, p, rf, nb, hv⟩ := A1.freezes (as := as)
      have hz : ∀ a, Z1 a → plusZ Z1 Ob a := fun a q => .inl q
      have rds : RDs K mg (plusZ Z1 Ob) H1 vs ds Ot := RAs.go (as0 := as) (fun i d u hd hu m => hv i d u m hd hu) (fun a m => m) hz ra e2
      have vall : Vld (plusZ Z1 Ob) H1 (O2 ++ Ot) := v1.part (p.append_right Ot |>.trans (by rw [List.append_assoc]))
      have vc : Vld (plusZ Z1 Ob) H1 (Ot ++ O2) := vall.perm List.perm_append_comm
      have rt1 : RP K mg (plusZ Z1 Ob) H1 v0 t0 := (rt.kp (Tr.kept (O := O) (F := []) t1 (by rw [List.append_nil]; exact A.vl)) t1.z1).mono hz
      refine ⟨plusZ Z1 Ob, Ot, .p t0 :: ds, rds_cons (O1 := []) (rd_p rt1) rds, vc.left, ?_⟩
      rw [hh']
      have pO : (O1 ++ Ot).Perm ((Ob ++ O2) ++ Ot) := p.append_right Ot
      have tz : Tr Z H O (plusZ Z1 Ob) H1 (Ot ++ O2) := by
        have t2 := t1.perm (List.Perm.refl _) pO
        refine ⟨fun a q => .inl (t2.z1 a q), fun a q => ?_, fun a m => t2.o1 a ?_, t2.kp, t2.nn, t2.tb⟩
        · rcases q with q | q
          · exact t2.z2 a q
          · exact .inr (t2.o1 a (List.mem_append_left _ (List.mem_append_left _ q)))
        · rcases List.mem_append.mp m with q | q
          · exact List.mem_append_right _ q
          · exact List.mem_append_left _ (List.mem_append_right _ q)
      cases e3 : h ds with
      | stuck => simp only [e3] at hh
      | exc x fin =>
        simp only [e3] at hh
        intro cls dx Z2 H2 O3 rfin v2 t2 rx
        have e0 : O3 = [] := by
          have z : RDs K mg Z2 H2 [] [] O3 := rfin
          simpa only [RDs] using z
        subst e0
        have rE2 : RE K mg Z2 H2 ph sg (_root_.Z.freezes env1 as) O2 := At.kp rf vc t2
        have vv := vc.step t2 v2
        exact hh cls dx H2 Z2 O2 ⟨rE2, by simpa using vv⟩ ((tz.trans (t2.frame (F := O2))).perm (List.Perm.refl _) (by simp)) rx
      | ok r fin =>
        simp only [e3] at hh
        intro v Z2 H2 O3 rr v2 t2
        have rr : RD K mg Z2 H2 v r O3 := rds1 rr
        have vv := vc.step t2 v2
        have rf2 : RE K mg Z2 H2 ph sg (_root_.Z.freezes env1 as) O2 := At.kp rf vc t2
        -- what is lent comes back
        have back : (borrows env1 as = true → cleanD r = true) → RE K mg (fun a => Z2 a ∧ a ∉ Ob) H2 ph sg env1 O1 ∧ RD K mg (fun a => Z2 a ∧ a ∉ Ob) H2 v r O3 ∧ Vld (fun a => Z2 a ∧ a ∉ Ob) H2 (O1 ++ O3) ∧ Tr Z H O (fun a => Z2 a ∧ a ∉ Ob) H2 (O1 ++ O3) := fun hc => by
          have nz : ∀ a ∈ Ob, ¬ Z1 a := fun a m q => v1.left.nz a (p.mem_iff.mpr (List.mem_append_left _ m)) q
          have tu : Tr Z1 H1 Ot (fun a => Z2 a ∧ a ∉ Ob) H2 O3 := t2.unplus nz
          have vx : Vld Z1 H1 (Ot ++ O1) := v1.perm List.perm_append_comm
          have vr : Vld (fun a => Z2 a ∧ a ∉ Ob) H2 O3 := ⟨v2.nd, fun a m q => v2.nz a m q.1, fun a q => v2.zs a q.1, v2.mu, v2.tb⟩
          have vfin := vx.step tu vr
          refine ⟨At.kp r1 vx tu, ?_, vfin.perm List.perm_append_comm, ?_⟩
          · cases hb : borrows env1 as with
            | true => exact rr.cl (hc hb)
            | false =>
              have e0 := nb hb
              subst e0
              exact rr.mono fun a q => ⟨q, fun m => by cases m⟩
          · exact (t1.trans ((tu.frame (F := O1)).perm List.perm_append_comm List.perm_append_comm))
        unfold settle at hh
        cases hb : borrows env1 as with
        | false =>
          rw [hb] at hh
          obtain ⟨q1, q2, q3, q4⟩ := back fun z => by rw [hb] at z; cases z
          exact hh v H2 _ O1 O3 q1 q2 q3 q4
        | true =>
          rw [hb] at hh
          cases hc : cleanD r with
          | true =>
            rw [hc] at hh
            obtain ⟨q1, q2, q3, q4⟩ := back fun _ => hc
            exact hh v H2 _ O1 O3 q1 q2 q3 q4
          | false =>
            rw [hc] at hh
            exact hh v H2 Z2 O2 O3 rf2 rr (vv.perm List.perm_append_comm) ((tz.trans (t2.frame (F := O2))).perm (List.Perm.refl _) List.perm_append_comm)
end
def capt : List Nat → Env → Option (List P)
  | [], _ => some []
  | i :: is, env => match env[i]? with
    | some (.var (.p x)) => (capt is env).map (x :: ·)
    | some (.fix (.p x)) => (capt is env).map (x :: ·)
    | _ => none
def envG (g : Nat → Option P) : Nat → Nat → Env
  | _, 0 => []
  | k, n + 1 => (match g k with | some x => Slot.var (.p x) | none => Slot.no) :: envG g (k + 1) n
def envL (is : List Nat) (xs : List P) (n : Nat) : Env := envG (fun i => (is.zip xs).lookup i) 0 n
def thkOut (is : List Nat) (n : Nat) (f : EF) (xs : List P) : TO := match f (envL is xs n) with
  | .ok d _ => .ok (vw d)
  | .exc e _ => .exc e
  | .stuck => .stuck
def eLam (is : List Nat) (n : Nat) (f : EF) (as : List Arg) (h : TO → Fn) : EF := fun env => match capt is (freezes env (vArgs is)) with
  | some xs => eOp as (h (thkOut is n f xs)) (freezes env (vArgs is))
  | none => .stuck
/-- x() of a parameter that holds the thunk t -/
noncomputable def eTh (i : Nat) (t : P) (r : TO) : EF := open Classical in fun env => if env[i]? = some (.var (.p t)) then (match r with
  | .ok x => .ok (.p x) env
  | .exc e => .exc e env
  | .stuck => .stuck) else .stuck
/-- a call that hands the thunk t on -/
noncomputable def gTh (t : P) (h : Fn) : Fn := open Classical in fun ds => if ds.head? = some (.p t) then h ds else .stuck
def Cap (sg : St) : List Nat → List V → Prop
  | [], [] => True
  | i :: is, u :: us => sg[i]? = some (some u) ∧ Cap sg is us
  | _, _ => False
section
variable {K : PySem.W.Frag} {mg : Str → Option Value} {Z : Zs} {H : Hp} {ph : Nat → V} {sg : St}
theorem capt_ok {env : Env} {O : List Addr} (r : RE K mg Z H ph sg env O) : ∀ {is : List Nat} {xs : List P}, capt is env = some xs → ∃ us, Cap sg is us ∧ RPs K mg Z H us xs
  | [], xs, e => by
    cases e
    exact ⟨[], trivial, by simp only [RPs]⟩
  | i :: is, xs, e => by
    unfold capt at e
    have go : ∀ {x : P} {s : Slot}, env[i]? = some s → slotD s = some (.p x) → (capt is env).map (x :: ·) = some xs → ∃ us, Cap sg (i :: is) us ∧ RPs K mg Z H us xs := fun {x s} e0 ed e => by
      cases ec : capt is env with
      | none => rw [ec] at e; cases e
      | some ys =>
        rw [ec] at e
        cases e
        obtain ⟨us, c, rs⟩ := capt_ok r ec
        obtain ⟨v, O1, Or, ev, rsl, _⟩ := r.at e0
        obtain ⟨u, eu, rd⟩ := rsl.val ed
        subst eu
        refine ⟨u :: us, ⟨ev, c⟩, ?_⟩
        simp only [RPs]
        exact ⟨(of_rd_p rd).2, rs⟩
    split at e
    · rename_i x e0
      exact go e0 rfl e
    · rename_i x e0
      exact go e0 rfl e
    · cases e
theorem look_ok : ∀ {is : List Nat} {us : List V} {xs : List P} {i : Nat} {x : P}, Cap sg is us → RPs K mg Z H us xs → (is.zip xs).lookup i = some x → ∃ u, sg[i]? = some (some u) ∧ RP K mg Z H u x
  | [], _, _, _, _, _, _, e => by simp at e
  | j :: is, [], _, _, _, c, _, _ => c.elim
  | j :: is, u :: us, [], _, _, _, _, e => by simp at e
  | j :: is, u :: us, y :: ys, i, x, c, r, e => by
    simp only [RPs] at r
    simp only [List.zip_cons_cons, List.lookup_cons] at e
    by_cases q : i = j
    · subst q
      rw [beq_self_eq_true] at e
      cases e
      exact ⟨u, c.1, r.1⟩
    · rw [show (i == j) = false by simp [q]] at e
      exact look_ok c.2 r.2 e
theorem envG_ok {g : Nat → Option P} : ∀ {n k : Nat} {sg : St}, sg.length = n → (∀ j x, g (k + j) = some x → ∃ u, sg[j]? = some (some u) ∧ RP K mg Z H u x) → RE0 K mg Z H ph k sg (envG g k n) []
  | 0, k, [], _, _ => rfl
  | 0, k, _ :: _, l, _ => by cases l
  | n + 1, k, [], l, _ => by cases l
  | n + 1, k, v :: sg, l, h => by
    refine ⟨[], [], ?_, envG_ok (by simpa using l) fun j x e => ?_, rfl⟩
    · cases e : g k with
      | none => exact rfl
      | some x =>
        obtain ⟨u, eu, r⟩ := h 0 x e
        exact ⟨u, by simpa using eu, rd_p r⟩
    · obtain ⟨u, eu, r⟩ := h (j + 1) x (by rw [← e]; congr 1; omega)
      exact ⟨u, by simpa using eu, r⟩
theorem envL_ok {is : List Nat} {us : List V} {xs : List P} {n : Nat} (hl : sg.length = n) (c : Cap sg is us) (r : RPs K mg Z H us xs) : RE K mg Z H ph sg (envL is xs n) [] :=
  ⟨[], envG_ok hl fun j x e => by rw [Nat.zero_add] at e; exact look_ok c r e, List.Perm.refl _⟩
end
/-- the context of the lambda's body -/
def lamZ (X : Cx) (A : Around) (outer : List PySem.Env) (s : Shared) (H : Hp) (E : XK) (scope : Scope) (f c' : Addr) : Cx :=
  (LamX.lamCx X A outer s H E scope f c').tr [] fun e s' => wpAny (model X.prog X.w) (A.deeper (LamX.lamEnv X scope s.heap.objs.size f c')) (leaving (LamX.lamEnv X scope s.heap.objs.size f c') e) (fun _ s'' => L2N.CX X.prog X.w outer H s E e s'') (fun e' s'' => L2N.CX X.prog X.w outer H s E e' s'') s'
section
variable {X : Cx} {pins : List (Addr × Obj)} {sg : St} {H : Hp} {s : Shared}
theorem thk_of {f c' : Addr} {q : Str} {params : Arguments} {body : Expr} {scope : Scope} {pm ctv : Value} {k n : Nat} {is : List Nat} {us : List V} {xs : List P} {g : EF} (I : Inv X pins sg H s) (hq : X.env.qual ++ "<lambda>" = q) (L : LamX.LamS X.env.scope scope)
    (hf : s.heap.get? f = some (PySem.W.kla_obj "<lambda>" q params body scope (cloFrom X.env.cells scope.names []) pm c' ctv)) (hfn : H f = none) (hfr : f ∉ frs X.stack) (hn : X.N.length = n)
    (hbind : ∀ (q : Str) (cl : List (Str × Addr)) (pm cv ctv : Value), bindArgs (PySem.W.kla_fn "<lambda>" q params body scope cl pm cv ctv) ⟨[], []⟩ = pure [])
    (hbody : ∀ (A : Around) (outer : List PySem.Env) (s : Shared) (H : Hp) (E : XK) (f c' : Addr), Cz (lamZ X A outer s H E scope f c') (fun cls d _ H => E cls d H) k → JE (lamZ X A outer s H E scope f c') (fun cls d _ H => E cls d H) body g)
    (hc : Cap sg is us) : ThkU X.prog X.w X.K X.mg X.base (k + 1) X.stack s H f (.thk f c' q us xs) (thkOut is n g xs) := by
  subst hq
  intro s1 H1 un
  have o1 : s1.heap.get? f = some (PySem.W.kla_obj "<lambda>" (X.env.qual ++ "<lambda>") params body scope (cloFrom X.env.cells scope.names []) pm c' ctv) := un.keep f _ hf hfn hfr (by simp)
  refine ⟨⟨_, _, _, _, o1⟩, fun A1 outer1 Z1 Q E hr e0 rt vl hs => ?_⟩
  simp only [RP] at rt
  obtain ⟨-, co, rs⟩ := rt
  obtain ⟨⟨oc, vs, tt, g1, g2, g3⟩, -, -⟩ := e0.hok c' _ co
  refine PySem.W.kla_callFunE hr.depth o1 rfl L.co L.gen rfl ⟨c', oc, vs, tt, rfl, g1, g2, g3⟩ ?_
  rw [hbind]
  have lim : s1.heap.NoLimit := e0.mod.nolimit.keeps fun b o e => (e0.bs b o e).1
  refine wpAny_pure (wpAny_newFunctionEnv (fun y m => (L.own y m).2) (fun y m => nomatch m) (fun h1 ns sb => ⟨lim.fresh _ sb, ?_⟩) L.kind)
  have J := LamX.lam_start2 (E := E) (f := f) (c' := c') (tk := s1.toks + ([] : List (Str × Value)).length) I L e0 hr.hd un ns fun b o e => sb.extBut b o (Nat.ne_of_lt (Heap.lt_size e)) (Heap.get?_push_of_some _ e)
  have cz : Cz (lamZ X A1 outer1 s1 H1 E scope f c') (fun cls d _ H => E cls d H) k := ⟨rfl, L2N.takes_of rfl rfl rfl rfl, hr.deeper _, passes_of rfl⟩
  have fin : rE X.K X.mg (fun cls d _ H => E cls d H) g sg H1 Q := by
    refine ⟨envL is xs n, fun _ => .non, Z1, [], ⟨envL_ok (I.len.trans hn) hc rs, vl⟩, ?_⟩
    unfold thkOut at hs
    cases eg : g (envL is xs n) with
    | stuck => rw [eg] at hs; exact hs
    | ok d env' =>
      rw [eg] at hs
      intro v H' Z' O' Od r1 r2 v1 t1
      have tz : Tr Z1 H1 [] (plusZ Z' (O' ++ Od)) H' [] := by
        refine ⟨fun a z => .inl (t1.z1 a z), fun a z => ?_, (fun a m => nomatch m), t1.kp, t1.nn, t1.tb⟩
        rcases z with z | z
        · exact t1.z2 a z
        · exact .inr (t1.o1 a z)
      exact hs v _ H' (RD.vw (fun a z => .inl z) (fun a m => .inr (List.mem_append_right _ m)) r2) (v1.part (O := O' ++ Od) (Ob := O' ++ Od) (O2 := []) (by rw [List.append_nil])) tz
    | exc x env' =>
      rw [eg] at hs
      intro cls dx H' Z' O' A' t1 rx
      have tz : Tr Z1 H1 [] (plusZ Z' O') H' [] := by
        refine ⟨fun a z => .inl (t1.z1 a z), fun a z => ?_, (fun a m => nomatch m), t1.kp, t1.nn, t1.tb⟩
        rcases z with z | z
        · exact t1.z2 a z
        · exact .inr (t1.o1 a z)
      refine hs cls dx _ H' (A'.vl.part (O := O') (Ob := O') (O2 := []) (by rw [List.append_nil])) tz ?_
      obtain ⟨cc, d, us', a1, a2, a3, a4, a5, a6, a7⟩ := rx
      exact ⟨cc, d, us', a1, a2, a3, .inl a4, a5, a6, RPs.kp Kp.refl (fun a z => .inl z) a7⟩
  refine PySem.W.kla_codeExpr (wpAny_mono ((hbody A1 outer1 s1 H1 E f c' cz).run [] _ sg H1 Q (J.toTry _) fin) (fun v s' z => ?_) fun e s' z => z)
  obtain ⟨w1, H', J', rv, z⟩ := z
  exact ⟨w1, H', J'.os, J'.bare, J'.base, J'.hok, rv, z⟩
end
end Z
set_option Elab.async false
set_option linter.all false
set_option maxRecDepth 100000
set_option maxHeartbeats 1000000
namespace Z
open PySem L2
/-- the module's name x is a def that keeps h of a thunk t that comes to r (h t r, told all arguments); kk: what a thunk's run may need -/
def OkT (P : Program) (w : World) (K : PySem.W.Frag) (mg : Str → Option Value) (base : Heap) (kk : Nat) (x : Str) (n k : Nat) (h : _root_.Z.P → TO → Fn) : Prop :=
  ∃ g, mg x = some (.ref g) ∧ PySem.W.keepIn K (.ref g) = true ∧ ∀ (A : Around) (outer : List PySem.Env) (s : Shared) (H : Hp) (Q : VK) (E : XK) (f c : Addr) (q : Str) (us : List V) (xs : List _root_.Z.P) (r : TO) (vals : List Value) (vs : List V),
    Room k A → Env0 P w K mg base A outer s H → ThkU P w K mg base kk outer s H f (.thk f c q us xs) r → Vals vs vals → Sat K mg false n (h (.thk f c q us xs) r) (.ref f :: vs) H Q E →
    codeAny (model P w) A (.call (.ref g) ⟨.ref f :: vals, []⟩) (CR (L2N.CX P w) outer P w H s Q E) s
section
variable {P : Program} {w : World} {K : PySem.W.Frag} {mg : Str → Option Value} {base : Heap} {x : Str} {st : Stmt}
theorem okT {N ps : List Str} {k kk j n : Nat} {s : _root_.Z.P → TO → SF} (D : Dt K mg x st) (S : FnScope N ps (defScope st)) (hp : ps.length = n) (hN : N.length = j)
    (hbind : ∀ (kV doc pm : Value) (an : Option Addr) (cdv ct : Value) (us : List Value), us.length = ps.length → bindArgs (PySem.W.fnOf x x (defArgs st) (defBody st) (defScope st) .none kV doc pm an cdv ct) ⟨us, []⟩ = pure (ps.zip us))
    (hb : ∀ (f : Addr) (c : Addr) (q : Str) (us : List V) (xs : List _root_.Z.P) (r : TO) (g : Addr) (cdv : Value) (A : Around) (outer : List PySem.Env) (sh : Shared) (H : Hp) (E : XK), Cz (cxOf (L2N.CX P w) P w K mg base N x (defScope st) g cdv A outer sh H E) (fun cls d _ H => E cls d H) k →
      ThkU P w K mg base kk outer sh H f (.thk f c q us xs) r → JSs (cxOf (L2N.CX P w) P w K mg base N x (defScope st) g cdv A outer sh H E) (fun cls d _ H => E cls d H) (defBody st) (s (.thk f c q us xs) r)) :
    OkT P w K mg base kk x n (k + 1) (fun t r => mkFn false n j (s t r)) := by
  obtain ⟨g, fd, F, hm⟩ := D
  refine ⟨g, hm, F.kp, fun A outer sh H Q E f c q us xs r vals vs hr e0 T rv hs => ?_⟩
  have B := F.bindsN hbind
  obtain ⟨oc, od, dV, kV, doc, pm, an, cdv, ct, osl, e1, lk, hcd, _, _⟩ := F.ex
  subst e1
  have hl : (V.ref f :: vs).length = ps.length := by rw [hp]; exact hs.1
  have kin : K.In sh.heap := e0.mod.kin.keeps fun b o e => (e0.bs b o e).1
  have hv : (Value.ref f :: vals).length = ps.length := by rw [← hl]; simp only [List.length_cons]; rw [rv.length]
  have b := B sh (.ref f :: vals) kin (by rw [List.append_nil]; exact hv)
  rw [List.append_nil] at b
  refine LamX.run_ofS (us := .ref f :: vals) (vs := .ref f :: vs) lk hcd S hr e0 b (.cons rfl rv) hl fun hr' => ?_
  exact ⟨_, hb f c q us xs r g cdv A outer sh H E ⟨rfl, L2N.takes_of rfl rfl rfl rfl, hr', passes_of rfl⟩ T, body_ok (m := false) hN (fun z => Bool.noConfusion z) hs⟩
end
section
variable {X : Cx} {W : WX} {k kk j n : Nat} {x a : Str} {p p1 p2 pos lpos : Pos} {e : Expr} {es : List Expr} {as : List Arg} {i : Nat} {f c : Addr} {q : Str} {us : List V} {xs : List P} {r : TO} {h : P → TO → Fn}
/-- x(), x a parameter that holds a thunk -/
theorem je_thk (C : Cz X W k) (hj : kk ≤ k) (hex : X.ex = []) (T : ThkU X.prog X.w X.K X.mg X.base kk X.outer X.s_0 X.H_0 f (.thk f c q us xs) r) (hN : X.N[i]? = some a) (hv : Vis X.env.scope a)
    (hd : (a == ("__debug__" : Str)) = false := by decide) (hcd : (a == ("__classdict__" : Str)) = false := by decide) : JE X W (.Call (.Name a p1) [] [] p2) (eTh i (.thk f c q us xs) r) := by
  refine ⟨fun pins s sg H Q I hr => ?_⟩
  obtain ⟨env, ph, Z, O, A, hh⟩ := hr
  unfold eTh at hh
  by_cases e0 : env[i]? = some (.var (.p (.thk f c q us xs)))
  · simp only [e0, if_true] at hh
    obtain ⟨v, O1, Or, ev, ⟨u, eu, rd⟩, -, -⟩ := A.re.at e0
    subst eu
    have rp := (of_rd_p rd).2
    have eu : u = .ref f := by simp only [RP] at rp; exact rp.1
    subst eu
    refine wpAny_Call_Name_kw (thn ((pe_var (pos := p1) (i := i) hN hv hd hcd).run pins s sg H (fun v H1 => v = .ref f ∧ H1 = H) I ⟨.ref f, ev, rfl, rfl⟩) fun u s1 ⟨v, H1, I1, r1, q1⟩ => ?_)
    obtain ⟨ev1, eH⟩ := q1
    subst ev1
    rw [eH] at I1
    obtain rfl : u = Value.ref f := r1
    obtain ⟨fa, run⟩ := T s1 H (by have b := I1.base; rw [hex] at b; exact b)
    refine PySem.W.callWith_F0 fa ?_
    have vl0 : Vld Z H [] := (show Vld Z H ([] ++ O) from A.vl).left
    have sat : SatT X.K X.mg r Z H Q (WE W sg) := by
      cases r with
      | stuck => exact hh
      | ok y =>
        simp only at hh
        intro v Z' H' r2 v2 t2
        have vv : Vld Z' H' ([] ++ O) := (show Vld Z H ([] ++ O) from A.vl).step t2 v2
        exact hh v H' Z' O [] (At.kp (O := []) A.re A.vl t2) (rd_p r2) (by rw [List.append_nil]; exact vv) (by rw [List.append_nil]; exact t2.frame (F := O))
      | exc y =>
        simp only at hh
        intro cls dx Z' H' v2 t2 rx
        have vv : Vld Z' H' ([] ++ O) := (show Vld Z H ([] ++ O) from A.vl).step t2 v2
        exact hh cls dx H' Z' O ⟨At.kp (O := []) A.re A.vl t2, vv⟩ (t2.frame (F := O)) rx
    refine wpAny_call (codeAny_mono (run X.A X.stack Z Q (WE W sg) (C.hr.mono hj) I1.env0 rp vl0 sat) fun rr s' hq => ?_)
    cases rr with
    | error e => exact L2N.passAt C.tk sg pins H s1 e s' I1 hq
    | ok fl =>
      cases fl with
      | ret u => exact I1.after hq
      | next => exact hq.elim
      | brk => exact hq.elim
      | cont => exact hq.elim
  · simp only [e0, if_false] at hh
/-- x(y, ..), y a parameter that holds a thunk -/
theorem je_callT (C : Cz X W k) (F : OkT X.prog X.w X.K X.mg X.base kk x n j h) (hj : j ≤ k) (hex : X.ex = []) (T : ThkU X.prog X.w X.K X.mg X.base kk X.outer X.s_0 X.H_0 f (.thk f c q us xs) r) (hg : Gl X x)
    (ha : JAs X W (e :: es) as) (hn : as.length = n) (hdb : (x == ("__debug__" : Str)) = false := by decide) (he : starEach (e :: es) X.env = (false, eval e X.env) :: starEach es X.env := by rfl) (hpl : (backTo pos (starEach es X.env)).any (·.1) = false := by rfl) :
    JE X W (.Call (.Name x p) (e :: es) [] pos) (eOp as (gTh (.thk f c q us xs) (h (.thk f c q us xs) r))) := by
  refine ⟨fun pins s sg H Q I hr => ?_⟩
  have q1 := eOp_ok hr
  obtain ⟨g, hm, hk, run⟩ := F
  refine wpAny_Call_Name_kw (ld_glob I hg hm ?_ hdb)
  refine PySem.W.callWith_K (h₀ := X.base) I.ok.mod.kin hk (thn (ha.run pos pins s sg H _ I q1) fun ws s1 ⟨vs, H1, I1, rv, z⟩ => ⟨I1.kIn, ?_⟩) he hpl
  obtain ⟨hl, Zs, O, ds, rd, vl, z⟩ := z
  unfold gTh at z
  cases ds with
  | nil => simp at z
  | cons d ds =>
    by_cases ed : d = .p (.thk f c q us xs)
    · subst ed
      simp only [List.head?_cons, if_true] at z
      cases vs with
      | nil => simp only [RDs] at rd
      | cons v vs =>
        have rd0 := rd
        simp only [RDs] at rd0
        obtain ⟨Oa, Ob, r1, r2, eO⟩ := rd0
        have rp := (of_rd_p r1).2
        have ev : v = .ref f := by simp only [RP] at rp; exact rp.1
        subst ev
        cases rv with
        | @cons _ u _ vals r0 rv =>
          obtain rfl : u = Value.ref f := r0
          have un : Un (frs X.outer) [] X.H_0 H1 X.s_0.heap s1.heap := by have b := I1.base; rw [hex] at b; exact b
          have T1 : ThkU X.prog X.w X.K X.mg X.base kk X.stack s1 H1 f (.thk f c q us xs) r := by
            rcases I1.ok.stk with e1 | ⟨e1, e2⟩
            · rw [e1]; exact T.later un
            · rw [e1]; exact T.deeper un fun L eL => by rw [e2] at eL; cases eL; exact I1.ok.above
          rw [← hn] at run
          refine wpAny_call (codeAny_mono (run X.A X.stack s1 H1 Q (WE W sg) f c q us xs r vals vs (C.hr.mono hj) I1.env0 T1 rv ⟨hl, Zs, O, _, rd, vl, z⟩) fun rr s' hq => ?_)
          cases rr with
          | error e => exact L2N.passAt C.tk sg pins H1 s1 e s' I1 hq
          | ok fl =>
            cases fl with
            | ret u => exact I1.after hq
            | next => exact hq.elim
            | brk => exact hq.elim
            | cont => exact hq.elim
    · have nz : ¬ (some d = some (D.p (.thk f c q us xs))) := fun z => ed (Option.some.inj z)
      simp only [List.head?_cons, nz, if_false] at z
/-- x(lambda: body, ..) -/
theorem je_lamO {g : EF} {nn : Nat} {is : List Nat} {c0 P0 : Addr} {params : Arguments} {body : Expr} {scope : Scope} (C : Cz X W k) (F : OkT X.prog X.w X.K X.mg X.base kk x n j h) (hj : j ≤ k) (hg : Gl X x) (par : ∀ t r ds, h t r (.p t :: ds) = h .non r (.p .non :: ds))
    (TB : LamX.TabB X.base X.mg c0 P0) (hcode : X.env.code = .ref c0) (hq : X.env.qual ++ "<lambda>" = q) (hmT : (P0, q) ∈ LamT) (hu : ∀ p ∈ LamT, p.1 = P0 → p.2 = q) (L : LamX.LamS X.env.scope scope) (hNl : X.N.length = nn)
    (ha : JAs X W es as) (hn : as.length + 1 = n)
    (hbody : ∀ (A : Around) (outer : List PySem.Env) (s : Shared) (H : Hp) (E : XK) (f c' : Addr) (kq : Nat), kk = kq + 1 → Cz (lamZ X A outer s H E scope f c') (fun cls d _ H => E cls d H) kq → JE (lamZ X A outer s H E scope f c') (fun cls d _ H => E cls d H) body g) (hk1 : 0 < kk)
    (hdef : defaultsOf params X.env = ([], []) := by rfl) (hbind : ∀ (q : Str) (cl : List (Str × Addr)) (pm cv ctv : Value), bindArgs (PySem.W.kla_fn "<lambda>" q params body scope cl pm cv ctv) ⟨[], []⟩ = pure [] := by intros; rfl)
    (hdb : (x == ("__debug__" : Str)) = false := by decide) (he : starEach (.Lambda params body scope lpos :: es) X.env = (false, eval (.Lambda params body scope lpos) X.env) :: starEach es X.env := by rfl) (hpl : (backTo pos (starEach es X.env)).any (·.1) = false := by rfl) :
    JE X W (.Call (.Name x p) (.Lambda params body scope lpos :: es) [] pos) (eLam is nn g as (fun r ds => h .non r (.p .non :: ds))) := by
  refine ⟨fun pins s sg H Q I hr => ?_⟩
  obtain ⟨env, ph, Z, O, A, hh⟩ := hr
  unfold eLam at hh
  obtain ⟨Ob, O2, pp, rf, -, -⟩ := A.freezes (as := vArgs is)
  cases ec : capt is (freezes env (vArgs is)) with
  | none => rw [ec] at hh; exact hh.elim
  | some xs =>
    rw [ec] at hh
    simp only at hh
    obtain ⟨us, cp, rs⟩ := capt_ok rf ec
    have vp : Vld (plusZ Z Ob) H O2 := A.vl.part pp
    have t0 : Tr Z H O (plusZ Z Ob) H O2 := by
      refine ⟨fun a z => .inl z, fun a z => ?_, fun a m => .inl (pp.mem_iff.mpr (List.mem_append_right _ m)), fun _ _ z _ _ => z, fun _ z => z, fun z => z⟩
      rcases z with z | z
      · exact .inl z
      · exact .inr (.inl (pp.mem_iff.mpr (List.mem_append_left _ z)))
    obtain ⟨gf, hm, hk, run⟩ := F
    refine wpAny_Call_Name_kw (ld_glob I hg hm ?_ hdb)
    refine PySem.W.callWith_K (h₀ := X.base) I.ok.mod.kin hk ?_ he hpl
    rw [he]
    show wpAny _ _ (spliced ((false, eval (.Lambda params body scope lpos) X.env) :: backTo pos (starEach es X.env))) _ _ s
    refine Calls.spliced_cons (lam_mk I TB hcode hq (vp.tb _ hmT) hdef L fun f c' pm ctv H1 s1 I1 lh big gf1 fn1 => ?_)
    obtain ⟨t1, v1, hco⟩ := lh.tr hmT hu vp
    have rf1 : RE X.K X.mg (plusZ Z Ob) H1 ph sg (freezes env (vArgs is)) O2 := rf.kp t1.z1 (show Kp (plusZ Z Ob) O2 H H1 from fun a o ea _ nt => by
      rcases lh with ⟨eq, _⟩ | ⟨ps, more, tP, fr, eq, _, _⟩
      · rw [eq]; exact ea
      · rw [eq, upd_ne (ne_of_none ea fr)]
        by_cases z : a = P0
        · subst z; rw [tP] at ea; exact (nt ps (Option.some.inj ea).symm).elim
        · rw [upd_ne z]; exact ea)
    have rs1 : RPs X.K X.mg (plusZ Z Ob) H1 us xs := RPs.kp (Tr.kept (O := O2) (F := []) t1 (by rw [List.append_nil]; exact vp)) t1.z1 rs
    have rt : RP X.K X.mg (plusZ Z Ob) H1 (.ref f) (.thk f c' q us xs) := by simp only [RP]; exact ⟨trivial, hco, rs1⟩
    have nfs : f ∉ frs X.stack := fun m => by
      rcases List.mem_cons.mp (I.stkSub f m) with z | z
      · have y := I.lt
        rw [← z] at y
        exact Nat.lt_irrefl _ (Nat.lt_of_lt_of_le y big)
      · exact I.nofs big z
    have Ip : Inv X ((f, _) :: pins) sg H1 s1 := { I1 with pin := fun p m => by
                                                            rcases List.mem_append.mp m with z | z
                                                            · exact I1.pin p (List.mem_append_left _ z)
                                                            · rcases List.mem_cons.mp z with z | z
                                                              · subst z
                                                                refine ⟨gf1, fn1, fun z => ?_, I.nofs big, fun v z => nomatch z⟩
                                                                have y := I.lt
                                                                rw [← z] at y
                                                                exact Nat.lt_irrefl _ (Nat.lt_of_lt_of_le y big)
                                                              · exact I1.pin p (List.mem_append_right _ z) }
    have qa := eOp_ok1 (W := W) (h' := h (.thk f c' q us xs) (thkOut is nn g xs)) (Q := Q) ⟨rf1, v1⟩ rt (fun ds => par _ _ _) (h := fun ds => h .non (thkOut is nn g xs) (.p .non :: ds)) (as := as) (by
      cases eo : eOp as (fun ds => h .non (thkOut is nn g xs) (.p .non :: ds)) (freezes env (vArgs is)) with
      | stuck => rw [eo] at hh; exact hh
      | ok d env' =>
        rw [eo] at hh
        intro v H' Z' O' Od a1 a2 a3 a4
        exact hh v H' Z' O' Od a1 a2 a3 ((t0.trans t1).trans a4)
      | exc y env' =>
        rw [eo] at hh
        intro cls dx H' Z' O' a1 a2 a3
        exact hh cls dx H' Z' O' a1 ((t0.trans t1).trans a2) a3)
    refine thn (ha.run pos _ s1 sg H1 _ Ip qa) fun ws s2 ⟨vs, H2, I2, rv, z⟩ => ⟨I2.kIn, ?_⟩
    obtain ⟨f2, f3, -, -, -⟩ := I2.pin _ (List.mem_append_right _ List.mem_cons_self)
    have I3 : Inv X pins sg H2 s2 := { I2 with pin := fun p m => by
                                                rcases List.mem_append.mp m with z | z
                                                · exact I2.pin p (List.mem_append_left _ z)
                                                · exact I2.pin p (List.mem_append_right _ (List.mem_cons_of_mem _ z)) }
    obtain ⟨kq, ekk⟩ : ∃ kq, kk = kq + 1 := ⟨kk - 1, by omega⟩
    have T : ThkU X.prog X.w X.K X.mg X.base kk X.stack s2 H2 f (.thk f c' q us xs) (thkOut is nn g xs) := by
      rw [ekk]
      exact thk_of I3 hq L f2 f3 nfs hNl hbind (fun A outer s H E f c' cz => hbody A outer s H E f c' kq ekk cz) cp
    rw [← hn] at run
    refine wpAny_call (codeAny_mono (run X.A X.stack s2 H2 Q (WE W sg) f c' q us xs _ ws vs (C.hr.mono hj) I3.env0 T rv z) fun rr s' hq => ?_)
    cases rr with
    | error e => exact L2N.passAt C.tk sg pins H2 s2 e s' I3 hq
    | ok fl =>
      cases fl with
      | ret u => exact I3.after hq
      | next => exact hq.elim
      | brk => exact hq.elim
      | cont => exact hq.elim
end
end Z
set_option Elab.async false
set_option linter.all false
set_option maxRecDepth 100000
set_option maxHeartbeats 1000000
namespace Z
open PySem L2
/-- Dt, of a def that makes lambdas: its code object's table is at P0 -/
def DtL (K : PySem.W.Frag) (mg : Str → Option Value) (base : Heap) (x : Str) (st : Stmt) (P0 : Addr) : Prop :=
  ∃ f fd c0, FunD K x x (defArgs st) (defBody st) (defScope st) [] [] f fd ∧ mg x = some (.ref f) ∧ fd.code = .ref c0 ∧ LamX.TabB base mg c0 P0
/-- the list's only table at P0, of the name q -/
def LamAt (P0 : Addr) (q : Str) : Prop := (P0, q) ∈ LamT ∧ ∀ p ∈ LamT, p.1 = P0 → p.2 = q
section
variable {P : Program} {w : World} {K : PySem.W.Frag} {mg : Str → Option Value} {base : Heap} {x : Str} {st : Stmt}
theorem okfL {N ps : List Str} {k j n : Nat} {m : Bool} {s : SF} {P0 : Addr} (D : DtL K mg base x st P0) (S : FnScope N ps (defScope st)) (hp : ps.length = n) (hN : N.length = j) (hm : m = true → 0 < n)
    (hbind : ∀ (kV doc pm : Value) (an : Option Addr) (cdv ct : Value) (us : List Value), us.length = ps.length → bindArgs (PySem.W.fnOf x x (defArgs st) (defBody st) (defScope st) .none kV doc pm an cdv ct) ⟨us, []⟩ = pure (ps.zip us))
    (hb : ∀ (f c0 : Addr) (A : Around) (outer : List PySem.Env) (sh : Shared) (H : Hp) (E : XK), LamX.TabB base mg c0 P0 → Cz (cxOf (L2N.CX P w) P w K mg base N x (defScope st) f (.ref c0) A outer sh H E) (fun cls d _ H => E cls d H) k → JSs (cxOf (L2N.CX P w) P w K mg base N x (defScope st) f (.ref c0) A outer sh H E) (fun cls d _ H => E cls d H) (defBody st) s) :
    OkF P w K mg base x n (k + 1) m (mkFn m n j s) := by
  obtain ⟨f, fd, c0, F, g, hc, tb⟩ := D
  have B := F.bindsN hbind
  have kp := F.kp
  obtain ⟨oc, od, dV, kV, doc, pm, an, cdv, ct, osl, e1, lk, hcd, d1, d2⟩ := F.ex
  have ec : cdv = .ref c0 := by rw [e1] at hc; exact hc
  subst ec
  refine ⟨f, fd, ps, ?_, g, kp, B⟩
  rw [e1] at lk ⊢
  exact fn_of lk hcd S (fun vs H Q E h => by rw [hp]; exact h.1) fun A outer sh H vs Q E hr h =>
    ⟨_, hb f c0 A outer sh H E tb ⟨rfl, L2N.takes_of rfl rfl rfl rfl, hr, passes_of rfl⟩, body_ok hN hm h⟩
end
section
variable {X : Cx} {W : WX} {k kk j n : Nat} {x a : Str} {p p1 p2 pos lpos : Pos} {e : Expr} {es : List Expr} {as : List Arg} {f c : Addr} {q : Str} {us : List V} {xs : List P} {r : TO} {h : P → TO → Fn}
theorem kTh (i : Nat) (C : Cz X W k) (T : ThkU X.prog X.w X.K X.mg X.base kk X.outer X.s_0 X.H_0 f (.thk f c q us xs) r) (hN : X.N[i]? = some a := by rfl) (hv : Vis X.env.scope a := by first | exact .inl rfl | exact .inr (.inl rfl) | exact .inr (.inr rfl))
    (hj : kk ≤ k := by first | decide | omega) (hex : X.ex = [] := by rfl) (hd : (a == ("__debug__" : Str)) = false := by decide) (hcd : (a == ("__classdict__" : Str)) = false := by decide) : JE X W (.Call (.Name a p1) [] [] p2) (eTh i (.thk f c q us xs) r) := je_thk C hj hex T hN hv hd hcd
theorem kTc (C : Cz X W k) (F : OkT X.prog X.w X.K X.mg X.base kk x n j h) (T : ThkU X.prog X.w X.K X.mg X.base kk X.outer X.s_0 X.H_0 f (.thk f c q us xs) r) (ha : JAs X W (e :: es) as) (hn : as.length = n := by rfl) (hj : j ≤ k := by first | decide | omega) (hex : X.ex = [] := by rfl) (hg : Gl X x := by rfl)
    (hdb : (x == ("__debug__" : Str)) = false := by decide) (he : starEach (e :: es) X.env = (false, eval e X.env) :: starEach es X.env := by rfl) (hpl : (backTo pos (starEach es X.env)).any (·.1) = false := by rfl) :
    JE X W (.Call (.Name x p) (e :: es) [] pos) (eOp as (gTh (.thk f c q us xs) (h (.thk f c q us xs) r))) := je_callT C F hj hex T hg ha hn hdb he hpl
theorem kLm {g : EF} {is : List Nat} {c0 P0 : Addr} {params : Arguments} {body : Expr} {scope : Scope} (nn : Nat) (C : Cz X W k) (F : OkT X.prog X.w X.K X.mg X.base kk x n j h) (par : ∀ t r ds, h t r (.p t :: ds) = h .non r (.p .non :: ds))
    (TB : LamX.TabB X.base X.mg c0 P0) (l : LamAt P0 q) (L : LamX.lamSB X.env.scope scope = true) (ha : JAs X W es as)
    (hbody : ∀ (A : Around) (outer : List PySem.Env) (s : Shared) (H : Hp) (E : XK) (f c' : Addr) (kq : Nat), kk = kq + 1 → Cz (lamZ X A outer s H E scope f c') (fun cls d _ H => E cls d H) kq → JE (lamZ X A outer s H E scope f c') (fun cls d _ H => E cls d H) body g)
    (hn : as.length + 1 = n := by rfl) (hj : j ≤ k := by first | decide | omega) (hk1 : 0 < kk := by decide) (hg : Gl X x := by rfl) (hcode : X.env.code = .ref c0 := by rfl) (hq : X.env.qual ++ "<lambda>" = q := by rfl) (hNl : X.N.length = nn := by rfl)
    (hdef : defaultsOf params X.env = ([], []) := by rfl) (hbind : ∀ (q : Str) (cl : List (Str × Addr)) (pm cv ctv : Value), bindArgs (PySem.W.kla_fn "<lambda>" q params body scope cl pm cv ctv) ⟨[], []⟩ = pure [] := by intros; rfl)
    (hdb : (x == ("__debug__" : Str)) = false := by decide) (he : starEach (.Lambda params body scope lpos :: es) X.env = (false, eval (.Lambda params body scope lpos) X.env) :: starEach es X.env := by rfl) (hpl : (backTo pos (starEach es X.env)).any (·.1) = false := by rfl) :
    JE X W (.Call (.Name x p) (.Lambda params body scope lpos :: es) [] pos) (eLam is nn g as (fun r ds => h .non r (.p .non :: ds))) :=
  je_lamO C F hj hg par TB hcode hq l.1 l.2 (LamX.lamS_by L) hNl ha hn hbody hk1 hdef hbind hdb he hpl
end
end Z
set_option Elab.async false
set_option linter.all false
set_option maxRecDepth 100000
set_option maxHeartbeats 1000000
namespace Z
open PySem L2 PyProof.Rows
section
variable {prog : Program} {w : World} {A : Around} {R : Result → Shared → Prop} {jt ac : Addr} {fp wr : List Addr} {n : Nat} {PP : Nat → Value → Prop} {Sf : Nat → Heap → Prop}

/-- min's loop; what is compared may look at the heap, as long as what h0 holds (without jt, ac) stands -/
theorem min_turns (V : Walks prog w A.in1 jt fp wr n PP Sf) (bt : Nat → Nat → Bool) (h0 : Heap) (hc : ∀ i j vi vj (s : Shared) (Q E : Value → Shared → Prop), (∀ b o, b ∉ wr → b ≠ ac → h0.get? b = some o → s.heap.get? b = some o) → PP i vi → PP j vj → Q (.bool (bt i j)) s → wpAny (model prog w) A.in1 (richCompare .Lt vi vj) Q E s) (hac : ac ∉ fp) :
    ∀ (m j : Nat) (s : Shared) (best : Value) (c : Nat), n - (j + 1) = m → j + 1 ≤ n → Sf (j + 1) s.heap → PP (argBest bt j) best → (∀ b o, b ∉ wr → b ≠ ac → h0.get? b = some o → s.heap.get? b = some o) →
      s.heap.get? ac = some { cls := .type "list", dict := none, data := .seq #[best, best] c, slots := #[] } →
      (∀ v h' tk, PP (argBest bt (n - 1)) v → (∀ b o, b ∉ wr → b ≠ ac → s.heap.get? b = some o → h'.get? b = some o) → R (.ok (.ret v)) { s with heap := h', toks := tk }) →
      codeAny (model prog w) A (.builtin "min.loop" ⟨[.ref jt, .none, .ref ac], []⟩) R s := by
  have nw : ac ∉ wr := fun z => hac (V.sub _ z)
  have nm : (toString "min" ++ toString ".loop" : String) = "min.loop" := by decide
  intro m
  induction m with
  | zero =>
    intro j s best c em ej st pb g0 ga fin
    obtain rfl : j + 1 = n := by omega
    refine codeAny_builtin PySem.F.entry_min_loop ?_
    rw [Around.under_plainId PySem.F.plain_min_loop _]
    show wpAny _ _ (seqItems? (.ref ac) >>= _) _ _ _
    refine wpAny_bind (wpAny_seqItems ga rfl ?_)
    show wpAny _ _ (tryCatch (pyNext (.ref jt)) _ >>= _) _ _ _
    refine wpAny_bind (wpAny_tryCatch (V.done s _ _ st fun h' tk kp => ?_))
    show wpAny _ _ (updateSeq ac (fun _ => #[]) >>= _) _ _ _
    exact wpAny_bind (wpAny_updateSeq (kp ac _ nw ga) rfl (wpAny_bind (wpAny_letGo (wpAny_pure (fin best _ tk pb fun b o hw hb e => (Heap.get?_update_other _ _ (Ne.symm hb)).trans (kp b o hw e))))))
  | succ m ih =>
    intro j s best c em ej st pb g0 ga fin
    have lt : j + 1 < n := by omega
    refine codeAny_builtin PySem.F.entry_min_loop ?_
    rw [Around.under_plainId PySem.F.plain_min_loop _]
    show wpAny _ _ (seqItems? (.ref ac) >>= _) _ _ _
    refine wpAny_bind (wpAny_seqItems ga rfl ?_)
    show wpAny _ _ (tryCatch (pyNext (.ref jt)) _ >>= _) _ _ _
    refine wpAny_bind (wpAny_tryCatch (V.item (j + 1) s _ _ lt st fun v h' tk pv st' kp => ?_))
    have ga' := kp ac _ nw ga
    have g0' : ∀ b o, b ∉ wr → b ≠ ac → h0.get? b = some o → h'.get? b = some o := fun b o hf hb e => kp b o hf (g0 b o hf hb e)
    show wpAny _ _ (tryCatch (holding [v, v] (richCompare .Lt v best >>= _)) _ >>= _) _ _ _
    refine wpAny_bind (wpAny_tryCatch (wpAny_holding (wpAny_bind (hc (j + 1) (argBest bt j) v best { s with heap := h', toks := tk } _ _ g0' pv pb (wpAny_bind (wpAny_holding (wpAny_truthy_bool ?_)))))))
    refine wpAny_bind (wpAny_letGo (wpAny_pure ?_))
    cases eb : bt (j + 1) (argBest bt j) with
    | true =>
      simp only [if_true]
      refine wpAny_bind (wpAny_updateSeq ga' rfl (wpAny_bind (wpAny_letGo ?_)))
      rw [nm]
      refine wpAny_pure ⟨plainId_quiet PySem.F.plain_min_loop _, ih (j + 1) _ v _ (by omega) lt (V.frame _ _ _ st' fun b hb o e => (Heap.get?_update_other _ _ fun z : ac = b => hac (z ▸ hb)).trans e) (by simp only [argBest, eb, if_true]; exact pv)
        (fun b o hf hb e => (Heap.get?_update_other _ _ (Ne.symm hb)).trans (g0' b o hf hb e)) (Heap.get?_update_self _ ga' rfl) fun v' h2 tk2 pv' k2 => ?_⟩
      exact fin v' h2 tk2 pv' fun b o hw hb e => k2 b o hw hb ((Heap.get?_update_other _ _ (Ne.symm hb)).trans (kp b o hw e))
    | false =>
      simp only [Bool.false_eq_true, if_false]
      refine wpAny_bind (wpAny_letGo ?_)
      rw [nm]
      exact wpAny_pure ⟨plainId_quiet PySem.F.plain_min_loop _, ih (j + 1) _ best c (by omega) lt st' (by simp only [argBest, eb, Bool.false_eq_true, if_false]; exact pb) g0' ga' fun v' h2 tk2 pv' k2 => fin v' h2 tk2 pv' fun b o hw hb e => k2 b o hw hb (kp b o hw e)⟩
theorem min_first (V : Walks prog w A.in1 jt fp wr n PP Sf) (bt : Nat → Nat → Bool) (hn : 0 < n) {s : Shared} {c : Nat} (hc : ∀ i j vi vj (s1 : Shared) (Q E : Value → Shared → Prop), (∀ b o, b ∉ wr → b ≠ ac → s.heap.get? b = some o → s1.heap.get? b = some o) → PP i vi → PP j vj → Q (.bool (bt i j)) s1 → wpAny (model prog w) A.in1 (richCompare .Lt vi vj) Q E s1)
    (hac : ac ∉ fp) (st : Sf 0 s.heap) (ga : s.heap.get? ac = some { cls := .type "list", dict := none, data := .seq #[] c, slots := #[] })
    (fin : ∀ v h' tk, PP (argBest bt (n - 1)) v → (∀ b o, b ∉ wr → b ≠ ac → s.heap.get? b = some o → h'.get? b = some o) → R (.ok (.ret v)) { s with heap := h', toks := tk }) :
    codeAny (model prog w) A (.builtin "min.loop" ⟨[.ref jt, .none, .ref ac], []⟩) R s := by
  have nw : ac ∉ wr := fun z => hac (V.sub _ z)
  have nm : (toString "min" ++ toString ".loop" : String) = "min.loop" := by decide
  refine codeAny_builtin PySem.F.entry_min_loop ?_
  rw [Around.under_plainId PySem.F.plain_min_loop _]
  show wpAny _ _ (seqItems? (.ref ac) >>= _) _ _ _
  refine wpAny_bind (wpAny_seqItems ga rfl ?_)
  show wpAny _ _ (tryCatch (pyNext (.ref jt)) _ >>= _) _ _ _
  refine wpAny_bind (wpAny_tryCatch (V.item 0 s _ _ hn st fun v h' tk pv st' kp => ?_))
  have ga' := kp ac _ nw ga
  show wpAny _ _ (updateSeq ac (fun _ => #[v, v]) >>= _) _ _ _
  refine wpAny_bind (wpAny_updateSeq ga' rfl ?_)
  rw [nm]
  refine wpAny_pure ⟨plainId_quiet PySem.F.plain_min_loop _, min_turns V bt s.heap hc hac _ 0 _ v _ rfl hn (V.frame _ _ _ st' fun b hb o e => (Heap.get?_update_other _ _ fun z : ac = b => hac (z ▸ hb)).trans e) pv
    (fun b o hf hb e => (Heap.get?_update_other _ _ (Ne.symm hb)).trans (kp b o hf e)) (Heap.get?_update_self _ ga' rfl) fun v' h2 tk2 pv' k2 => ?_⟩
  exact fin v' h2 tk2 pv' fun b o hw hb e => k2 b o hw hb ((Heap.get?_update_other _ _ (Ne.symm hb)).trans (kp b o hw e))

/-- max's loop; what is compared may look at the heap, as long as what h0 holds (without jt, ac) stands -/
theorem max_turns (V : Walks prog w A.in1 jt fp wr n PP Sf) (bt : Nat → Nat → Bool) (h0 : Heap) (hc : ∀ i j vi vj (s : Shared) (Q E : Value → Shared → Prop), (∀ b o, b ∉ wr → b ≠ ac → h0.get? b = some o → s.heap.get? b = some o) → PP i vi → PP j vj → Q (.bool (bt i j)) s → wpAny (model prog w) A.in1 (richCompare .Gt vi vj) Q E s) (hac : ac ∉ fp) :
    ∀ (m j : Nat) (s : Shared) (best : Value) (c : Nat), n - (j + 1) = m → j + 1 ≤ n → Sf (j + 1) s.heap → PP (argBest bt j) best → (∀ b o, b ∉ wr → b ≠ ac → h0.get? b = some o → s.heap.get? b = some o) →
      s.heap.get? ac = some { cls := .type "list", dict := none, data := .seq #[best, best] c, slots := #[] } →
      (∀ v h' tk, PP (argBest bt (n - 1)) v → (∀ b o, b ∉ wr → b ≠ ac → s.heap.get? b = some o → h'.get? b = some o) → R (.ok (.ret v)) { s with heap := h', toks := tk }) →
      codeAny (model prog w) A (.builtin "max.loop" ⟨[.ref jt, .none, .ref ac], []⟩) R s := by
  have nw : ac ∉ wr := fun z => hac (V.sub _ z)
  have nm : (toString "max" ++ toString ".loop" : String) = "max.loop" := by decide
  intro m
  induction m with
  | zero =>
    intro j s best c em ej st pb g0 ga fin
    obtain rfl : j + 1 = n := by omega
    refine codeAny_builtin PySem.F.entry_max_loop ?_
    rw [Around.under_plainId PySem.F.plain_max_loop _]
    show wpAny _ _ (seqItems? (.ref ac) >>= _) _ _ _
    refine wpAny_bind (wpAny_seqItems ga rfl ?_)
    show wpAny _ _ (tryCatch (pyNext (.ref jt)) _ >>= _) _ _ _
    refine wpAny_bind (wpAny_tryCatch (V.done s _ _ st fun h' tk kp => ?_))
    show wpAny _ _ (updateSeq ac (fun _ => #[]) >>= _) _ _ _
    exact wpAny_bind (wpAny_updateSeq (kp ac _ nw ga) rfl (wpAny_bind (wpAny_letGo (wpAny_pure (fin best _ tk pb fun b o hw hb e => (Heap.get?_update_other _ _ (Ne.symm hb)).trans (kp b o hw e))))))
  | succ m ih =>
    intro j s best c em ej st pb g0 ga fin
    have lt : j + 1 < n := by omega
    refine codeAny_builtin PySem.F.entry_max_loop ?_
    rw [Around.under_plainId PySem.F.plain_max_loop _]
    show wpAny _ _ (seqItems? (.ref ac) >>= _) _ _ _
    refine wpAny_bind (wpAny_seqItems ga rfl ?_)
    show wpAny _ _ (tryCatch (pyNext (.ref jt)) _ >>= _) _ _ _
    refine wpAny_bind (wpAny_tryCatch (V.item (j + 1) s _ _ lt st fun v h' tk pv st' kp => ?_))
    have ga' := kp ac _ nw ga
    have g0' : ∀ b o, b ∉ wr → b ≠ ac → h0.get? b = some o → h'.get? b = some o := fun b o hf hb e => kp b o hf (g0 b o hf hb e)
    show wpAny _ _ (tryCatch (holding [v, v] (richCompare .Gt v best >>= _)) _ >>= _) _ _ _
    refine wpAny_bind (wpAny_tryCatch (wpAny_holding (wpAny_bind (hc (j + 1) (argBest bt j) v best { s with heap := h', toks := tk } _ _ g0' pv pb (wpAny_bind (wpAny_holding (wpAny_truthy_bool ?_)))))))
    refine wpAny_bind (wpAny_letGo (wpAny_pure ?_))
    cases eb : bt (j + 1) (argBest bt j) with
    | true =>
      simp only [if_true]
      refine wpAny_bind (wpAny_updateSeq ga' rfl (wpAny_bind (wpAny_letGo ?_)))
      rw [nm]
      refine wpAny_pure ⟨plainId_quiet PySem.F.plain_max_loop _, ih (j + 1) _ v _ (by omega) lt (V.frame _ _ _ st' fun b hb o e => (Heap.get?_update_other _ _ fun z : ac = b => hac (z ▸ hb)).trans e) (by simp only [argBest, eb, if_true]; exact pv)
        (fun b o hf hb e => (Heap.get?_update_other _ _ (Ne.symm hb)).trans (g0' b o hf hb e)) (Heap.get?_update_self _ ga' rfl) fun v' h2 tk2 pv' k2 => ?_⟩
      exact fin v' h2 tk2 pv' fun b o hw hb e => k2 b o hw hb ((Heap.get?_update_other _ _ (Ne.symm hb)).trans (kp b o hw e))
    | false =>
      simp only [Bool.false_eq_true, if_false]
      refine wpAny_bind (wpAny_letGo ?_)
      rw [nm]
      exact wpAny_pure ⟨plainId_quiet PySem.F.plain_max_loop _, ih (j + 1) _ best c (by omega) lt st' (by simp only [argBest, eb, Bool.false_eq_true, if_false]; exact pb) g0' ga' fun v' h2 tk2 pv' k2 => fin v' h2 tk2 pv' fun b o hw hb e => k2 b o hw hb (kp b o hw e)⟩
theorem max_first (V : Walks prog w A.in1 jt fp wr n PP Sf) (bt : Nat → Nat → Bool) (hn : 0 < n) {s : Shared} {c : Nat} (hc : ∀ i j vi vj (s1 : Shared) (Q E : Value → Shared → Prop), (∀ b o, b ∉ wr → b ≠ ac → s.heap.get? b = some o → s1.heap.get? b = some o) → PP i vi → PP j vj → Q (.bool (bt i j)) s1 → wpAny (model prog w) A.in1 (richCompare .Gt vi vj) Q E s1)
    (hac : ac ∉ fp) (st : Sf 0 s.heap) (ga : s.heap.get? ac = some { cls := .type "list", dict := none, data := .seq #[] c, slots := #[] })
    (fin : ∀ v h' tk, PP (argBest bt (n - 1)) v → (∀ b o, b ∉ wr → b ≠ ac → s.heap.get? b = some o → h'.get? b = some o) → R (.ok (.ret v)) { s with heap := h', toks := tk }) :
    codeAny (model prog w) A (.builtin "max.loop" ⟨[.ref jt, .none, .ref ac], []⟩) R s := by
  have nw : ac ∉ wr := fun z => hac (V.sub _ z)
  have nm : (toString "max" ++ toString ".loop" : String) = "max.loop" := by decide
  refine codeAny_builtin PySem.F.entry_max_loop ?_
  rw [Around.under_plainId PySem.F.plain_max_loop _]
  show wpAny _ _ (seqItems? (.ref ac) >>= _) _ _ _
  refine wpAny_bind (wpAny_seqItems ga rfl ?_)
  show wpAny _ _ (tryCatch (pyNext (.ref jt)) _ >>= _) _ _ _
  refine wpAny_bind (wpAny_tryCatch (V.item 0 s _ _ hn st fun v h' tk pv st' kp => ?_))
  have ga' := kp ac _ nw ga
  show wpAny _ _ (updateSeq ac (fun _ => #[v, v]) >>= _) _ _ _
  refine wpAny_bind (wpAny_updateSeq ga' rfl ?_)
  rw [nm]
  refine wpAny_pure ⟨plainId_quiet PySem.F.plain_max_loop _, max_turns V bt s.heap hc hac _ 0 _ v _ rfl hn (V.frame _ _ _ st' fun b hb o e => (Heap.get?_update_other _ _ fun z : ac = b => hac (z ▸ hb)).trans e) pv
    (fun b o hf hb e => (Heap.get?_update_other _ _ (Ne.symm hb)).trans (kp b o hf e)) (Heap.get?_update_self _ ga' rfl) fun v' h2 tk2 pv' k2 => ?_⟩
  exact fin v' h2 tk2 pv' fun b o hw hb e => k2 b o hw hb ((Heap.get?_update_other _ _ (Ne.symm hb)).trans (kp b o hw e))
end
section
variable {prog : Program} {w : World} {A : Around}

theorem min_walk {x : Value} {Q E : Value → Shared → Prop} {s : Shared}
    (h : wpAny (model prog w) A.in1 (pyIter x) (fun it s2 => ∃ jt fp wr n PP Sf bt, it = .ref jt ∧ Walks prog w A.in1 jt fp wr n PP Sf ∧ Sf 0 s2.heap ∧ (∀ b ∈ fp, b < s2.heap.objs.size) ∧ 0 < n ∧
      (∀ i j vi vj (s1 : Shared) (Q E : Value → Shared → Prop), (∀ b o, b ∉ wr → s2.heap.get? b = some o → s1.heap.get? b = some o) → PP i vi → PP j vj → Q (.bool (bt i j)) s1 → wpAny (model prog w) A.in1 (richCompare .Lt vi vj) Q E s1) ∧
      ∀ v h' tk, PP (argBest bt (n - 1)) v → (∀ b o, b ∉ wr → s2.heap.get? b = some o → h'.get? b = some o) → Q v { s2 with heap := h', toks := tk }) E s) :
    wpAny (model prog w) A (call (.builtin "min") [x]) Q E s := by
  have nm : (toString "min" ++ toString ".loop" : String) = "min.loop" := by decide
  refine call_function_tree PySem.F.kind_min PySem.F.plain_min PySem.F.entry_min (PySem.F.args_min1 _) ?_
  show wpAny _ _ (Builtin.Builtins.bindParams "min" ["key", "default"] 0 ⟨[], []⟩ >>= _) _ _ _
  refine wpAny_bind (wpAny_of_eq (show Builtin.Builtins.bindParams "min" ["key", "default"] 0 ⟨[], []⟩ = pure [none, none] from rfl) (wpAny_bind (wpAny_pure ?_)))
  refine wpAny_bind (wpAny_mono h (fun it s2 q => ?_) fun _ _ e => e)
  obtain ⟨jt, fp, wr, n, PP, Sf, bt, rfl, V, st, hf, hn, hc, fin⟩ := q
  refine wpAny_bind (wpAny_newObj_type ?_)
  have na : s2.heap.objs.size ∉ fp := fun z => Nat.lt_irrefl _ (hf _ z)
  rw [nm]
  refine wpAny_pure ⟨plainId_quiet PySem.F.plain_min_loop _, min_first V bt hn (ac := s2.heap.objs.size) (fun i j vi vj s1 Q E kk => hc i j vi vj s1 Q E fun b o hb e => kk b o hb (Nat.ne_of_lt (Heap.lt_size e)) (Heap.get?_push_of_some _ e)) na (V.frame _ _ _ st fun b _ o e => Heap.get?_push_of_some _ e) (Heap.get?_push_size _ rfl) fun v h' tk pv kk => ?_⟩
  exact fin v h' tk pv fun b o hw e => kk b o hw (Nat.ne_of_lt (Heap.lt_size e)) (Heap.get?_push_of_some _ e)

theorem max_walk {x : Value} {Q E : Value → Shared → Prop} {s : Shared}
    (h : wpAny (model prog w) A.in1 (pyIter x) (fun it s2 => ∃ jt fp wr n PP Sf bt, it = .ref jt ∧ Walks prog w A.in1 jt fp wr n PP Sf ∧ Sf 0 s2.heap ∧ (∀ b ∈ fp, b < s2.heap.objs.size) ∧ 0 < n ∧
      (∀ i j vi vj (s1 : Shared) (Q E : Value → Shared → Prop), (∀ b o, b ∉ wr → s2.heap.get? b = some o → s1.heap.get? b = some o) → PP i vi → PP j vj → Q (.bool (bt i j)) s1 → wpAny (model prog w) A.in1 (richCompare .Gt vi vj) Q E s1) ∧
      ∀ v h' tk, PP (argBest bt (n - 1)) v → (∀ b o, b ∉ wr → s2.heap.get? b = some o → h'.get? b = some o) → Q v { s2 with heap := h', toks := tk }) E s) :
    wpAny (model prog w) A (call (.builtin "max") [x]) Q E s := by
  have nm : (toString "max" ++ toString ".loop" : String) = "max.loop" := by decide
  refine call_function_tree PySem.F.kind_max PySem.F.plain_max PySem.F.entry_max (PySem.F.args_max1 _) ?_
  show wpAny _ _ (Builtin.Builtins.bindParams "max" ["key", "default"] 0 ⟨[], []⟩ >>= _) _ _ _
  refine wpAny_bind (wpAny_of_eq (show Builtin.Builtins.bindParams "max" ["key", "default"] 0 ⟨[], []⟩ = pure [none, none] from rfl) (wpAny_bind (wpAny_pure ?_)))
  refine wpAny_bind (wpAny_mono h (fun it s2 q => ?_) fun _ _ e => e)
  obtain ⟨jt, fp, wr, n, PP, Sf, bt, rfl, V, st, hf, hn, hc, fin⟩ := q
  refine wpAny_bind (wpAny_newObj_type ?_)
  have na : s2.heap.objs.size ∉ fp := fun z => Nat.lt_irrefl _ (hf _ z)
  rw [nm]
  refine wpAny_pure ⟨plainId_quiet PySem.F.plain_max_loop _, max_first V bt hn (ac := s2.heap.objs.size) (fun i j vi vj s1 Q E kk => hc i j vi vj s1 Q E fun b o hb e => kk b o hb (Nat.ne_of_lt (Heap.lt_size e)) (Heap.get?_push_of_some _ e)) na (V.frame _ _ _ st fun b _ o e => Heap.get?_push_of_some _ e) (Heap.get?_push_size _ rfl) fun v h' tk pv kk => ?_⟩
  exact fin v h' tk pv fun b o hw e => kk b o hw (Nat.ne_of_lt (Heap.lt_size e)) (Heap.get?_push_of_some _ e)
end
/-- the best one: each next one is taken where it is better -/
def bestP (bt : P → P → Bool) : P → List P → P
  | b, [] => b
  | b, x :: xs => bestP bt (if bt x b then x else b) xs
def okAll (xs : List P) : Bool := decide (xs.length ≤ lineN) && xs.all fun x => xs.all fun y => okCmp x y
def ltC (x y : P) : Bool := cmpP x y == .lt
def gtC (x y : P) : Bool := cmpP x y == .gt
def bBest (bt : P → P → Bool) : List P → Option P
  | [.lst (x :: xs)] => if okAll (x :: xs) then some (bestP bt x xs) else none
  | [.tup (x :: xs)] => if okAll (x :: xs) then some (bestP bt x xs) else none
  | _ => none
def btAt (bt : P → P → Bool) (l : List P) (i j : Nat) : Bool := match l[i]?, l[j]? with
  | some a, some b => bt a b
  | _, _ => false
theorem best_at (bt : P → P → Bool) (x : P) (xs : List P) : ∀ k, k ≤ xs.length → (x :: xs)[argBest (btAt bt (x :: xs)) k]? = some (bestP bt x (xs.take k))
  | 0, _ => by simp [argBest, bestP]
  | k + 1, h => by
    have ih := best_at bt x xs k (by omega)
    have snoc : ∀ (b : P) (l : List P) (y : P), bestP bt b (l ++ [y]) = if bt y (bestP bt b l) then y else bestP bt b l := by
      intro b l
      induction l generalizing b with
      | nil => intro y; rfl
      | cons z l ih => intro y; simp only [List.cons_append, bestP]; exact ih _ y
    have hk : k < xs.length := by omega
    have e1 : (x :: xs)[k + 1]? = some xs[k] := by simp [hk]
    have e2 : xs.take (k + 1) = xs.take k ++ [xs[k]] := by rw [List.take_succ_eq_append_getElem hk]
    rw [e2, snoc]
    simp only [argBest]
    have e3 : btAt bt (x :: xs) (k + 1) (argBest (btAt bt (x :: xs)) k) = bt xs[k] (bestP bt x (xs.take k)) := by
      simp only [btAt, e1, ih]
    rw [e3]
    by_cases q : bt xs[k] (bestP bt x (xs.take k)) = true
    · simp only [q, if_true]; exact e1
    · simp only [q, if_false]; exact ih
section
variable {X : Cx} {W : WX} {k : Nat}
theorem okAll_inv {xs : List P} (h : okAll xs = true) : xs.length ≤ lineN ∧ okOs 30 xs = true ∧ ∀ (i j : Nat) (x y : P), xs[i]? = some x → xs[j]? = some y → okCmp x y = true := by
  unfold okAll at h
  simp only [Bool.and_eq_true, List.all_eq_true, decide_eq_true_eq] at h
  exact ⟨h.1, okOs_sort fun x m => (okCmp_inv (h.2 x m x m)).1, fun i j x y e1 e2 => h.2 x (List.mem_of_getElem? e1) y (List.mem_of_getElem? e2)⟩
theorem tvs_at {h : Heap} : ∀ {xs : List P} {its : List Value} {i : Nat} {x : P}, TVs h xs its → xs[i]? = some x → ∃ v, its[i]? = some v ∧ TV h x v
  | [], _, i, x, _, e => by simp at e
  | _ :: _, [], _, _, h, _ => by simp only [TVs] at h
  | y :: ys, v :: vs, 0, x, h, e => by
    simp only [TVs] at h
    have : y = x := by simpa using e
    subst this
    exact ⟨v, rfl, h.1⟩
  | y :: ys, v :: vs, i + 1, x, h, e => by
    simp only [TVs] at h
    obtain ⟨u, e1, e2⟩ := tvs_at h.2 (i := i) (by simpa using e)
    exact ⟨u, by simpa using e1, e2⟩
theorem rps_at {K : PySem.W.Frag} {mg : Str → Option Value} {Z : Zs} {H : Hp} : ∀ {xs : List P} {us : List V} {its : List Value} {i : Nat} {x : P} {v : Value}, RPs K mg Z H us xs → Vals us its → xs[i]? = some x → its[i]? = some v → ∃ u, RelV u v ∧ RP K mg Z H u x
  | [], _, _, i, x, v, _, _, e, _ => by simp at e
  | _ :: _, [], _, _, _, _, h, _, _, _ => by simp only [RPs] at h
  | y :: ys, u :: us, _, 0, x, v, h, .cons r1 r2, e, e2 => by
    simp only [RPs] at h
    have a : y = x := by simpa using e
    subst a
    cases (show some _ = some v from e2)
    exact ⟨u, r1, h.1⟩
  | y :: ys, u :: us, _, i + 1, x, v, h, .cons r1 r2, e, e2 => by
    simp only [RPs] at h
    exact rps_at h.2 r2 (i := i) (by simpa using e) (by simpa using e2)
/-- the comparisons of the walk -/
theorem cmp_walk {prog : Program} {w : World} {op : CmpOp} {g : Ordering → Bool} (hg : ∀ {A : Around} {s : Shared} {v u : Value} {o : Ordering}, Rc4 A s v u o → Ob.RcOp op A s v u (g o)) {A : Around} {l : List P} {its : List Value} {h0 : Heap} (tv : TVs h0 l its) (ok : okAll l = true) (hu : A.units + 60 < cLine)
    {i j : Nat} {vi vj : Value} {s1 : Shared} {Q E : Value → Shared → Prop} (kk : KpT h0 s1.heap) (hi : its[i]? = some vi) (hj : its[j]? = some vj) (hq : Q (.bool (btAt (fun x y => g (cmpP x y)) l i j)) s1) : wpAny (model prog w) A (richCompare op vi vj) Q E s1 := by
  obtain ⟨x, e1, t1⟩ := tv.get hi
  obtain ⟨y, e2, t2⟩ := tv.get hj
  obtain ⟨c1, c2, c3⟩ := okCmp_inv ((okAll_inv ok).2.2 i j x y e1 e2)
  refine hg (rc4 (t1.kp kk) (t2.kp kk) c1 c2 c3 (by omega)) prog w E Q ?_
  simpa only [btAt, e1, e2] using hq
end
section
variable {X : Cx} {W : WX} {k : Nat}
theorem cv_minL (C : Cz X W k) : CallV X (.builtin "min") (bBest ltC) := by
  intro pins s sg H xs us Q I r ⟨Z, as, y, ra, e, q⟩
  unfold bBest at e
  split at e
  · rename_i x ys
    split at e
    · rename_i ok
      cases e
      obtain ⟨v, ew, rv⟩ := rps1 ra
      subst ew
      simp only [RP] at rv
      obtain ⟨a, ws, e1, _, sq, rw_⟩ := rv
      subst e1
      obtain ⟨its, rv, hL, hz⟩ := I.list (show SqL X.K H a ws from .inl (.inl sq))
      obtain ⟨u, eu, ru⟩ := vals1 r
      subst eu
      obtain rfl : u = Value.ref a := ru
      have tv : TVs s.heap (x :: ys) its := tvs_of I rw_ rv (okAll_inv ok).2.1
      have hl := hL.isList
      have hlen : its.toArray.size = ys.length + 1 := by rw [List.size_toArray, ← tv.length, List.length_cons]
      have lta : a < s.heap.objs.size := by obtain ⟨_, g, _⟩ := hl; exact Heap.lt_size g
      have nl : ∀ o, s.heap.get? a = some o → o.cls = .type "list" := fun o g => by
        obtain ⟨o1, g1, c1, _⟩ := hl
        rw [g1] at g
        cases g
        exact c1
      refine min_walk (wpAny_pyIter_list hl ⟨_, [s.heap.objs.size, a], [s.heap.objs.size], _, _, _, btAt ltC (x :: ys), rfl, Walks.list (A := X.A.in1) (I.ok.hd C.calm) s.heap.objs.size a (Nat.ne_of_lt lta) its.toArray, ⟨⟨_, Heap.get?_push_size _ rfl, rfl, rfl⟩, hl.push _⟩, fun b hb => ?_, by rw [hlen]; omega, fun i j vi vj s1 Q E kk hi hj hq => ?_, fun v h' tk hv kk => ?_⟩)
      · show b < (s.heap.push _).objs.size
        rw [Heap.size_push]
        rcases List.mem_cons.mp hb with z | z
        · subst z; exact Nat.lt_succ_self _
        · rcases List.mem_cons.mp z with z | z
          · subst z; exact Nat.lt_succ_of_lt lta
          · cases z
      · exact cmp_walk (g := fun o => o == .lt) (fun z => z.lt) tv ok (by have := C.ru.un; rw [units_in1]; omega) (fun b o g _ => kk b o (fun z => Nat.lt_irrefl _ (by have := Heap.lt_size g; rw [List.mem_singleton.mp z] at this; exact this)) (Heap.get?_push_of_some _ g)) (by simpa using hi) (by simpa using hj) hq
      · have hv2 : its[argBest (btAt ltC (x :: ys)) ys.length]? = some v := by
          rw [hlen] at hv
          simpa using hv
        have hb := best_at ltC x ys ys.length (Nat.le_refl _)
        rw [List.take_length] at hb
        obtain ⟨z, rz, pz⟩ := rps_at rw_ rv hb hv2
        exact ⟨z, H, I.kept fun b o g => kk b o (fun z => Nat.lt_irrefl _ (by have := Heap.lt_size g; rw [List.mem_singleton.mp z] at this; exact this)) (Heap.get?_push_of_some _ g), rz, got_p q pz⟩
    · cases e
  · rename_i x ys
    split at e
    · rename_i ok
      cases e
      obtain ⟨v, ew, rv⟩ := rps1 ra
      subst ew
      simp only [RP] at rv
      obtain ⟨a, ws, e1, sq, rw_⟩ := rv
      subst e1
      obtain ⟨its, rv, hT, hz⟩ := I.tuple sq.1
      obtain ⟨u, eu, ru⟩ := vals1 r
      subst eu
      obtain rfl : u = Value.ref a := ru
      have tv : TVs s.heap (x :: ys) its := tvs_of I rw_ rv (okAll_inv ok).2.1
      have hlen : its.toArray.size = ys.length + 1 := by rw [List.size_toArray, ← tv.length, List.length_cons]
      have lta : a < s.heap.objs.size := hT.lt
      refine min_walk (wpAny_pyIter_tuple (show s.heap.IsTuple a its.toArray from hT) ⟨_, [s.heap.objs.size, a], [s.heap.objs.size], _, _, _, btAt ltC (x :: ys), rfl, Walks.tuple (A := X.A.in1) (I.ok.hd C.calm) s.heap.objs.size a (Nat.ne_of_lt lta) its.toArray, ⟨⟨_, Heap.get?_push_size _ rfl, rfl, rfl⟩, (by obtain ⟨o, g1, g2⟩ := hT; exact ⟨o, Heap.get?_push_of_some _ g1, g2⟩)⟩, fun b hb => ?_, by rw [hlen]; omega, fun i j vi vj s1 Q E kk hi hj hq => ?_, fun v h' tk hv kk => ?_⟩)
      · show b < (s.heap.push _).objs.size
        rw [Heap.size_push]
        rcases List.mem_cons.mp hb with z | z
        · subst z; exact Nat.lt_succ_self _
        · rcases List.mem_cons.mp z with z | z
          · subst z; exact Nat.lt_succ_of_lt lta
          · cases z
      · exact cmp_walk (g := fun o => o == .lt) (fun z => z.lt) tv ok (by have := C.ru.un; rw [units_in1]; omega) (fun b o g _ => kk b o (fun z => Nat.lt_irrefl _ (by have := Heap.lt_size g; rw [List.mem_singleton.mp z] at this; exact this)) (Heap.get?_push_of_some _ g)) (by simpa using hi) (by simpa using hj) hq
      · have hv2 : its[argBest (btAt ltC (x :: ys)) ys.length]? = some v := by
          rw [hlen] at hv
          simpa using hv
        have hb := best_at ltC x ys ys.length (Nat.le_refl _)
        rw [List.take_length] at hb
        obtain ⟨z, rz, pz⟩ := rps_at rw_ rv hb hv2
        exact ⟨z, H, I.kept fun b o g => kk b o (fun z => Nat.lt_irrefl _ (by have := Heap.lt_size g; rw [List.mem_singleton.mp z] at this; exact this)) (Heap.get?_push_of_some _ g), rz, got_p q pz⟩
    · cases e
  · cases e

theorem cv_maxL (C : Cz X W k) : CallV X (.builtin "max") (bBest gtC) := by
  intro pins s sg H xs us Q I r ⟨Z, as, y, ra, e, q⟩
  unfold bBest at e
  split at e
  · rename_i x ys
    split at e
    · rename_i ok
      cases e
      obtain ⟨v, ew, rv⟩ := rps1 ra
      subst ew
      simp only [RP] at rv
      obtain ⟨a, ws, e1, _, sq, rw_⟩ := rv
      subst e1
      obtain ⟨its, rv, hL, hz⟩ := I.list (show SqL X.K H a ws from .inl (.inl sq))
      obtain ⟨u, eu, ru⟩ := vals1 r
      subst eu
      obtain rfl : u = Value.ref a := ru
      have tv : TVs s.heap (x :: ys) its := tvs_of I rw_ rv (okAll_inv ok).2.1
      have hl := hL.isList
      have hlen : its.toArray.size = ys.length + 1 := by rw [List.size_toArray, ← tv.length, List.length_cons]
      have lta : a < s.heap.objs.size := by obtain ⟨_, g, _⟩ := hl; exact Heap.lt_size g
      have nl : ∀ o, s.heap.get? a = some o → o.cls = .type "list" := fun o g => by
        obtain ⟨o1, g1, c1, _⟩ := hl
        rw [g1] at g
        cases g
        exact c1
      refine max_walk (wpAny_pyIter_list hl ⟨_, [s.heap.objs.size, a], [s.heap.objs.size], _, _, _, btAt gtC (x :: ys), rfl, Walks.list (A := X.A.in1) (I.ok.hd C.calm) s.heap.objs.size a (Nat.ne_of_lt lta) its.toArray, ⟨⟨_, Heap.get?_push_size _ rfl, rfl, rfl⟩, hl.push _⟩, fun b hb => ?_, by rw [hlen]; omega, fun i j vi vj s1 Q E kk hi hj hq => ?_, fun v h' tk hv kk => ?_⟩)
      · show b < (s.heap.push _).objs.size
        rw [Heap.size_push]
        rcases List.mem_cons.mp hb with z | z
        · subst z; exact Nat.lt_succ_self _
        · rcases List.mem_cons.mp z with z | z
          · subst z; exact Nat.lt_succ_of_lt lta
          · cases z
      · exact cmp_walk (g := fun o => o == .gt) (fun z => z.gt) tv ok (by have := C.ru.un; rw [units_in1]; omega) (fun b o g _ => kk b o (fun z => Nat.lt_irrefl _ (by have := Heap.lt_size g; rw [List.mem_singleton.mp z] at this; exact this)) (Heap.get?_push_of_some _ g)) (by simpa using hi) (by simpa using hj) hq
      · have hv2 : its[argBest (btAt gtC (x :: ys)) ys.length]? = some v := by
          rw [hlen] at hv
          simpa using hv
        have hb := best_at gtC x ys ys.length (Nat.le_refl _)
        rw [List.take_length] at hb
        obtain ⟨z, rz, pz⟩ := rps_at rw_ rv hb hv2
        exact ⟨z, H, I.kept fun b o g => kk b o (fun z => Nat.lt_irrefl _ (by have := Heap.lt_size g; rw [List.mem_singleton.mp z] at this; exact this)) (Heap.get?_push_of_some _ g), rz, got_p q pz⟩
    · cases e
  · rename_i x ys
    split at e
    · rename_i ok
      cases e
      obtain ⟨v, ew, rv⟩ := rps1 ra
      subst ew
      simp only [RP] at rv
      obtain ⟨a, ws, e1, sq, rw_⟩ := rv
      subst e1
      obtain ⟨its, rv, hT, hz⟩ := I.tuple sq.1
      obtain ⟨u, eu, ru⟩ := vals1 r
      subst eu
      obtain rfl : u = Value.ref a := ru
      have tv : TVs s.heap (x :: ys) its := tvs_of I rw_ rv (okAll_inv ok).2.1
      have hlen : its.toArray.size = ys.length + 1 := by rw [List.size_toArray, ← tv.length, List.length_cons]
      have lta : a < s.heap.objs.size := hT.lt
      refine max_walk (wpAny_pyIter_tuple (show s.heap.IsTuple a its.toArray from hT) ⟨_, [s.heap.objs.size, a], [s.heap.objs.size], _, _, _, btAt gtC (x :: ys), rfl, Walks.tuple (A := X.A.in1) (I.ok.hd C.calm) s.heap.objs.size a (Nat.ne_of_lt lta) its.toArray, ⟨⟨_, Heap.get?_push_size _ rfl, rfl, rfl⟩, (by obtain ⟨o, g1, g2⟩ := hT; exact ⟨o, Heap.get?_push_of_some _ g1, g2⟩)⟩, fun b hb => ?_, by rw [hlen]; omega, fun i j vi vj s1 Q E kk hi hj hq => ?_, fun v h' tk hv kk => ?_⟩)
      · show b < (s.heap.push _).objs.size
        rw [Heap.size_push]
        rcases List.mem_cons.mp hb with z | z
        · subst z; exact Nat.lt_succ_self _
        · rcases List.mem_cons.mp z with z | z
          · subst z; exact Nat.lt_succ_of_lt lta
          · cases z
      · exact cmp_walk (g := fun o => o == .gt) (fun z => z.gt) tv ok (by have := C.ru.un; rw [units_in1]; omega) (fun b o g _ => kk b o (fun z => Nat.lt_irrefl _ (by have := Heap.lt_size g; rw [List.mem_singleton.mp z] at this; exact this)) (Heap.get?_push_of_some _ g)) (by simpa using hi) (by simpa using hj) hq
      · have hv2 : its[argBest (btAt gtC (x :: ys)) ys.length]? = some v := by
          rw [hlen] at hv
          simpa using hv
        have hb := best_at gtC x ys ys.length (Nat.le_refl _)
        rw [List.take_length] at hb
        obtain ⟨z, rz, pz⟩ := rps_at rw_ rv hb hv2
        exact ⟨z, H, I.kept fun b o g => kk b o (fun z => Nat.lt_irrefl _ (by have := Heap.lt_size g; rw [List.mem_singleton.mp z] at this; exact this)) (Heap.get?_push_of_some _ g), rz, got_p q pz⟩
    · cases e
  · cases e
end
end Z
set_option Elab.async false
set_option linter.all false
set_option maxRecDepth 100000
set_option maxHeartbeats 1000000
namespace Z
open PySem L2
def gMt (h : P → List P → Option P) (g : VF) (gs : List VF) : VF := fun env => (g env).bind fun a => (gL gs env).bind fun as => h a as
structure MtV (X : Cx) (T id : String) (h : P → List P → Option P) : Prop where
  mt : MtR X id fun x xs H Q => ∃ Z a as r, RP X.K X.mg Z H x a ∧ RPs X.K X.mg Z H xs as ∧ h a as = some r ∧ Got X.K X.mg Z H r Q
  ty : ∀ {Z : Zs} {H : Hp} {x : V} {a : P}, RP X.K X.mg Z H x a → (∃ as r, h a as = some r) → tyV X.K T x H
section
variable {X : Cx} {W : WX} {k : Nat} {o e : Expr} {es : List Expr} {is js : List Nat} {g : VF} {gs : List VF} {name : Str} {T id : String} {apos cpos pos : Pos} {h : P → List P → Option P}
theorem jf_mt (pa : PlainAttrs T) (slot : PySem.Slot T name id) (hty : typeOf (.builtin id) = pure (.type "method_descriptor")) (hm : MtV X T id h) (ho : JF X o is g) (ha : JFs X (e :: es) js gs)
    (hbase : attributeBase o name X.env (eval o X.env) = eval o X.env := by rfl)
    (hfew : ((backTo cpos (starEach (e :: es) X.env)).all (fun x => !x.1) && (backToKw cpos (keywordEach [] X.env)).all (fun x => x.1.isSome)
      && decide ((e :: es).length + ([] : List Keyword).length + (if ([] : List Keyword).isEmpty then 0 else 1) < 30)) = true := by rfl)
    (hline : (apos.endLine == cpos.line) = true := by rfl) (hs : starEach (e :: es) X.env = (false, eval e X.env) :: starEach es X.env := by rfl) (hplain : (backTo cpos (starEach es X.env)).any (·.1) = false := by rfl) :
    JF X (.Call (.Attribute o name apos) (e :: es) [] cpos) (is ++ js) (gMt h g gs) := by
  refine ⟨PEimp (pe_bm pa slot hty hm.mt ho.run ha.run hbase hfew hline hs hplain) fun sg H Q q => ?_, fun env i => by unfold gMt; rw [ho.inv, ha.inv]⟩
  refine rV_mono (fun v H1 ⟨env, ph, Z, O, a, A, hn, rp, y, ey, hg⟩ => ?_) (rV_bind (k := fun a env => (gL gs env).bind fun as => h a as) (fun env => rfl) q)
  cases eb : gL gs env with
  | none => rw [eb] at ey; cases ey
  | some as =>
    rw [eb] at ey
    exact ⟨hm.ty rp ⟨as, y, ey⟩, env, ph, Z, O, A, hn, as, eb, fun vs Z2 H2 gr rps => ⟨Z2, a, as, y, rp.grow gr, rps, ey, fun v3 Z3 H3 gr3 rp3 => hg v3 Z3 H3 (gr.trans gr3) rp3⟩⟩
theorem jf_mt0 (pa : PlainAttrs T) (slot : PySem.Slot T name id) (hty : typeOf (.builtin id) = pure (.type "method_descriptor")) (hm : MtV X T id h) (ho : JF X o is g)
    (hbase : attributeBase o name X.env (eval o X.env) = eval o X.env := by rfl) (hline : (apos.endLine == cpos.line) = true := by rfl) :
    JF X (.Call (.Attribute o name apos) [] [] cpos) is (gMt h g []) := by
  refine ⟨PEimp (pe_bm0 pa slot hty hm.mt ho.run hbase hline) fun sg H Q q => ?_, fun env i => by unfold gMt; rw [ho.inv]; rfl⟩
  obtain ⟨env, ph, Z, O, A, hn, y, ey, hq⟩ := q
  unfold gMt at ey
  cases ea : g env with
  | none => rw [ea] at ey; cases ey
  | some a =>
    rw [ea] at ey
    have ey : h a [] = some y := ey
    exact ⟨env, ph, Z, O, A, hn, a, ea, fun v Z' H' gr rp => ⟨hm.ty rp ⟨[], y, ey⟩, Z', a, [], y, rp, by simp only [RPs], ey, fun v3 Z3 H3 gr3 rp3 => hq v3 Z3 H3 (gr.trans gr3) rp3⟩⟩
def idxP (x : P) : List P → Option Nat
  | [] => none
  | y :: ys => if eqP y x then some 0 else (idxP x ys).map (· + 1)
def hIdx : P → List P → Option P
  | .lst xs, [x] => if okN 39 x && okNs 39 xs then (idxP x xs).map fun j => .int (j : Nat) else none
  | _, _ => none
theorem idxP_at {x : P} : ∀ {xs : List P} {j : Nat}, idxP x xs = some j → ∃ y, xs[j]? = some y ∧ eqP y x = true ∧ ∀ m z, m < j → xs[m]? = some z → eqP z x = false
  | [], j, e => by cases e
  | y :: ys, j, e => by
    unfold idxP at e
    by_cases q : eqP y x = true
    · simp only [q, if_true] at e
      cases e
      exact ⟨y, rfl, q, fun m z lt => absurd lt (Nat.not_lt_zero _)⟩
    · simp only [q, Bool.false_eq_true, if_false] at e
      cases e2 : idxP x ys with
      | none => rw [e2] at e; cases e
      | some i =>
        rw [e2] at e
        cases e
        obtain ⟨z, h1, h2, h3⟩ := idxP_at e2
        refine ⟨z, by simpa using h1, h2, fun m w lt ew => ?_⟩
        cases m with
        | zero =>
          have : y = w := by simpa using ew
          subst this
          simpa using q
        | succ m => exact h3 m w (by simp only at lt; omega) (by simpa using ew)
theorem dats_get : ∀ {xs : List P} {j : Nat}, (dats xs)[j]? = (xs[j]?).map dat
  | [], j => by simp [dats]
  | x :: xs, 0 => by simp [dats]
  | x :: xs, j + 1 => by simp only [dats, List.getElem?_cons_succ]; exact dats_get
theorem okNs_at : ∀ {xs : List P} {n j : Nat} {x : P}, okNs n xs = true → xs[j]? = some x → okN n x = true
  | [], _, _, _, _, e => by simp at e
  | y :: ys, n, 0, x, h, e => by
    simp only [okNs, Bool.and_eq_true] at h
    have : y = x := by simpa using e
    subst this
    exact h.1
  | y :: ys, n, j + 1, x, h, e => by
    simp only [okNs, Bool.and_eq_true] at h
    exact okNs_at h.2 (by simpa using e)
theorem mv_index (hr : RU X.A) : MtV X "list" "list.index" hIdx where
  mt := by
    intro pins s sg H x xs v us Q I rx rs ⟨Z, a, as, r, ra, rb, e, q⟩
    unfold hIdx at e
    split at e
    · rename_i ys z
      split at e
      · rename_i hk
        simp only [Bool.and_eq_true] at hk
        cases ei : idxP z ys with
        | none => rw [ei] at e; cases e
        | some j =>
          rw [ei] at e
          cases e
          obtain ⟨y, h1, h2, h3⟩ := idxP_at ei
          obtain ⟨w, ew, rw_⟩ := rps1 rb
          subst ew
          have okl : okN 40 (.lst ys) = true := by simp only [okN]; exact hk.2
          have dl := dp_of ra okl
          have dz := dp_of rw_ hk.1
          simp only [RP] at ra
          obtain ⟨p, ws, e1, _, sq, rs1⟩ := ra
          subst e1
          have eq_ : ∀ {y : P}, okN 39 y = true → PyData.eqv (dat y) (dat z) = eqP y z := fun {y} hy => eqv_dat hy hk.1
          refine mt_indexD (by have := hr.un; omega) pins s sg H _ _ v us Q I rx rs ⟨p, w, dat z, dats ys, j, dat y, rfl, rfl, by simpa only [dat] using dl, dz, ?_, shaped_of hk.1 (by decide), by rw [dats_get, h1]; rfl, by rw [eq_ (okNs_at hk.2 h1)]; exact h2, fun m z' lt ez => ?_, got_p q (by simp only [RP])⟩
          · have := shaped_of okl (by decide)
            simpa only [dat] using this
          · rw [dats_get] at ez
            cases em : ys[m]? with
            | none => rw [em] at ez; cases ez
            | some z2 =>
              rw [em] at ez
              cases ez
              rw [eq_ (okNs_at hk.2 em)]
              exact h3 m z2 lt em
      · cases e
    · cases e
  ty := fun {Z H x a} rp ⟨as, r, e⟩ => by
    unfold hIdx at e
    split at e
    · simp only [RP] at rp
      obtain ⟨p, ws, e1, _, sq, _⟩ := rp
      subst e1
      exact .inl ⟨rfl, _, .inl (.inl sq)⟩
    · cases e
end
/-- the module's name x is a written dict: under each text of the table stands its tree -/
def WD (K : PySem.W.Frag) (mg : Str → Option Value) (w : World) (x : Str) (tab : List (Str × P)) : Prop :=
  ∃ p, mg x = some (.ref p) ∧ ∀ z y, tab.lookup z = some y → ∃ v, KDct K w p z v ∧ ∀ Z H, RP K mg Z H v y
def gWd (tab : List (Str × P)) : P → Option P
  | .str z => tab.lookup z
  | _ => none
section
variable {X : Cx} {W : WX} {k : Nat} {e : Expr} {is : List Nat} {g : VF} {x : Str} {p pos : Pos}
theorem jf_wd {tab : List (Str × P)} (hd : WD X.K X.mg X.w x tab) (ha : JF X e is g) (hg : Gl X x := by rfl) (hdb : (x == ("__debug__" : Str)) = false := by decide) (hs : PlainIx e := by exact fun _ _ => rfl) : JF X (.Subscript (.Name x p) e pos) is (g1 (gWd tab) g) := by
  obtain ⟨q, hm, ht⟩ := hd
  refine ⟨PEimp (pe_ix ix_kdict (pe_glob (v := .ref q) hg hm rfl hdb) ha.run hs) fun sg H Q z => ?_, g1_inv ha.inv⟩
  refine rV_mono (fun v H1 ⟨Z, a, r, rp, er, hq⟩ => ?_) (rV_1 z)
  unfold gWd at er
  split at er
  · rename_i t
    obtain ⟨v1, kd, rv⟩ := ht t r er
    simp only [RP] at rp
    exact ⟨q, t, v1, rfl, rp, kd, got_p hq (rv Z H1)⟩
  · cases er
end
def bListA : List P → Option P
  | [.lst xs] => some (.lst xs)
  | [.tup xs] => some (.lst xs)
  | [.scr ns] => some (.lst (ns.map P.int))
  | [.dct ks vs] => if ks.all keyOk || ks.all tkOk then some (.lst ks) else none
  | _ => none
section
variable {X : Cx} {W : WX} {k : Nat}
theorem rps_keysK {K : PySem.W.Frag} {mg : Str → Option Value} {Z : Zs} {H : Hp} : ∀ kvs : List (Key × V), RPs K mg Z H (kvs.map fun kv => kV kv.1) (kvs.map fun q => kP q.1)
  | [] => by simp only [List.map_nil, RPs]
  | kv :: kvs => by
    simp only [List.map_cons, RPs]
    refine ⟨?_, rps_keysK kvs⟩
    cases kv.1 <;> simp only [kP, kV, RP]
theorem rps_kVs {K : PySem.W.Frag} {mg : Str → Option Value} {Z : Zs} {H : Hp} : ∀ k : List Key, RPs K mg Z H (k.map kV) (k.map kP)
  | [] => by simp only [List.map_nil, RPs]
  | x :: k => by
    simp only [List.map_cons, RPs]
    refine ⟨?_, rps_kVs k⟩
    cases x <;> simp only [kP, kV, RP]
theorem rps_keysT {K : PySem.W.Frag} {mg : Str → Option Value} {Z : Zs} {H : Hp} : ∀ {kvs : List (List Key × V)} {bs : List Addr}, IsKeys H kvs bs → RPs K mg Z H (bs.map V.ref) (kvs.map fun q => tP q.1)
  | _, _, .nil => by simp only [List.map_nil, RPs]
  | kv :: kvs, b :: bs, .cons h t => by
    simp only [List.map_cons, RPs]
    refine ⟨?_, rps_keysT t⟩
    simp only [tP, RP]
    exact ⟨b, _, rfl, SqI.of h, rps_kVs _⟩
theorem cv_listA (C : Cz X W k) : CallV X (.type "list") bListA := by
  intro pins s sg H xs us Q I r ⟨Z, as, y, ra, e, q⟩
  unfold bListA at e
  split at e
  · rename_i ys
    exact cv_list pins s sg H xs us Q I r ⟨Z, [.lst ys], y, ra, e, q⟩
  · rename_i ys
    exact cv_list pins s sg H xs us Q I r ⟨Z, [.tup ys], y, ra, e, q⟩
  · rename_i ns
    cases e
    obtain ⟨v, ew, rv⟩ := rps1 ra
    subst ew
    simp only [RP] at rv
    obtain ⟨a, e1, h⟩ := rv
    subst e1
    refine call_list_of pins s sg H _ us Q I r ⟨a, ns.map V.int, rfl, .inl (scr_sq h), fun l hl => ?_⟩
    refine q _ _ _ (Grow.newZ hl (by intro _ z; cases z)) ?_
    simp only [RP]
    exact ⟨l, _, rfl, .inr (by simp), upd_same, (rps_ints ns).grow (Grow.newZ hl (by intro _ z; cases z))⟩
  · rename_i ks vs
    split at e
    · rename_i hk
      cases e
      obtain ⟨v, ew, rv⟩ := rps1 ra
      subst ew
      simp only [RP] at rv
      obtain ⟨p, us1, e1, _, d, _⟩ := rv
      subst e1
      rcases d with ⟨kvs, h1, h2, h3⟩ | ⟨kvs, h1, h2, h3, h4⟩
      · subst h2
        refine call_list_dK C.calm pins s sg H _ us Q I r ⟨p, kvs, rfl, h1, fun l hl => ?_⟩
        refine q _ _ _ (Grow.newZ hl (by intro _ z; cases z)) ?_
        simp only [RP]
        exact ⟨l, _, rfl, .inr (by simp), upd_same, rps_keysK kvs⟩
      · subst h2
        refine call_list_dT C.calm pins s sg H _ us Q I r ⟨p, kvs, rfl, .inl h1, fun l bs hl hb => ?_⟩
        refine q _ _ _ (Grow.newZ hl (by intro _ z; cases z)) ?_
        have rk : RPs X.K X.mg Z H (bs.map V.ref) (kvs.map fun q => tP q.1) := rps_keysT hb
        simp only [RP]
        exact ⟨l, _, rfl, .inr (by simp), upd_same, rk.grow (Grow.newZ hl (by intro _ z; cases z))⟩
    · cases e
  · cases e

theorem je_newD {pos : Pos} : JE X W (.Dict [] [] pos) eNewD := PEimp pe_dnewK fun sg H Q q p hp => rE_newD hp q
end
end Z
set_option Elab.async false
set_option linter.all false
set_option maxRecDepth 100000
set_option maxHeartbeats 1000000
namespace Z
open PySem L2
section
variable {X : Cx} {W : WX} {k : Nat} {elt tg iter : Expr} {ifs : List Expr} {scope : Scope} {own : List (Str × Nat)} {pos spos py : Pos} {s : SrcF} {q : Pat} {t : TF} {g : EF} {y : Str}
theorem js_setLc (i : Nat) (C : Cz X W k) (hN : X.N.Nodup) (hi : JI X W tg iter s) (ok : BlkOk X.N X.env.scope scope own) (hq : ∀ i ∈ pidx q, i ∈ own.map (·.2))
    (hg : ∀ (s : Shared) (H : Hp) (C : Addr) (cl : List (Str × Addr)) (fp : List Addr), Cz (X.blk s H scope (compEnvC scope cl C X.env) fp) W0 k → PG (X.blk s H scope (compEnvC scope cl C X.env) fp) tg (gPat X.K q))
    (ht : ∀ (s : Shared) (H : Hp) (C : Addr) (cl : List (Str × Addr)) (fp : List Addr), Cz (X.blk s H scope (compEnvC scope cl C X.env) fp) W0 k → PTs (X.blk s H scope (compEnvC scope cl C X.env) fp) ifs (rT X.K X.mg W0 t))
    (he : ∀ (s : Shared) (H : Hp) (C : Addr) (cl : List (Str × Addr)) (fp : List Addr), Cz (X.blk s H scope (compEnvC scope cl C X.env) fp) W0 k → JE (X.blk s H scope (compEnvC scope cl C X.env) fp) W0 elt g)
    (hy : X.N[i]? = some y := by rfl) (hyl : X.env.scope.names.lookup y = some .local := by rfl) (hk : X.env.scope.kind = .function := by rfl) (hl : (py.line == pos.line) = true := by rfl)
    (ha : (scope.names.any fun (n, k) => n == y && (k == .local || k == .cell)) = false := by decide +kernel)
    (hs : ∀ x, foldedSetIterable iter X.env x = pure x := by intro _; rfl) : JS X W (.Assign [.Name y py] (.ListComp elt [⟨tg, iter, ifs, 0⟩] scope pos) spos) (sAsg i (eComp (own.map (·.2)) q s t g)) :=
  PSimp (ps_setLc C.calm hN hy hyl (sw_true hk hyl hl ha) hi ok (fun s H A cl fp => hg s H A cl fp (C.blk ..)) (fun s H A cl fp => ht s H A cl fp (C.blk ..)) (fun s H A cl fp => he s H A cl fp (C.blk ..)) hs) fun D sg H z => rE_comp hq (rS_asg z)
end
end Z
set_option Elab.async false
set_option linter.all false
set_option maxRecDepth 100000
set_option maxHeartbeats 1000000
namespace Z
open PySem L2
def pLrg : P → Option P
  | .int n => if 0 ≤ n ∧ n ≤ 16777216 then some (.lst (rangeL 0 n.toNat)) else none
  | _ => none
section
variable {X : Cx} {W : WX} {k : Nat} {is : List Nat} {g : VF} {a : Expr} {p p2 pos pos2 : Pos}
theorem rps_rg {K : PySem.W.Frag} {mg : Str → Option Value} {Z : Zs} {H : Hp} {n : Nat} {lo : Int} : RPs K mg Z H ((List.range n).map fun i => V.int (lo + (i : Nat))) (rangeL lo n) := by
  unfold rangeL
  generalize List.range n = l
  induction l with
  | nil => simp only [List.map_nil, RPs]
  | cons x l ih => simp only [List.map_cons, RPs, RP]; exact ⟨trivial, ih⟩
theorem jf_lrg (C : Cz X W k) (ml : X.mg "list" = none) (mr : X.mg "range" = none) (ha : JF X a is g) (hg : Gl X "list" := by rfl) (hg2 : Gl X "range" := by rfl) (na : starEach [a] X.env = (false, eval a X.env) :: starEach [] X.env := by rfl)
    (nb : starEach [.Call (.Name "range" p2) [a] [] pos2] X.env = (false, eval (.Call (.Name "range" p2) [a] [] pos2) X.env) :: starEach [] X.env := by rfl) :
    JF X (.Call (.Name "list" p) [.Call (.Name "range" p2) [a] [] pos2] [] pos) is (g1 pLrg g) := by
  refine ⟨PEimp (pe_listRg C.calm hg ml (prg_1 hg2 mr ha.run na) nb) fun sg H Q z => ?_, g1_inv ha.inv⟩
  refine rV_mono (fun v H1 ⟨Z, a, r, rp, er, hq⟩ => ?_) (rV_1 z)
  unfold pLrg at er
  split at er
  · rename_i n
    split at er
    · rename_i hn
      cases er
      simp only [RP] at rp
      refine ⟨n, rp, RgOk.of_le (by omega) (by omega) (by omega) (by omega), fun q hp => ?_⟩
      refine hq _ _ _ (Grow.newZ hp (by intro _ z; cases z)) ?_
      simp only [RP]
      refine ⟨q, _, rfl, .inr (by simp), upd_same, ?_⟩
      unfold rgV
      rw [Int.sub_zero]
      exact rps_rg
    · cases er
  · cases er
end
end Z
namespace Z
open PySem PySem.Spec PyProof.Rows L2
theorem fm_congr {α β : Type} {f g : α → Option β} : ∀ {l : List α}, (∀ a ∈ l, f a = g a) → l.filterMap f = l.filterMap g
  | [], _ => rfl
  | a :: l, h => by rw [List.filterMap_cons, List.filterMap_cons, h a List.mem_cons_self, fm_congr fun b m => h b (List.mem_cons_of_mem _ m)]
theorem pick_rev (items : Array Value) : slicePick items none none (some (-1)) = items.toList.reverse.toArray := by
  unfold slicePick
  congr 1
  have e : sliceRange (sliceBounds none none (some (-1)) items.size).1 (sliceBounds none none (some (-1)) items.size).2.1 (sliceBounds none none (some (-1)) items.size).2.2 = (List.range items.size).map fun k => items.size - 1 - k := by
    show sliceRange ((items.size : Int) - 1) (-1) (-1) = _
    unfold sliceRange
    by_cases h0 : items.size = 0
    · rw [h0]; rfl
    · have : (if (-1 : Int) > 0 then (if (items.size : Int) - 1 < -1 then (-1 - ((items.size : Int) - 1) + -1 - 1) / -1 else 0) else (if (items.size : Int) - 1 > -1 then ((items.size : Int) - 1 - -1 - -1 - 1) / (- -1) else 0)) = (items.size : Int) := by
        rw [if_neg (by omega), if_pos (by omega), show (- -1 : Int) = 1 from rfl, Int.ediv_one]; omega
      dsimp only
      rw [this, Int.toNat_natCast]
      refine List.map_congr_left fun k hk => ?_
      have := List.mem_range.mp hk
      omega
  rw [e]
  have gen : ∀ (l : List Value) (n : Nat), n = l.length → ((List.range n).map fun k => n - 1 - k).filterMap (fun i => l[i]?) = l.reverse := by
    intro l
    induction l with
    | nil => intro n h; subst h; rfl
    | cons x l ih =>
      intro n h
      subst h
      rw [List.length_cons, List.range_succ, List.map_append, List.filterMap_append, List.reverse_cons]
      congr 1
      · rw [← ih l.length rfl, List.filterMap_map, List.filterMap_map]
        refine fm_congr fun k hk => ?_
        have := List.mem_range.mp hk
        show (x :: l)[l.length + 1 - 1 - k]? = l[l.length - 1 - k]?
        rw [show l.length + 1 - 1 - k = (l.length - 1 - k) + 1 by omega, List.getElem?_cons_succ]
      · simp
  have := gen items.toList items.size (by simp)
  rw [← this]
  refine fm_congr fun k _ => ?_
  simp
section
variable {X : Cx} {e st : Expr} {te ts : TE} {pos p2 : Pos}
def tRv (K : PySem.W.Frag) (te ts : TE) : TE := fun σ H Q => te σ H fun x H1 => ts σ H1 fun m H2 => m = .int (-1) ∧ ∃ a xs, x = .ref a ∧ SqL K H2 a xs ∧ ∀ p, H2 p = none → Q (.ref p) (upd H2 p (.lst xs.reverse))
theorem vals_revL {xs : List V} {us : List Value} (r : Vals xs us) : Vals xs.reverse us.reverse := by
  induction r with
  | nil => exact .nil
  | cons h _ ih => rw [List.reverse_cons, List.reverse_cons]; exact ih.append (.cons h .nil)
theorem pe_rv (he : PE X e te) (hs : PE X st ts) : PE X (.Subscript e (.Slice none none (some st) p2) pos) (tRv X.K te ts) := by
  refine ⟨fun pins s σ H Q I h => ?_⟩
  refine Subscript_ (thn (he.run pins s σ H _ I h) fun v s1 ⟨x, H1, I1, r1, q1⟩ => ?_)
  refine wpAny_Slice ?_
  rw [evalPart_none]
  refine wpAny_pure ?_
  refine wpAny_pure ?_
  rw [evalPart_some]
  refine thn (hs.run pins s1 σ H1 _ I1 q1) fun u s2 ⟨m, H2, I2, r2, q2⟩ => ?_
  obtain ⟨em, a, xs, ex, hx, q⟩ := q2
  subst em; subst ex
  cases r1
  obtain ⟨tk, rfl⟩ := r2
  have I4 : Inv X pins σ H2 { s2 with heap := s2.heap.push { cls := .type "slice", data := .fields #[.none, .none, .int (-1) tk] } } := I2.kept (t' := s2.toks) fun b ob q => Heap.get?_push_of_some _ q
  obtain ⟨its, r, ht, hz⟩ := I4.list hx
  have hlen := r.length
  show wpAny (model X.prog X.w) X.A (subscriptTail e (.Slice none none (some st) p2) (.ref a) (.ref s2.heap.objs.size)) (EP X pins σ Q) X.xe { s2 with heap := s2.heap.push { cls := .type "slice", data := .fields #[.none, .none, .int (-1) tk] } }
  refine tail_any (ops := [.ref a, .ref s2.heap.objs.size]) ht.isList.typeIs slot_list_getitem.lookup ?_ (by with_unfolding_all rfl)
  refine wpAny_getItem_list_slice ht.isList (Heap.IsSliceOf.new ..) .none .none (.int (-1) tk) (by simp) ?_ (by rw [List.size_toArray] <;> omega)
  rw [pick_rev]
  refine ⟨.ref _, _, I4.laid (t' := s2.toks) (o := .lst xs.reverse) (fun b ob q => Heap.get?_push_of_some _ q) (Nat.le_refl _) ?_, rfl, q _ (I4.hok.fresh (Nat.le_refl _))⟩
  exact ⟨by rw [List.length_reverse]; exact hz, _, 0, vals_revL r, Heap.get?_push_size _ rfl⟩
def pRv : P → P → Option P
  | .lst xs, .int i => if i = -1 then some (.lst xs.reverse) else none
  | _, _ => none
theorem rps_rev {K : PySem.W.Frag} {mg : Str → Option Value} {Z : Zs} {H : Hp} : ∀ {us : List V} {xs : List P}, RPs K mg Z H us xs → RPs K mg Z H us.reverse xs.reverse := by
  have app : ∀ {us : List V} {xs : List P} {u : V} {x : P}, RPs K mg Z H us xs → RP K mg Z H u x → RPs K mg Z H (us ++ [u]) (xs ++ [x]) := by
    intro us
    induction us with
    | nil => intro xs u x h1 h2; cases xs with
      | nil => simp only [List.nil_append, RPs]; exact ⟨h2, trivial⟩
      | cons _ _ => simp only [RPs] at h1
    | cons v us ih => intro xs u x h1 h2; cases xs with
      | nil => simp only [RPs] at h1
      | cons y xs => simp only [RPs] at h1; simp only [List.cons_append, RPs]; exact ⟨h1.1, ih h1.2 h2⟩
  intro us
  induction us with
  | nil => intro xs h; cases xs with
    | nil => exact h
    | cons _ _ => simp only [RPs] at h
  | cons v us ih => intro xs h; cases xs with
    | nil => simp only [RPs] at h
    | cons y xs =>
      simp only [RPs] at h
      rw [List.reverse_cons, List.reverse_cons]
      exact app (ih h.2) h.1
theorem jf_rv {is js : List Nat} {g gm : VF} (he : JF X e is g) (hs : JF X st js gm) : JF X (.Subscript e (.Slice none none (some st) p2) pos) (is ++ js) (g2 pRv g gm) := by
  refine ⟨PEimp (pe_rv he.run hs.run) fun sg H Q z => ?_, g2_inv he.inv hs.inv⟩
  refine rV_mono (fun v H1 z1 => ?_) (rV_2 z)
  refine rV_mono (fun m H2 ⟨Z, a, b, r, ra, rb, er, hq⟩ => ?_) z1
  unfold pRv at er
  split at er
  · rename_i xs i
    split at er
    · rename_i hi
      cases er
      subst hi
      simp only [RP] at ra rb
      obtain ⟨p, us, e1, _, sq, rs⟩ := ra
      refine ⟨rb, p, us, e1, .inl (.inl sq), fun q hp => ?_⟩
      refine hq _ _ _ (Grow.newZ hp (by intro _ z; cases z)) ?_
      simp only [RP]
      exact ⟨q, _, rfl, .inr (by simp), upd_same, (rps_rev rs).grow (Grow.newZ hp (by intro _ z; cases z))⟩
    · cases er
  · cases er
end
end Z
set_option Elab.async false
set_option linter.all false
set_option maxRecDepth 100000
set_option maxHeartbeats 1000000
namespace Z
open PySem L2
/-- the turns of the first clause; each goes over what s1 gives -/
def comp2L (vs vs1 : List Nat) (q : Pat) (t : TF) (s1 : SrcF) (q1 : Pat) (t1 : TF) (g : EF) : List P → Env → List D → ER D
  | [], env, acc => .ok (.l acc) env
  | x :: xs, env, acc => match assignP env q x with
    | some env1 => match t env1 with
      | .ok c env2 => if c then (match s1 env2 with
        | .ok ys env3 => match compL vs1 q1 t1 g ys (wipeE env3 vs1) acc with
          | .ok (.l acc2) env4 => comp2L vs vs1 q t s1 q1 t1 g xs (wipeE env4 vs) acc2
          | _ => .stuck
        | _ => .stuck) else comp2L vs vs1 q t s1 q1 t1 g xs (wipeE env2 vs) acc
      | _ => .stuck
    | none => .stuck
/-- [g for q in s if t for q1 in s1 if t1] -/
def eComp2 (vs vs1 : List Nat) (q : Pat) (s : SrcF) (t : TF) (q1 : Pat) (s1 : SrcF) (t1 : TF) (g : EF) : EF := fun env => (s env).bind fun xs env => comp2L vs vs1 q t s1 q1 t1 g xs (wipeE env vs) []
section
variable {X : Cx} {W : WX} {k : Nat} {pos : Pos} {elt tg iter tg1 iter1 : Expr} {ifs ifs1 : List Expr} {scope : Scope} {own : List (Str × Nat)} {q q1 : Pat} {s s1 : SrcF} {t t1 : TF} {g : EF}
/-- how the making stands: the slots, the list at D and what it holds -/
structure CAt (X : Cx) (ph : Nat → V) (sg : St) (vs : List Nat) (Z0 : Zs) (H0 : Hp) (O0 : List Addr) (B : Zs → Hp → Prop) (D : Addr) (env : Env) (ds : List _root_.Z.D) (Z : Zs) (H : Hp) (Oe : List Addr) (us : List V) (Oa : List Addr) : Prop where
  at_ : At X.K X.mg ph Z H (wipe sg vs) env Oe
  no : ∀ i ∈ vs, i < env.length → env[i]? = some Slot.no
  b : B Z H
  d : H D = some (.lst us)
  rd : RDs X.K X.mg Z H us ds Oa
  vl : Vld Z H (Oe ++ (D :: Oa))
  tr : Tr Z0 H0 O0 Z H (Oe ++ (D :: Oa))
/-- a step beside the list -/
theorem beside_list {X : Cx} {J : It} {xs : List P} {B : Zs → Hp → Prop} (G : Goes X.K X.mg J xs B) {Za Zb Z0 : Zs} {Ha Hb H0 : Hp} {Op Oq O0 Oa : List Addr} {D : Addr} {us : List V} {ds : List _root_.Z.D} (tt : Tr Za Ha Op Zb Hb Oq) (vb : Vld Zb Hb Oq) (va : Vld Za Ha (Op ++ (D :: Oa)))
    (ta : Tr Z0 H0 O0 Za Ha (Op ++ (D :: Oa))) (ba : B Za Ha) (ha : Ha D = some (.lst us)) (ra : RDs X.K X.mg Za Ha us ds Oa) :
    B Zb Hb ∧ Hb D = some (.lst us) ∧ RDs X.K X.mg Zb Hb us ds Oa ∧ Vld Zb Hb (Oq ++ (D :: Oa)) ∧ Tr Z0 H0 O0 Zb Hb (Oq ++ (D :: Oa)) := by
  have kp := tt.kept va
  exact ⟨G.keep _ _ _ _ ba tt.z1 (kp.less fun a m => by cases m), kp _ _ ha (.inr (.inl List.mem_cons_self)) (fun _ z => nomatch z), RDs.kp tt.z1 (kp.less fun a m => List.mem_cons_of_mem _ m) ra, va.step tt vb, ta.trans (tt.frame (F := D :: Oa))⟩
theorem vld_less {Z : Zs} {H : Hp} {Oe Of F : List Addr} (v : Vld Z H (Oe ++ F)) (n : Of.Nodup) (h : ∀ a ∈ Of, a ∈ Oe) : Vld Z H (Of ++ F) := by
  have sub : ∀ a ∈ Of ++ F, a ∈ Oe ++ F := fun a m => by
    rcases List.mem_append.mp m with z | z
    · exact List.mem_append_left _ (h a z)
    · exact List.mem_append_right _ z
  refine ⟨?_, fun a m => v.nz a (sub a m), v.zs, fun a m => v.mu a (sub a m), v.tb⟩
  refine List.nodup_append.mpr ⟨n, (List.nodup_append.mp v.nd).2.1, fun a m c m2 e3 => ?_⟩
  exact (List.nodup_append.mp v.nd).2.2 a (h a m) c m2 e3
theorem tr_less {Z Z0 : Zs} {H H0 : Hp} {O0 Oe Of F : List Addr} (t : Tr Z0 H0 O0 Z H (Oe ++ F)) (h : ∀ a ∈ Of, a ∈ Oe) : Tr Z0 H0 O0 Z H (Of ++ F) := t.less fun a m => by
  rcases List.mem_append.mp m with z | z
  · exact List.mem_append_left _ (h a z)
  · exact List.mem_append_right _ z
/-- the turns of a clause that appends -/
theorem comp_turns {vs : List Nat} (hq : ∀ i ∈ pidx q, i ∈ vs) {J : It} {xs : List P} {B : Zs → Hp → Prop} (G : Goes X.K X.mg J xs B) {ph : Nat → V} {sg : St} {D : Addr} {Z0 : Zs} {H0 : Hp} {O0 : List Addr} {envE : Env} {dsE : List _root_.Z.D} {F : Hp → Prop}
    (hF : ∀ Z H Oe us Oa, CAt X ph sg vs Z0 H0 O0 B D envE dsE Z H Oe us Oa → F H) {env : Env} {ds : List _root_.Z.D} {Z : Zs} {H : Hp} {Oe : List Addr} {us : List V} {Oa : List Addr} (c0 : CAt X ph sg vs Z0 H0 O0 B D env ds Z H Oe us Oa) (e0 : compL vs q t g xs env ds = .ok (.l dsE) envE) :
    ∃ W1 : Nat → Nat → Hp → Prop, (∃ m, W1 0 m H) ∧ ∀ (i m : Nat) (H : Hp), W1 i m H → J.stop i H ∧ F H ∨ J.go i H ∧ ∃ Nx : Hp → Prop, (∀ H', Nx H' → ∃ m', m' < m ∧ W1 (i + 1) m' H') ∧
      ∀ (x : V) (H' : Hp), J.yld i H x H' → gPat X.K q x (wipe sg vs) H' fun sg2 H2 => wipe sg2 vs = wipe sg vs ∧ rT X.K X.mg W0 t sg2 H2 fun b H3 => if b = true then rE X.K X.mg W0 g sg2 H3 fun y H4 => ∃ acc, H4 D = some (.lst acc) ∧ acc.length < sizeLine ∧ Nx (upd H4 D (.lst (acc ++ [y]))) else Nx H3 := by
  refine ⟨fun i m H2 => m = xs.length - i ∧ i ≤ xs.length ∧ ∃ env ds Z Oe us Oa, CAt X ph sg vs Z0 H0 O0 B D env ds Z H2 Oe us Oa ∧ compL vs q t g (xs.drop i) env ds = .ok (.l dsE) envE, ⟨xs.length, by simp, Nat.zero_le _, env, ds, Z, Oe, us, Oa, c0, by rw [List.drop_zero]; exact e0⟩, ?_⟩
  rintro i m H2 ⟨rfl, hi, env2, ds, Z2, Oe, us, Oa, cc, hc⟩
  by_cases hlt : i < xs.length
  · have hx : xs[i]? = some xs[i] := by simp [hlt]
    obtain ⟨go, yld⟩ := G.item i _ Z2 H2 cc.b hx
    have ed : xs.drop i = xs[i] :: xs.drop (i + 1) := List.drop_eq_getElem_cons hlt
    rw [ed] at hc
    unfold compL at hc
    refine .inr ⟨go, fun H' => ∃ env ds Z Oe us Oa, CAt X ph sg vs Z0 H0 O0 B D env ds Z H' Oe us Oa ∧ compL vs q t g (xs.drop (i + 1)) env ds = .ok (.l dsE) envE, fun H' c => ⟨xs.length - (i + 1), by omega, rfl, hlt, c⟩, fun v H3 y => ?_⟩
    obtain ⟨Z3, gr, rp⟩ := yld v H3 y
    have A3 := cc.at_.grow gr
    have vl3 := cc.vl.grow gr
    have tr3 : Tr Z0 H0 O0 Z3 H3 (Oe ++ (D :: Oa)) := cc.tr.trans gr.Tr
    have hD3 : H3 D = some (.lst us) := gr.kp _ _ cc.d
    have rd3 : RDs X.K X.mg Z3 H3 us ds Oa := RDs.kp gr.z1 gr.Kp cc.rd
    have b3 : B Z3 H3 := G.keep _ _ _ _ cc.b gr.z1 gr.Kp
    cases e1 : assignP env2 q xs[i] with
    | none => rw [e1] at hc; cases hc
    | some env3 =>
      rw [e1] at hc
      simp only at hc
      refine gPat_in.mono q (fun sg2 H4 z => ⟨z.1.trans (wipe_idem vs), z.2 (z.1.trans (wipe_idem vs))⟩) (gPat_in (R := fun sg2 H4 => wipe sg2 vs = wipe sg vs → _) hq (gPat_ok A3 rp e1 fun sg2 O3 A4 s3 ew => ?_))
      refine ⟨env3, ph, Z3, O3, A4, ?_⟩
      have vlF : Vld Z3 H3 (O3 ++ (D :: Oa)) := vld_less vl3 A4.vl.nd s3
      have trF : Tr Z0 H0 O0 Z3 H3 (O3 ++ (D :: Oa)) := tr_less tr3 s3
      have nxt : ∀ {env5 : Env} {Z5 : Zs} {H5 : Hp} {O5 : List Addr} {us5 : List V} {ds5 : List _root_.Z.D} {Oa5 : List Addr}, At X.K X.mg ph Z5 H5 sg2 env5 O5 → B Z5 H5 → H5 D = some (.lst us5) → RDs X.K X.mg Z5 H5 us5 ds5 Oa5 → Vld Z5 H5 (O5 ++ (D :: Oa5)) → Tr Z0 H0 O0 Z5 H5 (O5 ++ (D :: Oa5)) →
          compL vs q t g (xs.drop (i + 1)) (wipeE env5 vs) ds5 = .ok (.l dsE) envE → ∃ env ds Z Oe us Oa, CAt X ph sg vs Z0 H0 O0 B D env ds Z H5 Oe us Oa ∧ compL vs q t g (xs.drop (i + 1)) env ds = .ok (.l dsE) envE := fun {env5 Z5 H5 O5 us5 ds5 Oa5} A5 b5 hD5 rd5 vl5 tr5 hc5 => by
        obtain ⟨O6, A6, s6⟩ := A5.wipe (vs := vs)
        rw [ew] at A6
        exact ⟨wipeE env5 vs, ds5, Z5, O6, us5, Oa5, ⟨A6, fun i m hl => wipeE_no m (by rw [wipeE_no.wlen] at hl; exact hl), b5, hD5, rd5, vld_less vl5 A6.vl.nd s6, tr_less tr5 s6⟩, hc5⟩
      cases e4 : t env3 with
      | stuck => rw [e4] at hc; cases hc
      | exc x env4 => rw [e4] at hc; cases hc
      | ok c env4 =>
        rw [e4] at hc
        simp only at hc ⊢
        intro H4 Z4 O4 A5 t5
        obtain ⟨b5, hD5, rd5, vl5, tr5⟩ := beside_list G t5 A5.vl vlF trF b3 hD3 rd3
        cases c with
        | false =>
          simp only [Bool.false_eq_true, if_false] at hc ⊢
          exact nxt A5 b5 hD5 rd5 vl5 tr5 hc
        | true =>
          simp only [if_true] at hc ⊢
          refine ⟨env4, ph, Z4, O4, A5, ?_⟩
          cases e5 : g env4 with
          | stuck => rw [e5] at hc; cases hc
          | exc x env5 => rw [e5] at hc; cases hc
          | ok d env5 =>
            rw [e5] at hc
            simp only at hc ⊢
            intro w H6 Z6 O6 Od r6 rd6 vl6 t6
            by_cases hz : ds.length < lineN
            · rw [if_pos hz] at hc
              obtain ⟨b7, hD7, rd7, vl7, tr7⟩ := beside_list G t6 vl6 vl5 tr5 b5 hD5 rd5
              refine ⟨us, hD7, by rw [rd7.length, ← lineN_eq]; exact hz, ?_⟩
              have pp : ((O6 ++ Od) ++ (D :: Oa)).Perm (D :: ((O6 ++ Od) ++ Oa)) := List.perm_middle
              have v8 := vl7.perm pp
              have kp : Kp Z6 ((O6 ++ Od) ++ Oa) H6 (upd H6 D (.lst (us ++ [w]))) := kp_write v8 hD7
              have v9 := v8.write (o' := .lst (us ++ [w])) (O' := (O6 ++ Od) ++ Oa) hD7 (fun _ z => nomatch z) trivial (fun a m => m) (List.nodup_cons.mp v8.nd).2
              have t9 : Tr Z6 H6 (D :: ((O6 ++ Od) ++ Oa)) Z6 (upd H6 D (.lst (us ++ [w]))) (D :: ((O6 ++ Od) ++ Oa)) := Tr.write hD7 (fun _ z => nomatch z) (fun _ z => nomatch z) (fun a m => m) (by intro _ z; cases z)
              have p9 : (D :: ((O6 ++ Od) ++ Oa)).Perm (O6 ++ (D :: (Oa ++ Od))) := by
                refine List.Perm.trans ?_ List.perm_middle.symm
                refine List.Perm.cons D ?_
                rw [List.append_assoc]
                exact List.Perm.append_left O6 List.perm_append_comm
              refine nxt (O5 := O6) (Oa5 := Oa ++ Od) (us5 := us ++ [w]) (ds5 := ds ++ [d]) ⟨r6.kp (fun _ z => z) (kp.less fun a m => List.mem_append_left _ (List.mem_append_left _ m)), (v9.perm p9).left⟩ (G.keep _ _ _ _ b7 (fun _ z => z) (kp.less fun a m => by cases m)) upd_same ?_ (v9.perm p9) ?_ hc
              · exact (RDs.kp (fun _ z => z) (kp.less fun a m => List.mem_append_right _ m) rd7).app (RDs.one (RD.kp (fun _ z => z) (kp.less fun a m => List.mem_append_left _ (List.mem_append_right _ m)) rd6))
              · exact (tr7.trans (t9.perm pp.symm (List.Perm.refl _))).perm (List.Perm.refl _) p9
            · rw [if_neg hz] at hc
              cases hc
  · have ei : i = xs.length := by omega
    subst ei
    rw [List.drop_length] at hc
    unfold compL at hc
    cases hc
    exact .inl ⟨G.stop Z2 H2 cc.b, hF _ _ _ _ _ cc⟩
theorem rE_comp2 {vs vs1 : List Nat} (hq : ∀ i ∈ pidx q, i ∈ vs) (hq1 : ∀ i ∈ pidx q1, i ∈ vs1) (hv : ∀ i ∈ vs1, i ∈ vs) {sg : St} {H : Hp} {Q : VK} (h : rE X.K X.mg W (eComp2 vs vs1 q s t q1 s1 t1 g) sg H Q) :
    tLc2 (rI X.K X.mg W s) (gPat X.K q) (rT X.K X.mg W0 t) (rI X.K X.mg W0 s1) (gPat X.K q1) (rT X.K X.mg W0 t1) (rE X.K X.mg W0 g) vs vs1 sg H Q := by
  obtain ⟨env, ph, Z, O, A, h⟩ := h
  refine ⟨env, ph, Z, O, A, ?_⟩
  unfold eComp2 at h
  cases e : s env with
  | stuck => simp only [e, ER.bind] at h
  | exc x env' => simp only [e, ER.bind] at h; exact h
  | ok xs env1 =>
    simp only [e, ER.bind] at h
    intro J H1 Z1 O1 B G b A1 t1' D hD
    -- behind all turns
    let End : ER _root_.Z.D → Prop := fun r => match r with
      | .ok d env' => ∀ v H' Z' O' Od, RE X.K X.mg Z' H' ph sg env' O' → RD X.K X.mg Z' H' v d Od → Vld Z' H' (O' ++ Od) → Tr Z H O Z' H' (O' ++ Od) → Q v H'
      | _ => False
    refine ⟨fun i m H2 => m = xs.length - i ∧ i ≤ xs.length ∧ ∃ env ds Z' Oe us Oa, CAt X ph sg vs Z H O B D env ds Z' H2 Oe us Oa ∧ End (comp2L vs vs1 q t s1 q1 t1 g (xs.drop i) env ds), ⟨xs.length, by simp, Nat.zero_le _, ?_⟩, ?_⟩
    · obtain ⟨Ow, Aw, sub⟩ := A1.wipe (vs := vs)
      have v1 : Vld Z1 (upd H1 D (.lst [])) (D :: Ow) := Aw.vl.add hD trivial
      have kp : Kp Z1 Ow H1 (upd H1 D (.lst [])) := fun a o ea _ _ => by rw [upd_ne (ne_of_none ea hD)]; exact ea
      have pp : (D :: Ow).Perm (Ow ++ [D]) := (List.perm_append_comm (l₁ := [D]))
      refine ⟨wipeE env1 vs, [], Z1, Ow, [], [], ⟨⟨Aw.re.kp (fun _ z => z) kp, v1.perm (pp) |>.left⟩, fun i m hl => wipeE_no m (by rw [wipeE_no.wlen] at hl; exact hl), G.keep _ _ _ _ b (fun _ z => z) (kp.less fun a m => by cases m), upd_same, by simp only [RDs], v1.perm pp, ?_⟩, ?_⟩
      · have qq : Tr Z H O Z1 H1 Ow := t1'.less sub
        exact (qq.trans (Tr.add hD (by intro _ z; cases z))).perm (List.Perm.refl _) pp
      · rw [List.drop_zero]
        show End _
        cases ec : comp2L vs vs1 q t s1 q1 t1 g xs (wipeE env1 vs) [] with
        | ok d env2 => rw [ec] at h; exact h
        | exc x env2 => exact (comp2L_exc ec).elim
        | stuck => rw [ec] at h; exact h
    · rintro i m H2 ⟨rfl, hi, env2, ds, Z2, Oe, us, Oa, cc, hc⟩
      by_cases hlt : i < xs.length
      · have hx : xs[i]? = some xs[i] := by simp [hlt]
        obtain ⟨go, yld⟩ := G.item i _ Z2 H2 cc.b hx
        have ed : xs.drop i = xs[i] :: xs.drop (i + 1) := List.drop_eq_getElem_cons hlt
        rw [ed] at hc
        unfold comp2L at hc
        refine .inr ⟨go, fun H' => ∃ env ds Z' Oe us Oa, CAt X ph sg vs Z H O B D env ds Z' H' Oe us Oa ∧ End (comp2L vs vs1 q t s1 q1 t1 g (xs.drop (i + 1)) env ds), fun H' c => ⟨xs.length - (i + 1), by omega, rfl, hlt, c⟩, fun v H3 y => ?_⟩
        obtain ⟨Z3, gr, rp⟩ := yld v H3 y
        have A3 := cc.at_.grow gr
        have vl3 := cc.vl.grow gr
        have tr3 : Tr Z H O Z3 H3 (Oe ++ (D :: Oa)) := cc.tr.trans gr.Tr
        have hD3 : H3 D = some (.lst us) := gr.kp _ _ cc.d
        have rd3 : RDs X.K X.mg Z3 H3 us ds Oa := RDs.kp gr.z1 gr.Kp cc.rd
        have b3 : B Z3 H3 := G.keep _ _ _ _ cc.b gr.z1 gr.Kp
        cases e1 : assignP env2 q xs[i] with
        | none => rw [e1] at hc; exact hc.elim
        | some env3 =>
          rw [e1] at hc
          simp only at hc
          refine gPat_in.mono q (fun sg2 H4 z => ⟨z.1.trans (wipe_idem vs), z.2 (z.1.trans (wipe_idem vs))⟩) (gPat_in (R := fun sg2 H4 => wipe sg2 vs = wipe sg vs → _) hq (gPat_ok A3 rp e1 fun sg2 O3 A4 s3 ew => ?_))
          refine ⟨env3, ph, Z3, O3, A4, ?_⟩
          have vlF : Vld Z3 H3 (O3 ++ (D :: Oa)) := vld_less vl3 A4.vl.nd s3
          have trF : Tr Z H O Z3 H3 (O3 ++ (D :: Oa)) := tr_less tr3 s3
          cases e4 : t env3 with
          | stuck => rw [e4] at hc; exact hc.elim
          | exc x env4 => rw [e4] at hc; exact hc.elim
          | ok c env4 =>
            rw [e4] at hc
            simp only at hc ⊢
            intro H4 Z4 O4 A5 t5
            obtain ⟨b5, hD5, rd5, vl5, tr5⟩ := beside_list G t5 A5.vl vlF trF b3 hD3 rd3
            cases c with
            | false =>
              simp only [Bool.false_eq_true, if_false] at hc ⊢
              obtain ⟨O6, A6, s6⟩ := A5.wipe (vs := vs)
              rw [ew] at A6
              exact ⟨wipeE env4 vs, ds, Z4, O6, us, Oa, ⟨A6, fun i m hl => wipeE_no m (by rw [wipeE_no.wlen] at hl; exact hl), b5, hD5, rd5, vld_less vl5 A6.vl.nd s6, tr_less tr5 s6⟩, hc⟩
            | true =>
              simp only [if_true] at hc ⊢
              refine ⟨env4, ph, Z4, O4, A5, ?_⟩
              cases e5 : s1 env4 with
              | stuck => rw [e5] at hc; exact hc.elim
              | exc x env5 => rw [e5] at hc; exact hc.elim
              | ok ys env5 =>
                rw [e5] at hc
                simp only at hc ⊢
                intro J1 H6 Z6 O6 B1 G1 b1 A7 t7
                obtain ⟨b7, hD7, rd7, vl7, tr7⟩ := beside_list G t7 A7.vl vl5 tr5 b5 hD5 rd5
                obtain ⟨O8, A8, s8⟩ := A7.wipe (vs := vs1)
                have v8 := vld_less vl7 A8.vl.nd s8
                have t8 := tr_less tr7 s8
                cases e6 : compL vs1 q1 t1 g ys (wipeE env5 vs1) ds with
                | stuck => rw [e6] at hc; exact hc.elim
                | exc x env6 => rw [e6] at hc; exact hc.elim
                | ok dE env6 =>
                  rw [e6] at hc
                  cases dE with
                  | l dsE =>
                    simp only at hc
                    refine comp_turns hq1 G1 (sg := sg2) (Z0 := Z6) (H0 := H6) (O0 := O8 ++ (D :: Oa)) (fun Z9 H9 O9 us9 Oa9 c9 => ?_) ⟨A8, fun i m hl => wipeE_no m (by rw [wipeE_no.wlen] at hl; exact hl), b1, hD7, rd7, v8, Tr.refl ..⟩ e6
                    obtain ⟨Oz, Az, sz⟩ := c9.at_.wipe (vs := vs)
                    rw [wipe_idem.go vs vs1 hv, ew] at Az
                    have k9 : Kp Z6 [] H6 H9 := c9.tr.kept (F := []) (by rw [List.append_nil]; exact v8)
                    exact ⟨wipeE env6 vs, dsE, Z9, Oz, us9, Oa9, ⟨Az, fun i m hl => wipeE_no m (by rw [wipeE_no.wlen] at hl; exact hl), G.keep _ _ _ _ b7 c9.tr.z1 k9, c9.d, c9.rd, vld_less c9.vl Az.vl.nd sz, tr_less (t8.trans c9.tr) sz⟩, hc⟩
                  | p x => exact hc.elim
                  | d _ _ => exact hc.elim
                  | s _ => exact hc.elim
                  | i _ _ _ => exact hc.elim
      · have ei : i = xs.length := by omega
        subst ei
        rw [List.drop_length] at hc
        unfold comp2L at hc
        refine .inl ⟨G.stop Z2 H2 cc.b, hc (.ref D) H2 Z2 Oe (D :: Oa) (cc.at_.unwipe cc.no).re ?_ cc.vl cc.tr⟩
        simp only [RD]
        exact ⟨D, us, Oa, rfl, cc.d, cc.rd, rfl⟩
where
  comp2L_exc {vs vs1 : List Nat} {q q1 : Pat} {t t1 : TF} {s1 : SrcF} {g : EF} {x : Ex} {env2 : Env} : ∀ {xs : List P} {env : Env} {acc : List D}, comp2L vs vs1 q t s1 q1 t1 g xs env acc = .exc x env2 → False
  | [], env, acc, h => by unfold comp2L at h; cases h
  | y :: xs, env, acc, h => by
    unfold comp2L at h
    split at h
    · split at h
      · split at h
        · split at h
          · split at h
            · exact comp2L_exc h
            · cases h
          · cases h
        · exact comp2L_exc h
      · cases h
    · cases h
theorem je_comp2 {vs1 : List Nat} (C : Cz X W k) (hN : X.N.Nodup) (hi : JI X W tg iter s) (ok : BlkOk X.N X.env.scope scope own) (hq : ∀ i ∈ pidx q, i ∈ own.map (·.2)) (hq1 : ∀ i ∈ pidx q1, i ∈ vs1) (hv : ∀ i ∈ vs1, i ∈ own.map (·.2))
    (hg : ∀ (s : Shared) (H : Hp) (C : Addr) (cl : List (Str × Addr)) (fp : List Addr), Cz (X.blk s H scope (compEnvC scope cl C X.env) fp) W0 k → PG (X.blk s H scope (compEnvC scope cl C X.env) fp) tg (gPat X.K q))
    (ht : ∀ (s : Shared) (H : Hp) (C : Addr) (cl : List (Str × Addr)) (fp : List Addr), Cz (X.blk s H scope (compEnvC scope cl C X.env) fp) W0 k → PTs (X.blk s H scope (compEnvC scope cl C X.env) fp) ifs (rT X.K X.mg W0 t))
    (hi1 : ∀ (s : Shared) (H : Hp) (C : Addr) (cl : List (Str × Addr)) (fp : List Addr), Cz (X.blk s H scope (compEnvC scope cl C X.env) fp) W0 k → JI (X.blk s H scope (compEnvC scope cl C X.env) fp) W0 tg1 iter1 s1)
    (hg1 : ∀ (s : Shared) (H : Hp) (C : Addr) (cl : List (Str × Addr)) (fp : List Addr), Cz (X.blk s H scope (compEnvC scope cl C X.env) fp) W0 k → PG (X.blk s H scope (compEnvC scope cl C X.env) fp) tg1 (gPat X.K q1))
    (ht1 : ∀ (s : Shared) (H : Hp) (C : Addr) (cl : List (Str × Addr)) (fp : List Addr), Cz (X.blk s H scope (compEnvC scope cl C X.env) fp) W0 k → PTs (X.blk s H scope (compEnvC scope cl C X.env) fp) ifs1 (rT X.K X.mg W0 t1))
    (he : ∀ (s : Shared) (H : Hp) (C : Addr) (cl : List (Str × Addr)) (fp : List Addr), Cz (X.blk s H scope (compEnvC scope cl C X.env) fp) W0 k → JE (X.blk s H scope (compEnvC scope cl C X.env) fp) W0 elt g)
    (hs : ∀ x, foldedSetIterable iter X.env x = pure x := by intro _; rfl) (hs1 : ∀ env x, foldedSetIterable iter1 env x = pure x := by intro _ _; rfl) :
    JE X W (.ListComp elt [⟨tg, iter, ifs, 0⟩, ⟨tg1, iter1, ifs1, 0⟩] scope pos) (eComp2 (own.map (·.2)) vs1 q s t q1 s1 t1 g) :=
  PEimp (pe_lc2 C.calm hN hi ok hv (fun s H A cl fp => hg s H A cl fp (C.blk ..)) (fun s H A cl fp => ht s H A cl fp (C.blk ..)) (fun s H A cl fp => hi1 s H A cl fp (C.blk ..)) (fun s H A cl fp => hg1 s H A cl fp (C.blk ..)) (fun s H A cl fp => ht1 s H A cl fp (C.blk ..)) (fun s H A cl fp => he s H A cl fp (C.blk ..)) hs hs1) fun sg H Q h => rE_comp2 hq hq1 hv h
end
end Z
set_option Elab.async false
set_option linter.all false
set_option maxRecDepth 100000
set_option maxHeartbeats 1000000
namespace Z
open PySem L2
/-- all of them as they stand -/
def allP : List D → Option (List P)
  | [] => some []
  | .p x :: ds => (allP ds).map (x :: ·)
  | _ :: _ => none
def hMulL : Fn := fun ds => match ds with
  | [.l xs, .p (.int k)] => match allP xs with
    | some ps => if fits62 k && decide (xs.length * k.toNat ≤ lineN) then .ok (.l ((List.replicate k.toNat ps).flatten.map D.p)) (.p .non) else .stuck
    | none => .stuck
  | _ => .stuck
def hMul : Fn := fun ds => match hMulL ds with
  | .stuck => lift2 pMul ds
  | r => r
section
variable {K : PySem.W.Frag} {mg : Str → Option Value} {Z : Zs} {H : Hp}
theorem allP_rds : ∀ {ds : List D} {us : List V} {O : List Addr} {ps : List P}, RDs K mg Z H us ds O → allP ds = some ps → O = [] ∧ RPs K mg Z H us ps
  | [], [], _, _, h, e => by
    cases e
    simp only [RDs] at h
    exact ⟨h, by simp only [RPs]⟩
  | [], _ :: _, _, _, h, _ => by simp only [RDs] at h
  | _ :: _, [], _, _, h, _ => by simp only [RDs] at h
  | d :: ds, u :: us, O, ps, h, e => by
    cases d with
    | p x =>
      unfold allP at e
      cases e1 : allP ds with
      | none => rw [e1] at e; cases e
      | some qs =>
        rw [e1] at e
        cases e
        simp only [RDs] at h
        obtain ⟨A, B, h1, h2, e2⟩ := h
        obtain ⟨eA, r1⟩ := of_rd_p h1
        obtain ⟨eB, r2⟩ := allP_rds h2 e1
        subst eA; subst eB
        exact ⟨e2, by simp only [RPs]; exact ⟨r1, r2⟩⟩
    | l _ => cases e
    | d _ _ => cases e
    | s _ => cases e
    | i _ _ _ => cases e
theorem rps_join {xs ys : List P} : ∀ {us ws : List V}, RPs K mg Z H us xs → RPs K mg Z H ws ys → RPs K mg Z H (us ++ ws) (xs ++ ys) := by
  induction xs with
  | nil =>
    intro us ws h1 h2
    cases us with
    | nil => exact h2
    | cons _ _ => simp only [RPs] at h1
  | cons x xs ih =>
    intro us ws h1 h2
    cases us with
    | nil => simp only [RPs] at h1
    | cons u us =>
      simp only [RPs] at h1
      simp only [List.cons_append, RPs]
      exact ⟨h1.1, ih h1.2 h2⟩
theorem rps_rep {xs : List P} {us : List V} (h : RPs K mg Z H us xs) : ∀ k : Nat, RPs K mg Z H (List.replicate k us).flatten (List.replicate k xs).flatten
  | 0 => by simp [RPs]
  | k + 1 => by
    simp only [List.replicate_succ, List.flatten_cons]
    exact rps_join h (rps_rep h k)
end
section
variable {X : Cx} {W : WX} {k n m : Nat} {pos p1 p2 : Pos} {e o i j : Expr} {es : List Expr} {as : List Arg} {a b : Arg} {l r : Expr}
theorem oz_mulL : OpZ X (binaryOp .Mult) hMulL := by
  intro pins s sg H x y v u Q I rx ry hq
  obtain ⟨E, hl, Z, O, ds, rd, vl, hq⟩ := hq
  unfold hMulL at hq
  split at hq
  · rename_i r fin e1
    split at e1
    · rename_i xs k
      split at e1
      · rename_i ps hp
        split at e1
        · rename_i hz
          simp only [Bool.and_eq_true, decide_eq_true_eq] at hz
          cases e1
          obtain ⟨u1, w, O1, O2, eu, r1, r2, eO⟩ := rds2 rd
          cases eu
          obtain ⟨e2, r2'⟩ := of_rd_p r2
          subst e2; subst eO
          simp only [RP] at r2'
          subst r2'
          simp only [RD] at r1
          obtain ⟨c, us, O', rfl, hc, r1, e4⟩ := r1
          subst e4
          obtain ⟨e5, rp⟩ := allP_rds r1 hp
          subst e5
          have f62 := fits62_iff.mp hz.1
          refine op_rep pins s sg H _ _ v u Q I rx ry ⟨c, k, us, rfl, rfl, hc, by omega, by omega, by rw [r1.length, ← lineN_eq]; exact hz.2, fun p hp => ?_⟩
          exact sat_newp (vs := _) vl (RPs.kp Kp.refl (fun a z => .inl z) (rps_rep rp k.toNat)) hp hq
        · cases e1
      · cases e1
    · cases e1
  · rename_i x1 f e1
    split at e1
    · split at e1
      · split at e1 <;> cases e1
      · cases e1
    · cases e1
  · exact hq.elim
theorem oz_mul : OpZ X (binaryOp .Mult) hMul := by
  intro pins s sg H x y v u Q I rx ry hq
  obtain ⟨E, hl, Z, O, ds, rd, vl, hq⟩ := hq
  unfold hMul at hq
  cases e : hMulL ds with
  | stuck =>
    rw [e] at hq
    exact opz_of ov_mul pins s sg H x y v u Q I rx ry ⟨E, hl, Z, O, ds, rd, vl, hq⟩
  | ok r fin =>
    rw [e] at hq
    exact oz_mulL pins s sg H x y v u Q I rx ry ⟨E, hl, Z, O, ds, rd, vl, by rw [e]; exact hq⟩
  | exc x1 f =>
    rw [e] at hq
    exact oz_mulL pins s sg H x y v u Q I rx ry ⟨E, hl, Z, O, ds, rd, vl, by rw [e]; exact hq⟩
end
def hSet3 : Fn := fun ds => match ds with
  | [.l rows, d, .p (.int j), .p (.int k)] => match ixN rows.length j with
    | some n => match rows[n]? with
      | some (.l row) => match ixN row.length k with
        | some l => .ok (.p .non) (.l (rows.set n (.l (row.set l d))))
        | none => .stuck
      | _ => .stuck
    | none => .stuck
  | _ => .stuck
def pInt : P → Option P
  | .int i => some (.int i)
  | _ => none
section
variable {K : PySem.W.Frag} {mg : Str → Option Value} {Z : Zs} {H : Hp}
/-- one thing of a list, to be put in another's place -/
theorem RDs.mod : ∀ {ds : List D} {us : List V} {O : List Addr} {n : Nat} {d : D}, RDs K mg Z H us ds O → ds[n]? = some d → ∃ u Od Or, us[n]? = some u ∧ RD K mg Z H u d Od ∧ O.Perm (Od ++ Or) ∧
    ∀ {Z' : Zs} {H' : Hp} {d' : D} {Od' : List Addr}, Kp Z Or H H' → (∀ a, Z a → Z' a) → RD K mg Z' H' u d' Od' → ∃ O', RDs K mg Z' H' us (ds.set n d') O' ∧ O'.Perm (Od' ++ Or)
  | [], _, _, _, _, _, e => by simp at e
  | _ :: _, [], _, _, _, h, _ => by simp only [RDs] at h
  | d :: ds, u :: us, O, 0, x, h, e => by
    simp only [RDs] at h
    obtain ⟨A, B, h1, h2, e2⟩ := h
    have : d = x := by simpa using e
    subst this
    refine ⟨u, A, B, rfl, h1, by rw [e2], fun {Z' H' d' Od'} kp hz r => ⟨Od' ++ B, ?_, List.Perm.refl _⟩⟩
    simp only [List.set_cons_zero, RDs]
    exact ⟨Od', B, r, RDs.kp hz kp h2, rfl⟩
  | d :: ds, u :: us, O, n + 1, x, h, e => by
    simp only [RDs] at h
    obtain ⟨A, B, h1, h2, e2⟩ := h
    obtain ⟨w, Od, Or, q1, q2, q3, q4⟩ := RDs.mod (n := n) h2 (by simpa using e)
    have sw : ∀ {L M : List Addr}, (A ++ (L ++ M)).Perm (L ++ (A ++ M)) := fun {L M} => by
      rw [← List.append_assoc, ← List.append_assoc]
      exact List.Perm.append_right M List.perm_append_comm
    refine ⟨w, Od, A ++ Or, by simpa using q1, q2, ?_, fun {Z' H' d' Od'} kp hz r => ?_⟩
    · rw [e2]
      exact (List.Perm.append_left A q3).trans sw
    · obtain ⟨O2, z1, z2⟩ := q4 (kp.less fun a m => List.mem_append_right _ m) hz r
      refine ⟨A ++ O2, ?_, (List.Perm.append_left A z2).trans sw⟩
      simp only [List.set_cons_succ, RDs]
      exact ⟨A, O2, RD.kp hz (kp.less fun a m => List.mem_append_left _ m) h1, z1, rfl⟩
theorem sat_set3 {u x y z : V} {Q : VK} {E : XK} (h : Sat K mg true 4 hSet3 [u, x, y, z] H Q E) : ∃ c us j p ws n k l, u = .ref c ∧ y = .int j ∧ z = .int k ∧ H c = some (.lst us) ∧ ixN us.length j = some n ∧ us[n]? = some (.ref p) ∧ H p = some (.lst ws) ∧ ixN ws.length k = some l ∧ Q .non (upd H p (.lst (ws.set l x))) := by
  obtain ⟨_, Z, O, ds, rd, vl, hq⟩ := h
  unfold hSet3 at hq
  split at hq
  · rename_i r fin e1
    split at e1
    · rename_i rows d j k
      split at e1
      · rename_i n hn
        split at e1
        · rename_i row hrow
          split at e1
          · rename_i l hl
            cases e1
            simp only [RDs] at rd
            obtain ⟨O1, O2, r1, ⟨O3, O4, r2, ⟨O5, O6, r3, ⟨O7, O8, r4, e8, e7⟩, e6⟩, e5⟩, e4⟩ := rd
            obtain ⟨e9, r3'⟩ := of_rd_p r3
            obtain ⟨e10, r4'⟩ := of_rd_p r4
            subst e9; subst e10; subst e8; subst e7; subst e6; subst e5
            simp only [RP] at r3' r4'
            simp only [RD] at r1
            obtain ⟨c, us, Oc, ec, hc, r1, e11⟩ := r1
            subst ec; subst r3'; subst r4'; subst e11
            obtain ⟨w, Od, Or, q1, q2, q3, q4⟩ := r1.mod hrow
            simp only [RD] at q2
            obtain ⟨p, ws, Op, ew, hp, q2, e12⟩ := q2
            subst ew; subst e12
            have hl2 : ixN ws.length k = some l := by rw [q2.length]; exact hl
            have hlt : l < row.length := Nat.lt_of_lt_of_eq (ixN_seq hl2).2.1 q2.length
            obtain ⟨P1, P2, s1, s2⟩ := q2.set hlt r2
            refine ⟨c, us, j, p, ws, n, k, l, rfl, rfl, rfl, hc, by rw [r1.length]; exact hn, q1, hp, hl2, ?_⟩
            -- all that is owned
            have pO : O.Perm (p :: (c :: (Op ++ Or ++ O3))) := by
              rw [e4]
              simp only [List.append_nil, List.nil_append, List.cons_append]
              refine List.Perm.trans ?_ (List.Perm.swap ..)
              refine List.Perm.cons c ?_
              have : ((p :: Op ++ Or) ++ O3) = p :: (Op ++ Or ++ O3) := by simp
              rw [← this]
              exact List.Perm.append_right O3 q3
            have v1 : Vld Z H (p :: (c :: (Op ++ Or ++ O3))) := vl.perm pO
            have kp : Kp Z (c :: (Op ++ Or ++ O3)) H (upd H p (.lst (ws.set l x))) := kp_write v1 hp
            have cp : c ≠ p := fun z => (List.nodup_cons.mp v1.nd).1 (by rw [z]; exact List.mem_cons_self)
            have sub1 : ∀ a ∈ P1, a ∈ Op ++ O3 := fun a m => s2.mem_iff.mpr (List.mem_append_left _ m)
            have sub2 : ∀ a ∈ P1, a ∈ c :: (Op ++ Or ++ O3) := fun a m => by
              refine List.mem_cons_of_mem _ ?_
              rcases List.mem_append.mp (sub1 a m) with z | z
              · exact List.mem_append_left _ (List.mem_append_left _ z)
              · exact List.mem_append_right _ z
            have rw' : RD K mg Z (upd H p (.lst (ws.set l x))) (.ref p) (.l (row.set l d)) (p :: P1) := by
              simp only [RD]
              exact ⟨p, ws.set l x, P1, rfl, upd_same, RDs.kp (fun _ q => q) (kp.less sub2) s1, rfl⟩
            obtain ⟨O9, g1, g2⟩ := q4 (kp.less fun a m => List.mem_cons_of_mem _ (List.mem_append_left _ (List.mem_append_right _ m))) (fun _ q => q) rw'
            have nd2 : (c :: (P1 ++ Or)).Nodup := by
              have n1 := (List.nodup_cons.mp v1.nd).2
              have pp : (c :: (Op ++ Or ++ O3)).Perm (c :: (P1 ++ Or) ++ P2) := by
                simp only [List.cons_append]
                refine List.Perm.cons c ?_
                have h1 : (Op ++ Or ++ O3).Perm ((Op ++ O3) ++ Or) := by
                  rw [List.append_assoc, List.append_assoc]
                  exact List.Perm.append_left Op List.perm_append_comm
                refine h1.trans ?_
                refine (List.Perm.append_right Or s2).trans ?_
                rw [List.append_assoc, List.append_assoc]
                exact List.Perm.append_left P1 List.perm_append_comm
              exact (List.nodup_append.mp (pp.nodup_iff.mp n1)).1
            have sub3 : ∀ a ∈ c :: (P1 ++ Or), a ∈ c :: (Op ++ Or ++ O3) := fun a m => by
              rcases List.mem_cons.mp m with z | z
              · rw [z]; exact List.mem_cons_self
              · rcases List.mem_append.mp z with y | y
                · exact sub2 a y
                · exact List.mem_cons_of_mem _ (List.mem_append_left _ (List.mem_append_right _ y))
            have v2 := v1.write (o' := .lst (ws.set l x)) (O' := c :: (P1 ++ Or)) hp (fun _ z => nomatch z) trivial sub3 nd2
            have t2 : Tr Z H (p :: (c :: (Op ++ Or ++ O3))) Z (upd H p (.lst (ws.set l x))) (p :: (c :: (P1 ++ Or))) := Tr.write hp (fun _ z => nomatch z) (fun _ z => nomatch z) sub3 (by intro _ z; cases z)
            have pN : (p :: (c :: (P1 ++ Or))).Perm (c :: O9) := by
              refine (List.Perm.swap ..).trans ?_
              exact List.Perm.cons c g2.symm
            refine hq .non Z _ (c :: O9) ?_ (v2.perm pN) (t2.perm pO.symm pN)
            unfold nFin dFin
            simp only [if_true, List.take_succ_cons, List.take_zero]
            refine rds_cons (O1 := []) (rd_p (by simp only [RP])) (RDs.one ?_)
            simp only [RD]
            exact ⟨c, us, O9, rfl, by rw [upd_ne cp]; exact hc, g1, rfl⟩
          · cases e1
        · cases e1
      · cases e1
    · cases e1
  · rename_i x1 f e1
    split at e1
    · split at e1
      · split at e1
        · split at e1 <;> cases e1
        · cases e1
      · cases e1
    · cases e1
  · exact hq.elim
end
section
variable {X : Cx} {W : WX} {k m : Nat} {pos p1 p2 : Pos} {o i j value : Expr} {a b : Arg} {ks : List Nat} {gc : VF}
theorem js_set3 (hv : JA X W value a) (ho : PE X o (tVar m)) (hi : JA X W i b) (hj : JF X j ks gc) (hp : PlainIx i := by exact fun _ _ => rfl) (hs : swapsWithSole [.Subscript (.Subscript o i p1) j p2] value pos.line X.env = pure false := by rfl) (hw : swappedStores [.Subscript (.Subscript o i p1) j p2] value X.env = pure none := by rfl)
    (h1 : (assignEach [.Subscript (.Subscript o i p1) j p2] X.env).map (·.2) = [assign (.Subscript (.Subscript o i p1) j p2) X.env] := by rfl)
    (ha : ∀ v, assign (.Subscript (.Subscript o i p1) j p2) X.env v = (do
      let ov ← holding [v] (eval (.Subscript o i p1) X.env)
      let iv ← holding [v, ov] (eval j X.env)
      standAt p2
      holding [v, ov, iv] (setItem ov iv v)
      release [v, ov, iv] []) := by intro _; rfl) : JS X W (.Assign [.Subscript (.Subscript o i p1) j p2] value pos) (sExpr (eOpM m [a, b, .e (eW ks (g1 pInt gc))] hSet3)) :=
  PSimp (ps_asg hv (pg_sub (pe_ix ix_list ho hi hp) hj.run set_list ha) hs hw h1) fun D sg H q => by
    obtain ⟨u, eu, q1⟩ := eOpM_ok (rS_expr q)
    refine rArg_mono (fun x H1 q2 => ?_) (rAs_cons q1)
    refine ⟨u, eu, rArg_mono (fun y H2 q3 => ?_) (rAs_cons q2)⟩
    have inv : ∀ env i, g1 pInt gc (freezeAt env i) = g1 pInt gc env := fun env i => by unfold g1; rw [hj.inv]
    obtain ⟨env, ph, Z, O, A, ow, xx, ex, got⟩ := rE_w inv (rAs_cons q3)
    obtain ⟨kk, eg, exx⟩ : ∃ kk, gc env = some (.int kk) ∧ xx = .int kk := by
      unfold g1 at ex
      cases eg : gc env with
      | none => rw [eg] at ex; cases ex
      | some w =>
        rw [eg] at ex
        cases w with
        | int kk => cases ex; exact ⟨kk, rfl, rfl⟩
        | _ => cases ex
    subst exx
    have s0 := rAs_nil (got (.int kk) Z H2 (Grow.refl ..) (by simp only [RP]))
    obtain ⟨c, us, jj, p, ws, n, k0, l, e1, e2, e3, hc, hn, hu, hp0, hl, _⟩ := sat_set3 s0
    subst e1; subst e2; cases e3
    refine ⟨c, us, jj, .ref p, rfl, rfl, .inl (.inl hc), by unfold atI; rw [hn]; exact hu, ?_⟩
    refine ⟨env, ph, Z, O, A, fun i m => ow i m, .int kk, eg, fun v Z' H' gr rp => ?_⟩
    simp only [RP] at rp
    subst rp
    obtain ⟨c', us', jj', p', ws', n', k0', l', e1, e2, e3, hc', hn', hu', hp', hl', hq⟩ := sat_set3 (rAs_nil (got (.int kk) Z' H' gr (by simp only [RP])))
    cases e1; cases e2; cases e3
    rw [gr.kp _ _ hc] at hc'
    cases hc'
    rw [hn] at hn'
    cases hn'
    rw [hu] at hu'
    cases hu'
    exact ⟨p, ws', kk, l', rfl, rfl, hp', hl', hq⟩
end
end Z
set_option Elab.async false
set_option linter.all false
set_option maxRecDepth 100000
set_option maxHeartbeats 1000000
namespace PySem
open Sem (wp)
open AutoSeq1 (wpAny_loadPart')
/-- enumerate's object, over the iterator at it -/
abbrev enObj (it : Addr) : Obj := { cls := .type "enumerate", data := .fields #[.none, .bool false, .ref it, rawInt 0, .none, .none] }
abbrev tiObj (l : Addr) : Obj := { cls := .type "tuple_iterator", data := .fields #[.ref l, .int 0 0] }
theorem meets_enT (l : Addr) (its : Array Value) (n : Nat) (dd : Option Addr) (sl : Array (Option Value)) : Meets (Builtin.«enumerate.__new__» ⟨[.type "enumerate", .ref l], []⟩) (fun _ R s => s.heap.get? l = some { cls := .type "tuple", dict := dd, data := .seq its n, slots := sl } ∧
      R (.ok (.ret (.ref (s.heap.push (tiObj l)).objs.size))) { s with heap := (s.heap.push (tiObj l)).push (enObj s.heap.objs.size) }) := .of_wp fun prog w A R s h => by
    obtain ⟨hp, g, d, tk, os⟩ := s
    obtain ⟨hl, h⟩ := h
    have hs := sub_enumerate
    have hT : Heap.IsTuple (Shared.heap ⟨hp, g, d, tk, os⟩) l its := ⟨_, hl, rfl, n, rfl⟩
    wp_walk using wpAny_loadPart' hl
    refine wpAny_stack_any fun st => wpAny_pure ?_
    split
    · rename_i c _ _ _ _ _
      cases hb : (c == Value.type "enumerate")
      · wp_walk using wpAny_loadPart' hl, wpAny_pyIter_tuple hT
        exact ⟨_, rfl, h⟩
      · wp_walk using wpAny_loadPart' hl, wpAny_pyIter_tuple hT
        exact ⟨_, rfl, h⟩
    · wp_walk using wpAny_loadPart' hl, wpAny_pyIter_tuple hT
      exact ⟨_, rfl, h⟩
theorem call_enT {prog : Program} {w : World} {A : Around} {E : Value → Shared → Prop} {s : Shared} {l : Addr} {its : Array Value} {Q : Value → Shared → Prop} (hT : s.heap.IsTuple l its)
    (h : ∀ h', IsEnum h' (s.heap.objs.size + 1) s.heap.objs.size 0 .none → h'.IsTupleIter s.heap.objs.size l 0 → (∀ b o, s.heap.get? b = some o → h'.get? b = some o) → Q (.ref (s.heap.objs.size + 1)) { s with heap := h' }) :
    wpAny (model prog w) A (call (.type "enumerate") [.ref l]) Q E s := by
  obtain ⟨⟨c, dd, dt, sl⟩, hl, hc, n, hd⟩ := hT
  obtain rfl : c = .type "tuple" := hc
  obtain rfl : dt = .seq its n := hd
  refine callType_new F.called_enumerate (by decide) (F.typeCall_enumerate_1 _) (F.newCall_enumerate_1 _) (fun obj => F.args_object_init_2 obj _) F.entry_enumerate_new (meets_enT l its n dd sl) ⟨hl, ?_⟩
  have hz : (s.heap.push (tiObj l)).objs.size = s.heap.objs.size + 1 := Heap.size_push ..
  have he : IsEnum ((s.heap.push (tiObj l)).push (enObj s.heap.objs.size)) (s.heap.objs.size + 1) s.heap.objs.size 0 .none := by
    have q := Heap.get?_push_size (s.heap.push (tiObj l)) (o := enObj s.heap.objs.size) rfl
    rw [hz] at q
    exact q
  show _ ∧ _
  rw [hz]
  exact ⟨⟨_, he, rfl⟩, h _ he ⟨_, Heap.get?_push_of_some _ (Heap.get?_push_size _ rfl), rfl, rfl⟩ fun b o x => Heap.get?_push_of_some _ (Heap.get?_push_of_some _ x)⟩
end PySem
namespace Z
open PySem L2
/-- the tuple at a, each item in a new pair -/
def Iten (K : PySem.W.Frag) (a : Addr) : It :=
  ⟨fun i H => ∃ (xs : List V) (x : V), SqT K H a xs ∧ xs[i]? = some x, fun i H v H' => ∃ T x, v = .ref T ∧ H T = none ∧ H' = upd H T (.tup [.int (i : Nat), x]) ∧ ∀ xs, SqT K H a xs → xs[i]? = some x, fun i H => ∃ xs : List V, SqT K H a xs ∧ xs.length = i⟩
theorem turn_enT {P : Program} {w : World} {K : PySem.W.Frag} {elts : List Expr} {kk : Nat} {tpos : Pos} (a e it : Addr) :
    Turn P w K (.Tuple elts kk tpos) (Iten K a) [e, it] e (fun i h => (∃ old, IsEnum h e it ((i : Nat) : Int) old) ∧ h.IsTupleIter it a i ∧ e ≠ it) where
  mem := by simp
  obj := fun i h st b hb => by
    obtain ⟨⟨old, he⟩, ⟨o, ho, hc, hd⟩, _⟩ := st
    rcases (show b = e ∨ b = it by simpa using hb) with z | z
    · subst z; exact ⟨_, he, fun v q => nomatch q⟩
    · subst z; exact ⟨o, ho, fun v q => by rw [hd] at q; cases q⟩
  keep := fun i h h' st k => by
    obtain ⟨⟨old, he⟩, hi, hne⟩ := st
    exact ⟨⟨old, k e (by simp) _ he⟩, hi.at fun o q => k it (by simp) o q, hne⟩
  item := by
    intro X hP hw hK hc i pins s sg H E I hf st hg
    subst hP hw hK
    obtain ⟨⟨old, he⟩, hit, hne⟩ := st
    obtain ⟨xs, x, hq, hx⟩ := hg
    obtain ⟨its, rv, p, hz⟩ := I.tuple hq
    obtain ⟨u, hu, ru⟩ := rv.get hx
    have pT : s.heap.IsTuple a its.toArray := p
    have hel : e < s.heap.objs.size := Heap.lt_size he
    have hil : it < s.heap.objs.size := by obtain ⟨_, q, _⟩ := hit; exact Heap.lt_size q
    have ha : a ≠ it := fun z => by
      subst z
      obtain ⟨o, q, c, _⟩ := pT
      obtain ⟨o2, q2, c2, _⟩ := hit
      rw [q] at q2
      cases q2
      rw [c] at c2
      exact absurd c2 (by decide)
    have hae : e ≠ a := fun z => by
      subst z
      obtain ⟨o, q, c, _⟩ := pT
      have q2 : s.heap.get? e = _ := he
      rw [q] at q2
      cases q2
      exact absurd (Value.type.inj c) (by decide)
    have hlt : i < its.toArray.size := by
      have := (List.getElem?_eq_some_iff.mp hu).1
      simpa using this
    refine wpAny_pyNext_enum_itemD (Draws.tuple (A := X.A.in1) (I.ok.hd hc) it a ha its.toArray) he ⟨hit, pT⟩ hlt hne (by simp [hne, hae]) fun x' h' tk hx' ho hst hT hsz hk => ?_
    have ex : x' = u := by
      have q : its[i]? = some x' := by simpa using hx'
      rw [hu] at q
      exact (Option.some.inj q).symm
    subst ex
    refine ⟨_, rfl, wpAny_letOwnedTupleGo_enum (s := { s with heap := h', toks := tk + 1 }) ho fun h2 he' sb => ?_⟩
    have hT2 : h2.get? s.heap.objs.size = some { cls := .type "tuple", data := .seq #[.int i tk, x'] } := (sb.2 _ (Nat.ne_of_gt hel)).trans hT
    have new : ObjOk X.prog X.w (upd H s.heap.objs.size (.tup [.int (i : Nat), x])) h2 s.heap.objs.size (.tup [.int (i : Nat), x]) := ⟨by show 2 ≤ sizeLine; decide, [.int i tk, x'], .cons ⟨_, rfl⟩ (.cons ru .nil), ⟨_, hT2, rfl, _, rfl⟩⟩
    have I1 : Inv X pins sg (upd H s.heap.objs.size (.tup [.int (i : Nat), x])) { s with heap := h2, toks := tk + 1 } := by
      refine I.turnedNew (ch := [e, it]) (fun b ob hb q => ?_) hf (Nat.le_refl _) new
      exact (sb.2 b (fun z => hb (by simp [z]))).trans (hk b ob (fun z => hb (by simp [z])) (fun z => hb (by simp [z])) q)
    refine ⟨.ref s.heap.objs.size, _, I1, rfl, ⟨_, x, rfl, I.hok.fresh (Nat.le_refl _), rfl, fun ys hy => by rw [I.tuple_inj hy hq]; exact hx⟩, ⟨⟨x', ?_⟩, hst.1.at fun o q => (sb.2 it (Ne.symm hne)).trans q, hne⟩, fun b hb => ?_⟩
    · rw [show ((i + 1 : Nat) : Int) = (i : Int) + 1 by omega]
      exact he'
    · have hb' : b < s.heap.objs.size := by
        rcases (show b = e ∨ b = it by simpa using hb) with z | z
        · subst z; exact hel
        · subst z; exact hil
      rw [upd_ne (Nat.ne_of_lt hb')]
      exact (hf b hb).1
  done := by
    intro X hP hw hK hc i pins s sg H E I hf st hg
    subst hP hw hK
    obtain ⟨⟨old, he⟩, hit, hne⟩ := st
    obtain ⟨xs, hq, hx⟩ := hg
    obtain ⟨its, rv, p, hz⟩ := I.tuple hq
    obtain ⟨f0, f1, f2, f3, f4, f5⟩ := hf it (by simp)
    have pT : s.heap.IsTuple a its.toArray := p
    have hl : i = its.toArray.size := by
      have := rv.length
      simp only [List.size_toArray]
      omega
    have ha : a ≠ it := fun z => by
      subst z
      obtain ⟨o, q, c, _⟩ := pT
      obtain ⟨o2, q2, c2, _⟩ := hit
      rw [q] at q2
      cases q2
      rw [c] at c2
      exact absurd c2 (by decide)
    subst hl
    exact wpAny_pyNext_enum_endD (Draws.tuple (A := X.A.in1) (I.ok.hd hc) it a ha its.toArray) he ⟨hit, pT⟩ fun h' eb => ⟨rfl, I.turned (t' := s.toks) (fun b o hb q => eb b o hb q) f0 f1 f3 f4 f5⟩
  self := fun A i s Q E st h => by
    obtain ⟨⟨_, he⟩, _⟩ := st
    exact wpAny_pyIter_enum he h
/-- enumerate of a list, a tuple -/
def iEnA (K : PySem.W.Frag) (ta : TA) : TI := fun sg H R => ta sg H fun vs H1 => ∃ a, vs = [.ref a] ∧ ((∃ xs, SqL K H1 a xs) ∧ R (Ite K a) H1 ∨ (∃ xs, SqT K H1 a xs) ∧ R (Iten K a) H1)
theorem pi_enA {X : Cx} {e : Expr} {ta : TA} {p pos tpos : Pos} {elts : List Expr} {kk : Nat} (hg : Gl X "enumerate") (hm : X.mg "enumerate" = none) (ha : PA X [e] ta) (hs : starEach [e] X.env = [(false, eval e X.env)] := by rfl) :
    PI X (.Tuple elts kk tpos) (.Call (.Name "enumerate" p) [e] [] pos) (iEnA X.K ta) := by
  refine ⟨fun pins s sg H R I h => ?_⟩
  refine PyProof.Rows.Call_ (ld_blt I hg hm PyProof.Rows.boot_enumerate (PyProof.Rows.callWith_type1 (thn (ha.run pos pins s sg H _ I h) fun us s1 ⟨vs, H1, I1, r1, q1⟩ => ?_) hs rfl))
  obtain ⟨a, ex, q⟩ := q1
  subst ex
  cases r1 with
  | cons r rr =>
    cases rr
    cases r
    have fpk : ∀ {h' : Heap}, (∀ b o, s1.heap.get? b = some o → h'.get? b = some o) → ∀ b ∈ [s1.heap.objs.size + 1, s1.heap.objs.size], s1.heap.objs.size ≤ b := fun {h'} _ b hb => by
      rcases (show b = s1.heap.objs.size + 1 ∨ b = s1.heap.objs.size by simpa using hb) with z | z
      · subst z; exact Nat.le_add_right _ _
      · subst z; exact Nat.le_refl _
    rcases q with ⟨⟨xs, hq⟩, q⟩ | ⟨⟨xs, hq⟩, q⟩
    · obtain ⟨its, rv, p', hz⟩ := I1.list hq
      refine call_enumerate_list p'.isList fun h' he hit hsz hk => wpAny_pyIter_enum he ?_
      have I2 : Inv X pins sg H1 { s1 with heap := h' } := I1.kept (t' := s1.toks) hk
      exact ⟨s1.heap.objs.size + 1, [s1.heap.objs.size + 1, s1.heap.objs.size], _, _, H1, rfl, I2, turn_enum a (s1.heap.objs.size + 1) s1.heap.objs.size, ⟨⟨.none, he⟩, hit, Nat.succ_ne_self _⟩, fun b hb => I1.fpOk (fpk hk b hb) (I1.hok.fresh (fpk hk b hb)), q⟩
    · obtain ⟨its, rv, p', hz⟩ := I1.tuple hq
      refine call_enT (its := its.toArray) p' fun h' he hit hk => wpAny_pyIter_enum he ?_
      have I2 : Inv X pins sg H1 { s1 with heap := h' } := I1.kept (t' := s1.toks) hk
      exact ⟨s1.heap.objs.size + 1, [s1.heap.objs.size + 1, s1.heap.objs.size], _, _, H1, rfl, I2, turn_enT a (s1.heap.objs.size + 1) s1.heap.objs.size, ⟨⟨.none, he⟩, hit, Nat.succ_ne_self _⟩, fun b hb => I1.fpOk (fpk hk b hb) (I1.hok.fresh (fpk hk b hb)), q⟩
/-- the pairs -/
def enL (xs : List P) : List P := (xs.zipIdx).map fun q => .tup [.int (q.2 : Int), q.1]
theorem enL_at {xs : List P} {i : Nat} {x : P} (h : (enL xs)[i]? = some x) : ∃ y, xs[i]? = some y ∧ x = .tup [.int (i : Int), y] := by
  unfold enL at h
  rw [List.getElem?_map, List.getElem?_zipIdx] at h
  cases e : xs[i]? with
  | none => rw [e] at h; cases h
  | some y =>
    rw [e] at h
    refine ⟨y, rfl, ?_⟩
    simpa using h.symm
theorem enL_len (xs : List P) : (enL xs).length = xs.length := by simp [enL]
section
variable {K : PySem.W.Frag} {mg : Str → Option Value}
theorem en_new {Z1 : Zs} {H1 : Hp} {T : Addr} {i : Nat} {u : V} {y : P} (hT : H1 T = none) (ru : RP K mg Z1 H1 u y) : ∃ Z2, Grow Z1 H1 Z2 (upd H1 T (.tup [.int (i : Nat), u])) ∧ RP K mg Z2 (upd H1 T (.tup [.int (i : Nat), u])) (.ref T) (.tup [.int (i : Int), y]) := by
  have g : Grow Z1 H1 Z1 (upd H1 T (.tup [.int (i : Nat), u])) := Grow.new hT (by intro _ z; cases z)
  refine ⟨Z1, g, ?_⟩
  simp only [RP]
  refine ⟨T, [.int (i : Nat), u], rfl, SqI.of upd_same, ?_⟩
  simp only [RPs, RP]
  exact ⟨trivial, ru.grow g, trivial⟩
theorem goes_enL {a : Addr} {xs : List P} : Goes K mg (Ite K a) (enL xs) (fun Z1 H1 => RP K mg Z1 H1 (.ref a) (.lst xs)) where
  keep Z1 H1 Z2 H2 b hz k := b.kp k hz
  item i x Z1 H1 b hi := by
    simp only [RP] at b
    obtain ⟨a', us, e, _, s, rs⟩ := b
    cases e
    have s1 : SqL K H1 a us := .inl (.inl s)
    obtain ⟨y, ey, ex⟩ := enL_at hi
    subst ex
    obtain ⟨u, eu, ru⟩ := rs.get ey
    refine ⟨⟨us, u, s1, eu⟩, fun v H2 ⟨T, x, ev, hT, e2, y2⟩ => ?_⟩
    have := y2 us s1
    rw [eu] at this
    cases this
    subst ev; subst e2
    exact en_new hT ru
  stop Z1 H1 b := by
    simp only [RP] at b
    obtain ⟨a', us, e, _, s, rs⟩ := b
    cases e
    exact ⟨us, .inl (.inl s), by rw [rs.length, enL_len]; exact Nat.le_refl _⟩
theorem goes_enT {a : Addr} {xs : List P} {p : P} (hp : ∀ Z1 H1, RP K mg Z1 H1 (.ref a) p → ∃ us, SqT K H1 a us ∧ RPs K mg Z1 H1 us xs) : Goes K mg (Iten K a) (enL xs) (fun Z1 H1 => RP K mg Z1 H1 (.ref a) p) where
  keep Z1 H1 Z2 H2 b hz k := b.kp k hz
  item i x Z1 H1 b hi := by
    obtain ⟨us, s1, rs⟩ := hp _ _ b
    obtain ⟨y, ey, ex⟩ := enL_at hi
    subst ex
    obtain ⟨u, eu, ru⟩ := rs.get ey
    refine ⟨⟨us, u, s1, eu⟩, fun v H2 ⟨T, x, ev, hT, e2, y2⟩ => ?_⟩
    have := y2 us s1
    rw [eu] at this
    cases this
    subst ev; subst e2
    exact en_new hT ru
  stop Z1 H1 b := by
    obtain ⟨us, s1, rs⟩ := hp _ _ b
    exact ⟨us, s1, by rw [rs.length, enL_len]⟩
end
/-- enumerate -/
def itemsE : P → Option (List P)
  | .lst xs => some (enL xs)
  | .tup xs => some (enL xs)
  | .wt xs => some (enL xs)
  | _ => none
def oEn (f : EF) : SrcF := fun env => (f env).bind fun d env => match itemsE (vw d) with
  | some xs => .ok xs env
  | none => .stuck
theorem rArgs1 {K : PySem.W.Frag} {mg : Str → Option Value} {W : WX} {f : EF} {sg : St} {H : Hp} {Q : List V → Hp → Prop} (h : rE K mg W f sg H fun v H1 => Q [v] H1) : rAs K mg W [.e f] sg H Q := by
  obtain ⟨env, ph, Z, O, A, h⟩ := h
  refine ⟨env, ph, Z, O, A, ?_⟩
  unfold args1
  cases e : f env with
  | stuck => rw [e] at h; exact h
  | exc x env' => rw [e] at h; simp only [ER.bind]; exact h
  | ok d env' =>
    rw [e] at h
    simp only [ER.bind, args1]
    intro vs H' Z' O' Ot r1 ra r3 r4
    match vs, ra with
    | [v], ra =>
      obtain ⟨O1, O2, rd, e2, e3⟩ := ra
      have e2 : O2 = [] := e2
      subst e2
      rw [List.append_nil] at e3
      subst e3
      exact h v H' Z' O' Ot r1 rd r3 r4
    | [], ra => exact ra.elim
    | _ :: _ :: _, ra => obtain ⟨_, _, _, q, _⟩ := ra; exact q.elim
theorem ji_en {X : Cx} {W : WX} {e : Expr} {f : EF} {p pos tpos : Pos} {elts : List Expr} {kk : Nat} (hm : X.mg "enumerate" = none) (h : JE X W e f) (hg : Gl X "enumerate" := by rfl) (hs : starEach [e] X.env = [(false, eval e X.env)] := by rfl) : JI X W (.Tuple elts kk tpos) (.Call (.Name "enumerate" p) [e] [] pos) (oEn f) :=
  PIimp (pi_enA hg hm (jas_cons (ja_e h) jas_nil hs) hs) fun sg H R hh => by
    refine rArgs1 ?_
    obtain ⟨env, ph, Z, O, A, hh⟩ := hh
    refine ⟨env, ph, Z, O, A, ?_⟩
    unfold oEn at hh
    cases e1 : f env with
    | stuck => simp only [e1, ER.bind] at hh
    | exc x env' => simp only [e1, ER.bind] at hh; exact hh
    | ok d env' =>
      simp only [e1, ER.bind] at hh
      cases ei : itemsE (vw d) with
      | none => simp only [ei] at hh
      | some xs =>
        simp only [ei] at hh
        intro v H' Z' O' Od r1 r2 r3 r4
        obtain ⟨A2, rp, t2⟩ := At.seal r1 r2 r3 r4
        cases ev : vw d with
        | lst ys =>
          rw [ev] at ei rp
          cases ei
          have rp0 := rp
          simp only [RP] at rp
          obtain ⟨a, us, e2, _, s, rs⟩ := rp
          subst e2
          exact ⟨a, rfl, .inl ⟨⟨us, .inl (.inl s)⟩, hh _ _ _ _ _ goes_enL rp0 A2 t2⟩⟩
        | tup ys =>
          rw [ev] at ei rp
          cases ei
          have rp0 := rp
          simp only [RP] at rp
          obtain ⟨a, us, e2, s, rs⟩ := rp
          subst e2
          refine ⟨a, rfl, .inr ⟨⟨us, s.1⟩, hh _ _ _ _ _ (goes_enT (p := .tup ys) fun Z1 H1 b => ?_) rp0 A2 t2⟩⟩
          simp only [RP] at b
          obtain ⟨a', us', e', s', rs'⟩ := b
          cases e'
          exact ⟨us', s'.1, rs'⟩
        | wt ys =>
          rw [ev] at ei rp
          cases ei
          have rp0 := rp
          simp only [RP] at rp
          obtain ⟨a, us, e2, s, rs⟩ := rp
          subst e2
          refine ⟨a, rfl, .inr ⟨⟨us, s⟩, hh _ _ _ _ _ (goes_enT (p := .wt ys) fun Z1 H1 b => ?_) rp0 A2 t2⟩⟩
          simp only [RP] at b
          obtain ⟨a', us', e', s', rs'⟩ := b
          cases e'
          exact ⟨us', s', rs'⟩
        | _ => rw [ev] at ei; cases ei
end Z
set_option Elab.async false
set_option linter.all false
set_option maxRecDepth 100000
set_option maxHeartbeats 1000000
namespace Z
open PySem L2
theorem okfAL {P : Program} {w : World} {K : PySem.W.Frag} {mg : Str → Option Value} {base : Heap} {x : Str} {st : Stmt} {f : Addr} {fd : FuncData} {N ps : List Str} {k j n : Nat} {m : Bool} {s : SF} {c0 P0 : Addr} (F : FunD K x x (defArgs st) (defBody st) (defScope st) [] [] f fd) (hc : fd.code = .ref c0) (tb : LamX.TabB base mg c0 P0) (S : FnScope N ps (defScope st)) (hp : ps.length = n) (hN : N.length = j) (hm : m = true → 0 < n)
    (hb : ∀ (f c0 : Addr) (A : Around) (outer : List PySem.Env) (sh : Shared) (H : Hp) (E : XK), LamX.TabB base mg c0 P0 → Cz (cxOf (L2N.CX P w) P w K mg base N x (defScope st) f (.ref c0) A outer sh H E) (fun cls d _ H => E cls d H) k → JSs (cxOf (L2N.CX P w) P w K mg base N x (defScope st) f (.ref c0) A outer sh H E) (fun cls d _ H => E cls d H) (defBody st) s) :
    FnOk P w K mg base (L2N.CX P w) (k + 1) f fd ps (Sat K mg m n (mkFn m n j s)) := by
  obtain ⟨oc, od, dV, kV, doc, pm, an, cdv, ct, osl, e1, lk, hcd, d1, d2⟩ := F.ex
  have ec : cdv = .ref c0 := by rw [e1] at hc; exact hc
  subst ec
  rw [e1] at lk ⊢
  exact fn_of lk hcd S (fun vs H Q E h => by rw [hp]; exact h.1) fun A outer sh H vs Q E hr h =>
    ⟨_, hb f c0 A outer sh H E tb ⟨rfl, L2N.takes_of rfl rfl rfl rfl, hr, passes_of rfl⟩, body_ok hN hm h⟩
end Z
set_option Elab.async false
set_option linter.all false
set_option maxRecDepth 100000
set_option maxHeartbeats 1000000
namespace Z
open PySem L2
/-- of numbers alone -/
def pAI : P → P → Option P
  | .int i, .int j => some (.int (i + j))
  | _, _ => none
def pSI : P → P → Option P
  | .int i, .int j => some (.int (i - j))
  | _, _ => none
section
variable {X : Cx} {W : WX} {pos pos' : Pos} {x : Str} {e : Expr} {is : List Nat} {g : VF}
theorem aug_core {K : PySem.W.Frag} {mg : Str → Option Value} {f : Int → Int → Int} {h : P → P → Option P} (hh : ∀ a b r, h a b = some r → ∃ i j, a = .int i ∧ b = .int j ∧ r = .int (f i j)) (i : Nat) {sg : St} {H : Hp} {D : Ends} (hi : ∀ env j, g (freezeAt env j) = g env)
    (q : rE K mg W (eW ([i] ++ is) (g2 h (gV i) g)) sg H fun x H1 => gName i x sg H1 D.nx) : tAug i (rV K mg is g) (ipI f) D sg H := by
  have q1 := rE_w (g2_inv (fun env j => gV_inv env j) hi) q
  obtain ⟨u, eu, q2⟩ := rV_v (rV_2 q1)
  refine ⟨u, eu, ?_⟩
  obtain ⟨env, ph, Z, O, A, ow, y, ey, got⟩ := q2
  refine ⟨env, ph, Z, O, A, ow, y, ey, fun v Z' H' gr rp => ?_⟩
  obtain ⟨Z2, a, b, r, ra, rb, er, got2⟩ := got v Z' H' gr rp
  obtain ⟨m, n, e1, e2, e3⟩ := hh a b r er
  subst e1; subst e2; subst e3
  simp only [RP] at ra rb
  exact ⟨m, n, ra, rb, got2 (.int (f m n)) Z2 H' (Grow.refl ..) (by simp only [RP])⟩
theorem js_augA (S : X.N.Nodup) (i : Nat) (he : JF X e is g) (hi : X.N[i]? = some x := by rfl) (hx : L2.Loc X.env.scope x := by first | exact .inl rfl | exact .inr rfl) (hf : X.fn x = true ∨ X.env.scope.names.lookup x = some .local := by first | exact .inl rfl | exact .inr rfl) :
    JS X W (.AugAssign (.Name x pos') .Add e pos) (sAsg i (eW (i :: is) (g2 pAI (gV i) g))) :=
  PSimp (ps_aug S hi hx he.run ip_add hf) fun D sg H q => aug_core (f := fun i j => i + j) (fun a b r h => by
    unfold pAI at h
    split at h
    · cases h; exact ⟨_, _, rfl, rfl, rfl⟩
    · cases h) i he.inv (rS_asg q)
theorem js_augS (S : X.N.Nodup) (i : Nat) (he : JF X e is g) (hi : X.N[i]? = some x := by rfl) (hx : L2.Loc X.env.scope x := by first | exact .inl rfl | exact .inr rfl) (hf : X.fn x = true ∨ X.env.scope.names.lookup x = some .local := by first | exact .inl rfl | exact .inr rfl) :
    JS X W (.AugAssign (.Name x pos') .Sub e pos) (sAsg i (eW (i :: is) (g2 pSI (gV i) g))) :=
  PSimp (ps_aug S hi hx he.run ip_sub hf) fun D sg H q => aug_core (f := fun i j => i - j) (fun a b r h => by
    unfold pSI at h
    split at h
    · cases h; exact ⟨_, _, rfl, rfl, rfl⟩
    · cases h) i he.inv (rS_asg q)
end
end Z
set_option Elab.async false
set_option linter.all false
set_option maxRecDepth 100000
set_option maxHeartbeats 1000000
namespace Z
open PySem L2
/-- instances of the class C may hold f of their own -/
def AtC (K : PySem.W.Frag) (mg : Str → Option Value) (C f : Str) : Prop := ∃ c, mg C = some (.ref c) ∧ Cls K c ∧ NoAttr K c f
def AtTab (K : PySem.W.Frag) (mg : Str → Option Value) (t : Str → Str → Bool) : Prop := ∀ C f, t C f = true → AtC K mg C f
/-- e.f of an instance -/
def pAt (t : Str → Str → Bool) (f : Str) : P → Option P
  | .ins C fs vs => if t C f then (fs.zip vs).lookup f else none
  | _ => none
section
variable {K : PySem.W.Frag} {mg : Str → Option Value} {Z : Zs} {H : Hp}
theorem zip_look {f : Str} {x : P} : ∀ {fs : List Str} {vs : List P} {us : List V}, RPs K mg Z H us vs → (fs.zip vs).lookup f = some x → ∃ u, (fs.zip us).lookup f = some u ∧ RP K mg Z H u x
  | [], _, _, _, h => by simp at h
  | _ :: _, [], _, _, h => by simp at h
  | _ :: _, _ :: _, [], r, _ => by simp only [RPs] at r
  | g :: fs, v :: vs, u :: us, r, h => by
    simp only [RPs] at r
    rw [List.zip_cons_cons, List.lookup_cons] at h ⊢
    cases e : f == g with
    | true =>
      rw [e] at h
      simp only at h ⊢
      cases h
      exact ⟨u, rfl, r.1⟩
    | false =>
      rw [e] at h
      simp only at h ⊢
      exact zip_look r.2 h
end
section
variable {X : Cx} {W : WX} {k m n : Nat} {t : Str → Str → Bool} {f : Str} {pos pos' : Pos} {e o value : Expr} {is : List Nat} {g : VF} {a : Arg}
theorem jf_at (T : AtTab X.K X.mg t) (h : JF X e is g) (hb : attributeBase e f X.env (eval e X.env) = eval e X.env := by rfl) : JF X (.Attribute e f pos) is (g1 (pAt t f) g) :=
  ⟨PEimp (pe_fld h.run hb) (fun sg H Q q => by
    have q1 := rV_1 q
    refine rV_mono (fun v H1 z => ?_) q1
    obtain ⟨Z, x, r, rx, er, got⟩ := z
    unfold pAt at er
    split at er
    · rename_i C fs vs
      split at er
      · rename_i ht
        obtain ⟨c0, mc0, hc, hn⟩ := T C f ht
        simp only [RP] at rx
        obtain ⟨a, c, dx, us, ev, hz, mc, ha, hl, rs⟩ := rx
        subst ev
        rw [mc0] at mc
        cases mc
        obtain ⟨u, eu, ru⟩ := zip_look rs er
        exact ⟨a, c0, dx, fs.zip us, u, rfl, ha, hc, hn, eu, got u Z H1 (Grow.refl ..) ru⟩
      · cases er
    · cases er) , g1_inv h.inv⟩
/-- e.f = v, f new -/
def hAt (t : Str → Str → Bool) (f : Str) : Fn := fun ds => match ds with
  | [.i C fs vs, d] => if t C f && !fs.contains f && decide (fs.length < 1000) then .ok (.p .non) (.i C (fs ++ [f]) (vs ++ [d])) else .stuck
  | _ => .stuck
theorem putF_new {f : Str} {v : V} : ∀ {fs : List Str} {us : List V}, us.length = fs.length → fs.contains f = false → putF f v (fs.zip us) = (fs ++ [f]).zip (us ++ [v])
  | [], [], _, _ => rfl
  | [], _ :: _, l, _ => by simp at l
  | _ :: _, [], l, _ => by simp at l
  | g :: fs, u :: us, l, h => by
    rw [List.contains_cons, Bool.or_eq_false_iff] at h
    have ne : ¬ g = f := fun z => by rw [z] at h; simp at h
    rw [List.zip_cons_cons]
    unfold putF
    rw [if_neg ne, putF_new (by simpa using l) h.2]
    rfl
theorem sat_at {K : PySem.W.Frag} {mg : Str → Option Value} {H : Hp} {u x : V} {Q : VK} {E : XK} (T : AtTab K mg t) (h : Sat K mg true 2 (hAt t f) [u, x] H Q E) : ∃ a C dx fs, u = .ref a ∧ H a = some (.ins C dx fs) ∧ Cls K C ∧ NoAttr K C f ∧ fs.length < 1000 ∧ Q .non (upd H a (.ins C dx (putF f x fs))) := by
  obtain ⟨_, Z, O, ds, rd, vl, hq⟩ := h
  unfold hAt at hq
  split at hq
  · rename_i r fin e1
    split at e1
    · rename_i C fs vs d
      split at e1
      · rename_i hc
        simp only [Bool.and_eq_true, Bool.not_eq_true', decide_eq_true_eq] at hc
        obtain ⟨⟨ht, hf⟩, hl⟩ := hc
        cases e1
        obtain ⟨c0, mc0, hcl, hn⟩ := T C f ht
        simp only [RDs] at rd
        obtain ⟨O1, O2, r1, ⟨O3, O4, r2, e8, e7⟩, e6⟩ := rd
        subst e8
        rw [List.append_nil] at e7
        subst e7
        simp only [RD] at r1
        obtain ⟨a, c, dx, us, O', ev, mc, ha, hlen, rs, eO⟩ := r1
        subst ev; subst eO; subst e6
        rw [mc0] at mc
        cases mc
        have hlu : us.length = fs.length := by first | exact hlen | exact hlen.symm
        refine ⟨a, c0, dx, fs.zip us, rfl, ha, hcl, hn, by rw [List.length_zip]; omega, ?_⟩
        rw [putF_new hlu hf]
        have vl' : Vld Z H (a :: (O' ++ O2)) := by rw [← List.cons_append]; exact vl
        have kp : Kp Z (O' ++ O2) H (upd H a (.ins c0 dx ((fs ++ [f]).zip (us ++ [x])))) := kp_write vl' ha
        have v2 := vl'.write (o' := .ins c0 dx ((fs ++ [f]).zip (us ++ [x]))) (O' := O' ++ O2) ha (fun _ z => nomatch z) trivial (fun b m => m) (List.nodup_cons.mp vl'.nd).2
        have t2 : Tr Z H (a :: (O' ++ O2)) Z (upd H a (.ins c0 dx ((fs ++ [f]).zip (us ++ [x])))) (a :: (O' ++ O2)) := Tr.write ha (fun _ z => nomatch z) (fun _ z => nomatch z) (fun b m => m) (by intro _ z; cases z)
        refine hq .non Z _ (a :: (O' ++ O2)) ?_ v2 (by rw [List.cons_append]; exact t2)
        unfold nFin dFin
        simp only [if_true, List.take_succ_cons, List.take_zero]
        refine rds_cons (O1 := []) (rd_p (by simp only [RP])) (RDs.one ?_)
        simp only [RD]
        refine ⟨a, c0, dx, us ++ [x], O' ++ O2, rfl, mc0, upd_same, by simp [hlu], ?_, rfl⟩
        exact (RDs.kp (fun _ q => q) (kp.less fun b m => List.mem_append_left _ m) rs).app (RDs.one (RD.kp (fun _ q => q) (kp.less fun b m => List.mem_append_right _ m) r2))
      · cases e1
    · cases e1
  · rename_i x1 fx e1
    split at e1
    · split at e1 <;> cases e1
    · cases e1
  · exact hq.elim
theorem js_at (T : AtTab X.K X.mg t) (hv : JA X W value a) (ho : PE X o (tVar m)) (hs : swapsWith value (some (.Attribute o f pos')) pos.line X.env = pure false := by rfl) : JS X W (.Assign [.Attribute o f pos'] value pos) (sExpr (eOpM m [a] (hAt t f))) :=
  PSimp (ps_fld ho hv hs) fun D sg H q => by
    obtain ⟨u, eu, q1⟩ := eOpM_ok (rS_expr q)
    refine rArg_mono (fun y H1 q2 => ?_) (rAs_cons q1)
    refine ⟨u, eu, ?_⟩
    exact sat_at T (rAs_nil q2)
end
/-- C(..): h is what __init__ does -/
def mkC (C : Str) (h : Fn) : Fn := fun ds => match h (.i C [] [] :: ds) with
  | .ok (.p .non) fin => .ok fin (.p .non)
  | .exc e _ => .exc e (.p .non)
  | _ => .stuck
/-- the module's name C is a class whose __init__ keeps h -/
def OkC (P : Program) (w : World) (K : PySem.W.Frag) (mg : Str → Option Value) (base : Heap) (C : Str) (n k : Nat) (h : Fn) : Prop :=
  ∃ c f fd ps, mg C = some (.ref c) ∧ L2.Mk K c f ∧ FnOk P w K mg base (L2N.CX P w) k f fd ps (Sat K mg true (n + 1) h) ∧ Binds K fd ps []
section
variable {X : Cx} {W : WX} {k j n : Nat} {C : Str} {h : Fn} {p pos : Pos} {e : Expr} {es : List Expr} {as : List Arg}
theorem sat_mk {K : PySem.W.Frag} {mg : Str → Option Value} {H : Hp} {c x dx : Addr} {vs : List V} {Q : VK} {E : XK} (mc : mg C = some (.ref c)) (hx : H x = none) (hdx : H dx = none) (ne : dx ≠ x) (hs : Sat K mg false n (mkC C h) vs H Q E) :
    Sat K mg true (n + 1) h (.ref x :: vs) (upd (upd H dx (.own x)) x (.ins c dx [])) (fun v H2 => v = .non ∧ Q (.ref x) H2) E := by
  obtain ⟨hl, Z, O, ds, rd, vl, hq⟩ := hs
  have g1 : Grow Z H Z (upd H dx (.own x)) := Grow.new hdx (by intro _ z; cases z)
  have hx1 : upd H dx (.own x) x = none := by rw [upd_ne (fun z => ne z.symm)]; exact hx
  have vl1 := vl.grow g1
  have rd1 : RDs K mg Z (upd H dx (.own x)) vs ds O := RDs.kp (fun _ q => q) g1.Kp rd
  have v2 : Vld Z (upd (upd H dx (.own x)) x (.ins c dx [])) (x :: O) := vl1.add hx1 trivial
  have t2 : Tr Z H O Z (upd (upd H dx (.own x)) x (.ins c dx [])) (x :: O) := (g1.Tr (O := O)).trans (Tr.add hx1 (by intro _ z; cases z))
  have rd2 : RDs K mg Z (upd (upd H dx (.own x)) x (.ins c dx [])) vs ds O := by
    refine RDs.kp (fun _ q => q) (fun a o ea _ _ => ?_) rd1
    rw [upd_ne (ne_of_none ea hx1)]
    exact ea
  refine ⟨by rw [List.length_cons, hl], Z, x :: O, .i C [] [] :: ds, ?_, v2, ?_⟩
  · simp only [RDs]
    refine ⟨[x], O, ?_, rd2, rfl⟩
    simp only [RD]
    exact ⟨x, c, dx, [], [], rfl, mc, upd_same, rfl, by simp only [RDs], rfl⟩
  · unfold mkC at hq
    cases eh : h (.i C [] [] :: ds) with
    | stuck => rw [eh] at hq; exact hq.elim
    | exc e1 fin =>
      rw [eh] at hq
      intro cls dx' Z' H' O' r1 v1 t1 rx
      simp only at hq
      refine hq cls dx' Z' H' [] (by unfold nFin dFin; simp only [if_neg Bool.false_ne_true, RDs]) ?_ ((t2.trans t1).less fun a m => by cases m) rx
      exact ⟨List.nodup_nil, (fun a m => by cases m), v1.zs, (fun a m => by cases m), v1.tb⟩
    | ok r fin =>
      rw [eh] at hq
      cases r with
      | p y =>
        cases y with
        | non =>
          simp only at hq
          intro v Z' H' O' r1 v1 t1
          unfold nFin dFin at r1
          simp only [if_true, List.take_succ_cons, List.take_zero, RDs] at r1
          obtain ⟨O1, O2, ra, ⟨O3, O4, rb, e4, e3⟩, e2⟩ := r1
          obtain ⟨ea, rv⟩ := of_rd_p ra
          subst ea; subst e4; subst e3; subst e2
          simp only [RP] at rv
          refine ⟨rv, hq (.ref x) Z' H' _ ?_ v1 (t2.trans t1)⟩
          unfold nFin dFin
          simp only [if_neg Bool.false_ne_true]
          rw [List.nil_append, List.append_nil]
          exact RDs.one rb
        | _ => exact hq.elim
      | _ => exact hq.elim
theorem kC (Cc : Cz X W k) (F : OkC X.prog X.w X.K X.mg X.base C n j h) (ha : JAs X W (e :: es) as) (hn : as.length = n := by rfl) (hj : j + 1 ≤ k := by first | decide | omega) (hg : Gl X C := by rfl) (hdb : (C == ("__debug__" : Str)) = false := by decide)
    (he : starEach (e :: es) X.env = (false, eval e X.env) :: starEach es X.env := by rfl) (hpl : (backTo pos (starEach es X.env)).any (·.1) = false := by rfl) : JE X W (.Call (.Name C p) (e :: es) [] pos) (eOp as (mkC C h)) := by
  obtain ⟨c, f, fd, ps, mc, M, Fo, B⟩ := F
  refine ⟨fun pins s sg H Q I hh => ?_⟩
  have q1 := eOp_ok hh
  rw [hn] at q1
  refine wpAny_Call_Name_kw (ld_glob I hg mc ?_ hdb)
  refine PySem.W.callWith_K (h₀ := X.base) I.ok.mod.kin M.kp (thn (ha.run pos pins s sg H _ I q1) fun us s1 ⟨vs, H1, I1, r, q⟩ => ⟨I1.kIn, ?_⟩) he hpl
  have r2 : Vals vs us := r
  obtain ⟨_, _, _, _, rd0, _, _⟩ := id q
  have hq := sat_mk mc (I1.hok.fresh (Nat.le_succ _)) (I1.hok.fresh (Nat.le_refl _)) (Nat.ne_of_lt (Nat.lt_succ_self _)) q
  have I2 := Inv.made (C := c) I1
  have rv : Vals (V.ref (s1.heap.objs.size + 1) :: vs) (Value.ref (s1.heap.objs.size + 1) :: us) := .cons rfl r2
  have hl : (Value.ref (s1.heap.objs.size + 1) :: us).length = ps.length := by
    rw [← rv.length]
    exact Fo.len _ _ _ _ hq
  have hb := B _ (Value.ref (s1.heap.objs.size + 1) :: us) I2.kIn (by rw [List.append_nil]; exact hl)
  rw [List.append_nil] at hb
  have hr2 := (Cc.hr.mono hj).make c us []
  refine wpAny_call (make_map (f := f) I1.kIn M.makes M.init (beq_iff_eq.mp M.fn) (codeAny_mono (Fo.run _ X.stack _ _ ⟨Value.ref (s1.heap.objs.size + 1) :: us, []⟩ (Value.ref (s1.heap.objs.size + 1) :: us) _ _ (WE W sg) hr2 (I2.env0.make c us []) hb rv hq) fun rr s' hq' => ?_))
  cases rr with
  | error e => exact L2N.passAt Cc.tk sg pins _ _ e s' I2 hq'
  | ok fl =>
    cases fl with
    | ret u =>
      obtain ⟨v, H', I3, rv2, ev, q3⟩ := I2.after hq'
      subst ev
      exact ⟨rv2, ⟨V.ref (s1.heap.objs.size + 1), H', I3, rfl, q3⟩⟩
    | next => exact False.elim hq'
    | brk => exact False.elim hq'
    | cont => exact False.elim hq'
end
end Z
set_option Elab.async false
set_option linter.all false
set_option maxRecDepth 100000
set_option maxHeartbeats 1000000
namespace Z
open PySem L2
/-- the class C has the method, which keeps h -/
def OkM (P : Program) (w : World) (K : PySem.W.Frag) (mg : Str → Option Value) (base : Heap) (C meth : Str) (n k : Nat) (m : Bool) (h : Fn) : Prop :=
  ∃ c f fd ps, mg C = some (.ref c) ∧ PySem.W.findIn K (.ref c) meth = some (some (.ref f)) ∧ PySem.W.isFn K (.ref f) = true ∧ PySem.W.fnIn K f = true ∧ FnOk P w K mg base (L2N.CX P w) k f fd ps (Sat K mg m n h) ∧ Binds K fd ps []
section
variable {X : Cx} {W : WX} {k j n : Nat} {h : Fn} {f : Addr} {fd : FuncData} {ps : List Str} {pins : List (Addr × Obj)} {sg : St} {H : Hp} {s : Shared} {Q : VK} {us : List Value} {vs : List V} {A : Around} {m : Bool} {C : Str}
/-- a def called below the running body -/
theorem run_m (tk : L2N.Takes X W) (hr : Room k A) (hf : A.frames = X.A.frames) (F : FnOk X.prog X.w X.K X.mg X.base (L2N.CX X.prog X.w) k f fd ps (Sat X.K X.mg m n h)) (hb : Binds X.K fd ps []) (I : Inv X pins sg H s) (r : Vals vs us) (q : Sat X.K X.mg m n h vs H Q (WE W sg)) :
    wpAny (model X.prog X.w) A (call (.ref f) us) (EP X pins sg Q) X.xe s := by
  have hl : us.length = ps.length := by rw [← r.length]; exact F.len _ _ _ _ q
  have b := hb s us I.kIn (by rw [List.append_nil]; exact hl)
  rw [List.append_nil] at b
  have e0 : Env0 X.prog X.w X.K X.mg X.base A X.stack s H := by
    have e := I.env0
    exact ⟨by rw [hf]; exact e.frames, e.mod, e.bs, e.bsz, e.funs, e.frf, e.hok, e.bare⟩
  refine wpAny_call (codeAny_mono (F.run A X.stack s H ⟨us, []⟩ us vs Q (WE W sg) hr e0 b r q) fun r s' hq => ?_)
  cases r with
  | error e => exact L2N.passAt tk sg pins H s e s' I hq
  | ok fl =>
    cases fl with
    | ret u => exact I.after hq
    | next => exact False.elim hq
    | brk => exact False.elim hq
    | cont => exact False.elim hq
end
theorem seal_tr {Z : Zs} {H : Hp} {O : List Addr} (vl : Vld Z H O) : Vld (plusZ Z O) H [] ∧ Tr Z H O (plusZ Z O) H [] := by
  refine ⟨vl.part (O := O) (Ob := O) (O2 := []) (by rw [List.append_nil]), ?_⟩
  refine ⟨fun a q => .inl q, fun a q => ?_, fun a m => ?_, fun _ _ q _ _ => q, fun _ q => q, fun q => q⟩
  · rcases q with q | q
    · exact .inl q
    · exact .inr (.inl q)
  · cases m
theorem rds_ps {K : PySem.W.Frag} {mg : Str → Option Value} {Z : Zs} {H : Hp} : ∀ {us : List V} {ys : List P}, RPs K mg Z H us ys → RDs K mg Z H us (ys.map .p) []
  | [], [], _ => by simp only [List.map_nil, RDs]
  | [], _ :: _, h => by simp only [RPs] at h
  | _ :: _, [], h => by simp only [RPs] at h
  | u :: us, y :: ys, h => by
    simp only [RPs] at h
    rw [List.map_cons]
    exact rds_cons (O1 := []) (O2 := []) (rd_p h.1) (rds_ps h.2)
/-- a def over sealed trees -/
theorem sat_of {K : PySem.W.Frag} {mg : Str → Option Value} {Z : Zs} {H : Hp} {O : List Addr} {vs : List V} {ys : List P} {n : Nat} {h : Fn} {r fin : D} {Q : VK} {E : XK} (rp : RPs K mg (plusZ Z O) H vs ys) (vl : Vld Z H O) (hn : vs.length = n) (e : h (ys.map .p) = .ok r fin)
    (hq : ∀ v Z' H' O', RD K mg Z' H' v r O' → Vld Z' H' O' → Tr Z H O Z' H' O' → Q v H') : Sat K mg false n h vs H Q E := by
  obtain ⟨v0, t0⟩ := seal_tr vl
  refine ⟨hn, plusZ Z O, [], ys.map .p, rds_ps rp, v0, ?_⟩
  rw [e]
  intro v Z' H' O' r1 v1 t1
  unfold nFin dFin at r1
  simp only [Bool.false_eq_true, if_false] at r1
  exact hq v Z' H' O' (rds1 r1) v1 (t0.trans t1)
theorem ins_at {K : PySem.W.Frag} {mg : Str → Option Value} {Z : Zs} {H : Hp} {C : Str} {fs : List Str} {xs : List P} {v : V} {c : Addr} (mc : mg C = some (.ref c)) (h : RP K mg Z H v (.ins C fs xs)) : ∃ a dx us, v = .ref a ∧ H a = some (.ins c dx (fs.zip us)) ∧ us.length = fs.length ∧ RPs K mg Z H us xs := by
  simp only [RP] at h
  obtain ⟨a, c', dx, us, e, _, mc', ha, hl, r⟩ := h
  rw [mc] at mc'
  cases mc'
  exact ⟨a, dx, us, e, ha, hl, r⟩
/-- x in e -/
def mIn (C : Str) (h : Fn) : Fn := fun ds => match vws ds with
  | [x, .ins C' fs vs] => if C' = C then (match h [.p (.ins C' fs vs), .p x] with
    | .ok (.p (.bl b)) _ => .ok (.p (.bl b)) (.p .non)
    | _ => .stuck) else .stuck
  | _ => .stuck
def mNotIn (C : Str) (h : Fn) : Fn := fun ds => match mIn C h ds with
  | .ok (.p (.bl b)) f => .ok (.p (.bl !b)) f
  | _ => .stuck
/-- len(e) -/
def mLen (C : Str) (h : Fn) : Fn := fun ds => match vws ds with
  | [.ins C' fs vs] => if C' = C then (match h [.p (.ins C' fs vs)] with
    | .ok (.p (.int i)) _ => if decide (0 ≤ i) && decide (i < 2 ^ 62) then .ok (.p (.int i)) (.p .non) else .stuck
    | _ => .stuck) else .stuck
  | _ => .stuck
/-- e.f, a property -/
def mProp (C : Str) (h : Fn) : Fn := fun ds => match vws ds with
  | [.ins C' fs vs] => if C' = C then (match h [.p (.ins C' fs vs)] with
    | .ok r _ => .ok r (.p .non)
    | _ => .stuck) else .stuck
  | _ => .stuck
/-- e[x] -/
def mSub (C : Str) (h : Fn) : Fn := fun ds => match vws ds with
  | [.ins C' fs vs, x] => if C' = C then (match h [.p (.ins C' fs vs), .p x] with
    | .ok r _ => .ok r (.p .non)
    | .exc e _ => .exc e (.p .non)
    | _ => .stuck) else .stuck
  | _ => .stuck
theorem vws2 {ds : List D} {x y : P} (h : vws ds = [x, y]) : ∃ d1 d2, ds = [d1, d2] ∧ vw d1 = x ∧ vw d2 = y := by
  match ds, h with
  | [a, b], h =>
    simp only [vws] at h
    cases h
    exact ⟨a, b, rfl, rfl, rfl⟩
  | [], h => simp [vws] at h
  | [a], h => simp [vws] at h
  | a :: b :: c :: r, h => simp [vws] at h
section
variable {X : Cx} {W : WX} {k j n : Nat} {h : Fn} {C : Str}
theorem bl_run {pins : List (Addr × Obj)} {sg : St} {s : Shared} {Q : VK} {A : Around} {f : Addr} {us : List Value} {b : Bool}
    (w : wpAny (model X.prog X.w) A (call (.ref f) us) (EP X pins sg fun v H' => v = .bl b ∧ Q v H') X.xe s) {R : Value → Shared → Prop} (hR : ∀ s', EP X pins sg Q (.bool b) s' → R (.bool b) s') :
    wpAny (model X.prog X.w) A (call (.ref f) us) R X.xe s := by
  refine wpAny_mono w (fun u s' z => ?_) fun _ _ z => z
  obtain ⟨v, H', I', rv, e, q⟩ := z
  subst e
  cases rv
  exact hR s' ⟨.bl b, H', I', rfl, q⟩
theorem nfin0 {K : PySem.W.Frag} {mg : Str → Option Value} {Z : Zs} {H : Hp} {v : V} {r fin : D} {vs : List V} {O : List Addr} (h : RD K mg Z H v r O) : RDs K mg Z H (v :: nFin false vs) (r :: dFin false fin) O := by
  unfold nFin dFin
  simp only [Bool.false_eq_true, if_false]
  exact RDs.one h
theorem of_nfin0 {K : PySem.W.Frag} {mg : Str → Option Value} {Z : Zs} {H : Hp} {v : V} {r fin : D} {vs : List V} {O : List Addr} (h : RDs K mg Z H (v :: nFin false vs) (r :: dFin false fin) O) : RD K mg Z H v r O := by
  unfold nFin dFin at h
  simp only [Bool.false_eq_true, if_false] at h
  exact rds1 h
theorem con_own (Cc : Cz X W k) (F : OkM X.prog X.w X.K X.mg X.base C "__contains__" 2 j false h) (hj : j ≤ k) {pins : List (Addr × Obj)} {sg : St} {H : Hp} {s : Shared} {x y : V} {v u : Value} {Q : Hp → Prop} {Z : Zs} {O : List Addr} {ds : List D} {fin : D} {b : Bool}
    (I : Inv X pins sg H s) (rx : RelV x v) (ry : RelV y u) (rd : RDs X.K X.mg Z H [x, y] ds O) (vl : Vld Z H O) (em : mIn C h ds = .ok (.p (.bl b)) fin) (hq : ∀ Z' H', Vld Z' H' [] → Tr Z H O Z' H' [] → Q H') :
    wpAny (model X.prog X.w) X.A (contains u v) (fun b' s' => b' = b ∧ ∃ H', Inv X pins sg H' s' ∧ Q H') X.xe s := by
  obtain ⟨c, f, fd, ps, mc, hs, hf, _, Fo, B⟩ := F
  have rp := rd.seal
  unfold mIn at em
  split at em
  · rename_i px C' fs vs ev
    split at em
    · rename_i ec
      subst ec
      split at em
      · rename_i b fin' eh
        cases em
        rw [ev] at rp
        simp only [RPs] at rp
        obtain ⟨p1, p2, _⟩ := rp
        have p2' := p2
        obtain ⟨a, dx, us, rfl, ha, _, _⟩ := ins_at mc p2
        cases ry
        obtain ⟨mA, J, _⟩ := ins_get I.hok ha
        obtain ⟨od, J, _⟩ := J.look
        obtain ⟨m, hF⟩ := I.fr
        refine PySem.W.contains_K hF I.ok.mod.kin J hs hf ?_
        refine bl_run (b := b) (Q := fun _ H' => Q H') (run_m (W := W0) (us := [.ref a, v]) (vs := [.ref a, x]) takes0 (Cc.hr.mono hj) rfl Fo B I (.cons rfl (.cons rx .nil)) (Q := fun v H' => v = .bl b ∧ Q H') (sat_of (ys := [.ins C' fs vs, px]) ?_ vl rfl eh fun v Z' H' O' r1 v1 t1 => ?_)) fun s' z => ?_
        · simp only [RPs]
          exact ⟨p2', p1, trivial⟩
        · obtain ⟨eO, rv⟩ := of_rd_p r1
          subst eO
          simp only [RP] at rv
          exact ⟨rv, hq Z' H' v1 t1⟩
        · unfold truthy
          obtain ⟨_, H', I', _, q⟩ := z
          exact wpAny_pure ⟨rfl, H', I', q⟩
      · cases em
    · cases em
  · cases em
theorem mIn_ok {C : Str} {h : Fn} {ds : List D} {r fin : D} (e : mIn C h ds = .ok r fin) : ∃ b, r = .p (.bl b) ∧ fin = .p .non := by
  unfold mIn at e
  split at e
  · split at e
    · split at e
      · cases e; exact ⟨_, rfl, rfl⟩
      · cases e
    · cases e
  · cases e
theorem mIn_exc {C : Str} {h : Fn} {ds : List D} {x : Ex} {fin : D} (e : mIn C h ds = .exc x fin) : False := by
  unfold mIn at e
  split at e
  · split at e
    · split at e <;> cases e
    · cases e
  · cases e
theorem oz_in (Cc : Cz X W k) (F : OkM X.prog X.w X.K X.mg X.base C "__contains__" 2 j false h) (hj : j ≤ k) : OpZ X (compareOp .In) (mIn C h) := by
  intro pins s sg H x y v u Q I rx ry hq
  obtain ⟨E, hl, Z, O, ds, rd, vl, hq⟩ := hq
  cases em : mIn C h ds with
  | stuck => rw [em] at hq; exact hq.elim
  | exc e f => exact (mIn_exc em).elim
  | ok r fin =>
    obtain ⟨b, rfl, rfl⟩ := mIn_ok em
    rw [em] at hq
    refine wpAny_bind (wpAny_mono (con_own Cc F hj I rx ry rd vl em (Q := fun H' => Q (.bl b) H') fun Z' H' v1 t1 => hq _ Z' H' [] (nfin0 (rd_p (by simp only [RP]))) v1 t1) (fun b' s' z => ?_) fun _ _ z => z)
    obtain ⟨rfl, H', I', q⟩ := z
    exact wpAny_pure ⟨.bl b', H', I', rfl, q⟩
theorem oz_notIn (Cc : Cz X W k) (F : OkM X.prog X.w X.K X.mg X.base C "__contains__" 2 j false h) (hj : j ≤ k) : OpZ X (compareOp .NotIn) (mNotIn C h) := by
  intro pins s sg H x y v u Q I rx ry hq
  obtain ⟨E, hl, Z, O, ds, rd, vl, hq⟩ := hq
  unfold mNotIn at hq
  cases em : mIn C h ds with
  | stuck => rw [em] at hq; exact hq.elim
  | exc e f => exact (mIn_exc em).elim
  | ok r fin =>
    obtain ⟨b, rfl, rfl⟩ := mIn_ok em
    rw [em] at hq
    refine wpAny_bind (wpAny_mono (con_own Cc F hj I rx ry rd vl em (Q := fun H' => Q (.bl !b) H') fun Z' H' v1 t1 => hq _ Z' H' [] (nfin0 (rd_p (by simp only [RP]))) v1 t1) (fun b' s' z => ?_) fun _ _ z => z)
    obtain ⟨rfl, H', I', q⟩ := z
    exact wpAny_pure ⟨.bl !b', H', I', rfl, q⟩
/-- len(e) -/
theorem cz_len (Cc : Cz X W k) (F : OkM X.prog X.w X.K X.mg X.base C "__len__" 1 j false h) (hj : j + 1 ≤ k) : CallZ X (.builtin "len") 1 (mLen C h) := by
  intro pins s sg H xs us Q I rx hq
  obtain ⟨E, hl, Z, O, ds, rd, vl, hq⟩ := hq
  obtain ⟨c, f, fd, ps, mc, hs, hf, _, Fo, B⟩ := F
  have rp := rd.seal
  unfold mLen at hq
  split at hq
  · rename_i r fin e1
    split at e1
    · rename_i C' fs vs ev
      split at e1
      · rename_i ec
        subst ec
        split at e1
        · rename_i i fin' eh
          split at e1
          · rename_i hi
            cases e1
            simp only [Bool.and_eq_true, decide_eq_true_eq] at hi
            rw [ev] at rp
            match xs, rp, rx with
            | [x], rp, rx =>
            simp only [RPs] at rp
            obtain ⟨p2, _⟩ := rp
            have p2' := p2
            obtain ⟨a, dx, us', rfl, ha, _, _⟩ := ins_at mc p2
            obtain ⟨u, rfl, ru⟩ := vals1 rx
            cases ru
            obtain ⟨mA, J, _⟩ := ins_get I.hok ha
            obtain ⟨od, J, _⟩ := J.look
            obtain ⟨m, hF⟩ := I.fr
            refine PySem.W.len_K hF I.ok.mod.kin J hs hf (wpAny_mono (run_m (W := W0) (us := [.ref a]) (vs := [.ref a]) takes0 (Cc.hr.mono hj).in1 rfl Fo B I (.cons rfl .nil) (Q := fun v H' => v = .int i ∧ Q v H') (sat_of (ys := [.ins C' fs vs]) ?_ vl rfl eh fun v Z' H' O' r1 v1 t1 => ?_)) (fun w s' z => ?_) fun _ _ z => z)
            · simp only [RPs]
              exact ⟨p2', trivial⟩
            · obtain ⟨eO, rv⟩ := of_rd_p r1
              subst eO
              have rv2 := rv
              simp only [RP] at rv
              exact ⟨rv, hq v Z' H' [] (nfin0 (rd_p rv2)) v1 t1⟩
            · obtain ⟨v, H', I', rv, ev', q⟩ := z
              subst ev'
              obtain ⟨t, et⟩ := (show ∃ t, w = Value.int i t from rv)
              subst et
              refine ⟨⟨hi.1, Int.lt_trans hi.2 (by decide)⟩, ⟨.int i, H', I'.tok _, ⟨_, rfl⟩, q⟩⟩
          · cases e1
        · cases e1
      · cases e1
    · cases e1
  · rename_i x1 f1 e1
    split at e1
    · split at e1
      · split at e1
        · split at e1 <;> cases e1
        · cases e1
      · cases e1
    · cases e1
  · exact hq.elim
end
end Z
set_option Elab.async false
set_option linter.all false
set_option maxRecDepth 100000
set_option maxHeartbeats 1000000
namespace Z
open PySem L2
structure OwnK (K : PySem.W.Frag) (c : Addr) : Prop where
  cl : Cls K c
  ha : PySem.W.findIn K (.ref c) "__class__" = some (some (.builtin "object.__class__"))
  hn : PySem.W.specialIn K (.builtin "object.__class__") "__get__" = some (some (.builtin "getset_descriptor.__get__"))
  htk : PySem.W.takesIn K (.builtin "object.__class__") = some true
  hm : PySem.W.mroIn K c (.type "object") = some true
def bTys : List String := ["NoneType", "bool", "int", "str", "tuple", "list"]
/-- own classes, none above another -/
def OwnTab (K : PySem.W.Frag) (mg : Str → Option Value) (os : List Str) : Prop := ∀ C ∈ os, ∃ c, mg C = some (.ref c) ∧ OwnK K c ∧
  (∀ t ∈ bTys, PySem.W.kitOne K (.type t) (.ref c) = some false ∧ PySem.W.subIn K (.type t) (.ref c) = some false ∧ PySem.W.kitOne K (.ref c) (.type t) = some false) ∧
  ∀ C' ∈ os, ∀ c', mg C' = some (.ref c') → PySem.W.kitOne K (.ref c) (.ref c') = some (C == C')
def tyS : P → Option String
  | .non => some "NoneType"
  | .bl _ => some "bool"
  | .int _ => some "int"
  | .str _ => some "str"
  | .tup _ => some "tuple"
  | .wt _ => some "tuple"
  | .lst _ => some "list"
  | _ => none
theorem tyS_in {x : P} {t : String} (e : tyS x = some t) : t ∈ bTys := by
  unfold tyS at e
  split at e <;> cases e <;> decide
def bIsO (os : List Str) : List P → Option P
  | [.ins C' _ _, .cls C] => if os.contains C && os.contains C' then some (.bl (C' == C)) else none
  | [x, .cls C] => if os.contains C && (tyS x).isSome then some (.bl false) else none
  | [.ins C' _ _, .ty n] => if os.contains C' && bTys.contains n then some (.bl false) else none
  | xs => bIsTy xs
section
variable {X : Cx} {W : WX} {k j n : Nat} {h : Fn} {C : Str} {os : List Str}
theorem tyX_b {Z : Zs} {H : Hp} {x : P} {v : V} {t : String} (h : RP X.K X.mg Z H v x) (e : tyS x = some t) : TyX X.K H v (.type t) := by
  unfold tyS at e
  split at e
  all_goals cases e
  all_goals simp only [RP] at h
  all_goals first
    | (subst h; exact .base (.int _))
    | (subst h; exact .base (.bl _))
    | (subst h; exact .base .non)
    | (subst h; exact .base (.str _))
    | (obtain ⟨a, us, rfl, ⟨(s | ⟨o, s⟩) | ⟨o, its, n, s, c, _⟩, _⟩, _⟩ := h
       · exact .base (.tup s)
       · exact .fTuple s
       · exact .kTuple s c)
    | (obtain ⟨a, us, rfl, (s | ⟨o, s⟩) | ⟨o, its, n, s, c, _⟩, _⟩ := h
       · exact .base (.tup s)
       · exact .fTuple s
       · exact .kTuple s c)
    | (obtain ⟨a, us, rfl, _, s, _⟩ := h; exact .base (.lst s))
theorem tyX_o (T : OwnTab X.K X.mg os) (hc : C ∈ os) {Z : Zs} {H : Hp} {v : V} {fs : List Str} {xs : List P} (r : RP X.K X.mg Z H v (.ins C fs xs)) : ∃ c, X.mg C = some (.ref c) ∧ TyX X.K H v (.ref c) := by
  obtain ⟨c, mc, ok, _, _⟩ := T C hc
  obtain ⟨a, dx, us, rfl, ha, _, _⟩ := ins_at mc r
  exact ⟨c, mc, .base (.ins ha ok.cl ok.ha ok.hn ok.htk ok.hm)⟩
theorem cv_isO (T : OwnTab X.K X.mg os) : CallV X (.builtin "isinstance") (bIsO os) := by
  intro pins s sg H xs us Q I r ⟨Z, as, y, ra, e, q⟩
  unfold bIsO at e
  split at e
  · rename_i C' fs vs C
    split at e
    · rename_i hc
      cases e
      simp only [Bool.and_eq_true, List.contains_iff_mem] at hc
      obtain ⟨w1, w2, ew, r1, r2⟩ := rps2 ra
      obtain ⟨c', mc', ty⟩ := tyX_o T hc.2 r1
      obtain ⟨c2, mc2, _, _, hk⟩ := T C' hc.2
      obtain ⟨c, mc, _⟩ := T C hc.1
      rw [mc'] at mc2
      cases mc2
      simp only [RP] at r2
      obtain ⟨c3, mc3, ev⟩ := r2
      rw [mc] at mc3
      cases mc3
      subst ev
      exact call_isi pins s sg H xs us Q I r ⟨w1, _, _, _, _, ew, .own c, ty, hk C hc.1 c mc, got_p q (by simp only [RP])⟩
    · cases e
  · rename_i x C _
    split at e
    · rename_i hc
      cases e
      simp only [Bool.and_eq_true, List.contains_iff_mem] at hc
      obtain ⟨t, et⟩ := Option.isSome_iff_exists.mp hc.2
      obtain ⟨w1, w2, ew, r1, r2⟩ := rps2 ra
      obtain ⟨c, mc, _, hk, _⟩ := T C hc.1
      simp only [RP] at r2
      obtain ⟨c3, mc3, ev⟩ := r2
      rw [mc] at mc3
      cases mc3
      subst ev
      exact call_isi pins s sg H xs us Q I r ⟨w1, _, _, _, _, ew, .own c, tyX_b r1 et, (hk t (tyS_in et)).1, got_p q (by simp only [RP])⟩
    · cases e
  · rename_i C' fs vs n
    split at e
    · rename_i hc
      cases e
      simp only [Bool.and_eq_true, List.contains_iff_mem] at hc
      obtain ⟨w1, w2, ew, r1, r2⟩ := rps2 ra
      obtain ⟨c', mc', ty⟩ := tyX_o T hc.1 r1
      obtain ⟨c2, mc2, _, hk, _⟩ := T C' hc.1
      rw [mc'] at mc2
      cases mc2
      simp only [RP] at r2
      subst r2
      exact call_isi pins s sg H xs us Q I r ⟨w1, _, _, _, _, ew, .ty n, ty, (hk n hc.2).2.2, got_p q (by simp only [RP])⟩
    · cases e
  · exact cv_isi pins s sg H xs us Q I r ⟨Z, as, y, ra, e, q⟩
/-- the type of what == meets -/
theorem ty_looks (T : OwnTab X.K X.mg os) (hc : C ∈ os) {c : Addr} (mc : X.mg C = some (.ref c)) {pins : List (Addr × Obj)} {sg : St} {Z : Zs} {H : Hp} {s : Shared} {x : P} {v : V} {u : Value} (I : Inv X pins sg H s) (rv : RelV v u) (r : RP X.K X.mg Z H v x) (hx : (tyS x).isSome = true ∨ ∃ fs vs, x = .ins C fs vs) :
    ∃ tb, PySem.W.Looks (model X.prog X.w) s.heap (typeOf u) tb ∧ PySem.W.notFirst X.K c tb = true := by
  obtain ⟨c2, mc2, ok, hk, _⟩ := T C hc
  rw [mc] at mc2
  cases mc2
  rcases hx with hx | ⟨fs, vs, rfl⟩
  · obtain ⟨t, et⟩ := Option.isSome_iff_exists.mp hx
    obtain ⟨Pp, Zk, hp, _⟩ := kit_of I rv (tyX_b r et)
    refine ⟨.type t, Zk.ty _ _ I.kIn hp, ?_⟩
    unfold PySem.W.notFirst
    rw [(hk t (tyS_in et)).2.1]
    simp
  · obtain ⟨c', mc', ty⟩ := tyX_o T hc r
    rw [mc] at mc'
    cases mc'
    obtain ⟨Pp, Zk, hp, _⟩ := kit_of I rv ty
    refine ⟨.ref c, Zk.ty _ _ I.kIn hp, ?_⟩
    unfold PySem.W.notFirst
    simp
end
def insOf (C : Str) : P → Bool
  | .ins C2 _ _ => C2 == C
  | _ => false
theorem insOf_eq {C : Str} {x : P} (h : insOf C x = true) : ∃ fs vs, x = .ins C fs vs := by
  cases x with
  | ins C2 fs vs =>
    have : (C2 == C) = true := h
    rw [eq_of_beq this]
    exact ⟨_, _, rfl⟩
  | _ => cases h
/-- e == x -/
def mEq (C : Str) (h : Fn) : Fn := fun ds => match vws ds with
  | [.ins C' fs vs, x] => if C' = C ∧ ((tyS x).isSome = true ∨ insOf C x = true) then (match h [.p (.ins C' fs vs), .p x] with
    | .ok (.p (.bl b)) _ => .ok (.p (.bl b)) (.p .non)
    | _ => .stuck) else .stuck
  | _ => .stuck
theorem mEq_ok {C : Str} {h : Fn} {ds : List D} {r fin : D} (e : mEq C h ds = .ok r fin) : ∃ b, r = .p (.bl b) ∧ fin = .p .non := by
  unfold mEq at e
  split at e
  · split at e
    · split at e
      · cases e; exact ⟨_, rfl, rfl⟩
      · cases e
    · cases e
  · cases e
theorem mEq_exc {C : Str} {h : Fn} {ds : List D} {x : Ex} {fin : D} (e : mEq C h ds = .exc x fin) : False := by
  unfold mEq at e
  split at e
  · split at e
    · split at e <;> cases e
    · cases e
  · cases e
section
variable {X : Cx} {W : WX} {k j n : Nat} {h : Fn} {C : Str} {os : List Str}
/-- what the own == is asked -/
theorem eq_own (Cc : Cz X W k) {A : Around} (hA : A.frames = X.A.frames) (hr : Room j A) (T : OwnTab X.K X.mg os) (hC : C ∈ os) (F : OkM X.prog X.w X.K X.mg X.base C "__eq__" 2 j false h) {pins : List (Addr × Obj)} {sg : St} {H : Hp} {s : Shared} {x y : V} {v u : Value} {Q : Hp → Prop} {Z : Zs} {O : List Addr} {ds : List D} {fin : D} {b : Bool}
    (I : Inv X pins sg H s) (rx : RelV x v) (ry : RelV y u) (rd : RDs X.K X.mg Z H [x, y] ds O) (vl : Vld Z H O) (em : mEq C h ds = .ok (.p (.bl b)) fin) (hq : ∀ Z' H', Vld Z' H' [] → Tr Z H O Z' H' [] → Q H') :
    ∃ (a c f : Addr) (ox od : Obj) (tb : Value), v = .ref a ∧ X.mg C = some (.ref c) ∧ PySem.W.InstAt s.heap a ox c (some od) ∧ PySem.W.lookIn "__eq__" od = PySem.W.lookIn "__eq__" od ∧ PySem.W.findIn X.K (.ref c) "__eq__" = some (some (.ref f)) ∧ PySem.W.isFn X.K (.ref f) = true ∧ PySem.W.Looks (model X.prog X.w) s.heap (typeOf u) tb ∧ PySem.W.notFirst X.K c tb = true ∧
    wpAny (model X.prog X.w) A (call (.ref f) [.ref a, u]) (fun r s' => r = .bool b ∧ ∃ H', Inv X pins sg H' s' ∧ Q H') X.xe s := by
  obtain ⟨c, f, fd, ps, mc, hs, hf, _, Fo, B⟩ := F
  have rp := rd.seal
  unfold mEq at em
  split at em
  · rename_i C' fs vs px ev
    split at em
    · rename_i ec
      obtain ⟨ec, ep⟩ := ec
      subst ec
      split at em
      · rename_i b fin' eh
        cases em
        rw [ev] at rp
        simp only [RPs] at rp
        obtain ⟨p2, p1, _⟩ := rp
        have p2' := p2
        obtain ⟨a, dx, us, rfl, ha, _, _⟩ := ins_at mc p2
        cases rx
        obtain ⟨tb, lk, nf⟩ := ty_looks T hC mc I ry p1 (by
          rcases ep with ep | ep
          · exact .inl ep
          · exact .inr (insOf_eq ep))
        obtain ⟨mA, J, _⟩ := ins_get I.hok ha
        obtain ⟨od, J, _⟩ := J.look
        refine ⟨a, c, f, _, od, tb, rfl, mc, J, rfl, hs, hf, lk, nf, ?_⟩
        refine wpAny_mono (run_m (W := W0) (us := [.ref a, u]) (vs := [.ref a, y]) takes0 hr hA Fo B I (.cons rfl (.cons ry .nil)) (Q := fun v H' => v = .bl b ∧ Q H') (sat_of (ys := [.ins C' fs vs, px]) ?_ vl rfl eh fun v Z' H' O' r1 v1 t1 => ?_)) (fun w s' z => ?_) fun _ _ z => z
        · simp only [RPs]
          exact ⟨p2', p1, trivial⟩
        · obtain ⟨eO, rv⟩ := of_rd_p r1
          subst eO
          simp only [RP] at rv
          exact ⟨rv, hq Z' H' v1 t1⟩
        · obtain ⟨v, H', I', rv, ev', q⟩ := z
          subst ev'
          cases rv
          exact ⟨rfl, H', I', q⟩
      · cases em
    · cases em
  · cases em
theorem oz_eqO (Cc : Cz X W k) (T : OwnTab X.K X.mg os) (hC : C ∈ os) (F : OkM X.prog X.w X.K X.mg X.base C "__eq__" 2 j false h) (hj : j ≤ k) : OpZ X (compareOp .Eq) (mEq C h) := by
  intro pins s sg H x y v u Q I rx ry hq
  obtain ⟨E, hl, Z, O, ds, rd, vl, hq⟩ := hq
  cases em : mEq C h ds with
  | stuck => rw [em] at hq; exact hq.elim
  | exc e f => exact (mEq_exc em).elim
  | ok r fin =>
    obtain ⟨b, rfl, rfl⟩ := mEq_ok em
    rw [em] at hq
    obtain ⟨a, c, f, ox, od, tb, rfl, mc, J, _, hs, hf, lk, nf, w⟩ := eq_own Cc rfl (Cc.hr.mono hj) T hC F I rx ry rd vl em (Q := fun H' => Q (.bl b) H') fun Z' H' v1 t1 => hq _ Z' H' [] (nfin0 (rd_p (by simp only [RP]))) v1 t1
    obtain ⟨m, hF⟩ := I.fr
    show wpAny _ _ (richCompare .Eq (.ref a) u) _ _ _
    refine PySem.W.cmp_K (op := .Eq) (tb := tb) (by have := Cc.ru.un; omega) hF I.ok.mod.kin J lk nf hs hf (wpAny_mono w (fun r s' z => ?_) fun _ _ z => z)
    obtain ⟨rfl, H', I', q⟩ := z
    exact ⟨.bl b, H', I', rfl, q⟩
end
end Z
set_option Elab.async false
set_option linter.all false
set_option maxRecDepth 100000
set_option maxHeartbeats 1000000
namespace Z
open PySem PySem.Spec PyProof.Rows L2
/-- the class C has the property f, whose getter keeps h -/
def OkP (P : Program) (w : World) (K : PySem.W.Frag) (mg : Str → Option Value) (base : Heap) (C f : Str) (k : Nat) (h : Fn) : Prop :=
  ∃ c p g fd ps, mg C = some (.ref c) ∧ Cls K c ∧ PropOf K c f p g ∧ FnOk P w K mg base (L2N.CX P w) k g fd ps (Sat K mg false 1 h) ∧ Binds K fd ps []
theorem passes0 {X : Cx} : Passes (L2N.CX X.prog X.w) X.nox fun _ _ _ => False := fun pins s H sh e s' I c => by
  obtain ⟨_, _, _, _, _, _, _, _, _, _, _, _, z⟩ := c
  exact z
section
variable {X : Cx} {W : WX} {k j n : Nat} {h : Fn} {C f : Str} {e a b : Expr} {x y : Arg} {pos : Pos}
theorem je_prop (Cc : Cz X W k) (F : OkP X.prog X.w X.K X.mg X.base C f j h) (hj : j + 1 ≤ k) (ha : JA X W e x) (hab : attributeBase e f X.env (eval e X.env) = eval e X.env := by rfl) : JE X W (.Attribute e f pos) (eOp [x] (mProp C h)) := by
  obtain ⟨c, p, g, fd, ps, mc, cl, hp, Fo, B⟩ := F
  refine PEimp (pe_prop (dvs := []) (E := fun _ _ _ => False) ha cl hp Fo (Cc.hr.mono hj) B .nil passes0 hab) fun sg H Q q => ?_
  refine rArg_mono (fun v H1 z => ?_) (rE_op1 q)
  obtain ⟨hl, Z, O, ds, rd, vl, hq⟩ := z
  have rp := rd.seal
  unfold mProp at hq
  split at hq
  · rename_i r fin e1
    split at e1
    · rename_i C' fs vs ev
      split at e1
      · rename_i ec
        subst ec
        split at e1
        · rename_i r fin' eh
          cases e1
          rw [ev] at rp
          simp only [RPs] at rp
          obtain ⟨p2, _⟩ := rp
          have p2' := p2
          obtain ⟨a, dx, us', rfl, ha, _, _⟩ := ins_at mc p2
          refine ⟨a, dx, _, rfl, ha, ?_⟩
          exact sat_of (ys := [.ins C' fs vs]) (by simp only [List.append_nil, RPs]; exact ⟨p2', trivial⟩) vl rfl eh fun v Z' H' O' r1 v1 t1 => hq v Z' H' O' (nfin0 r1) v1 t1
        · cases e1
      · cases e1
    · cases e1
  · rename_i x1 f1 e1
    split at e1
    · split at e1
      · split at e1 <;> cases e1
      · cases e1
    · cases e1
  · exact hq.elim
theorem sat_exc {K : PySem.W.Frag} {mg : Str → Option Value} {Z : Zs} {H : Hp} {O : List Addr} {vs : List V} {ys : List P} {n : Nat} {h : Fn} {x : Ex} {fin : D} {Q : VK} {E : XK} (rp : RPs K mg (plusZ Z O) H vs ys) (vl : Vld Z H O) (hn : vs.length = n) (e : h (ys.map .p) = .exc x fin)
    (hq : ∀ cls dx Z' H', Vld Z' H' [] → Tr Z H O Z' H' [] → RX K mg Z' H' cls dx x → E cls dx H') : Sat K mg false n h vs H Q E := by
  obtain ⟨v0, t0⟩ := seal_tr vl
  refine ⟨hn, plusZ Z O, [], ys.map .p, rds_ps rp, v0, ?_⟩
  rw [e]
  intro cls dx Z' H' O' r1 v1 t1 rx
  unfold nFin dFin at r1
  simp only [Bool.false_eq_true, if_false, RDs] at r1
  subst r1
  exact hq cls dx Z' H' v1 (t0.trans t1) rx
theorem je_subO (Cc : Cz X W k) (F : OkM X.prog X.w X.K X.mg X.base C "__getitem__" 2 j false h) (hj : j + 1 ≤ k) (ha : JA X W a x) (hb : JA X W b y)
    (hsl : ∀ r i, subscripted b true (.ref r) i = runValue (.builtin "lifetime.subscript" ⟨[.ref r, i], []⟩) := by intro _ _; with_unfolding_all rfl) : JE X W (.Subscript a b pos) (eOp [x, y] (mSub C h)) := by
  obtain ⟨c, f, fd, ps, mc, hs, hf, hfn, Fo, B⟩ := F
  refine ⟨fun pins s sg H Q I hh => ?_⟩
  have q1 := rAs_cons (eOp_ok hh)
  refine Subscript_ (binT (R := fun x y H2 => Sat X.K X.mg false 2 (mSub C h) [x, y] H2 Q (WE W sg)) ha hb I (rArg_mono (fun v H1 z => rArg_mono (fun u H2 z2 => by have z3 := rAs_nil z2; exact z3) (rAs_cons z)) q1) fun v u s2 vx vy H2 I2 rx ry q => ?_)
  obtain ⟨hl, Z, O, ds, rd, vl, hq⟩ := q
  have rp := rd.seal
  unfold mSub at hq
  have go : ∀ {C' : Str} {fs : List Str} {vs : List P} {px : P}, vws ds = [.ins C' fs vs, px] → C' = C → (∀ {a : Addr}, vx = .ref a → Sat X.K X.mg false 2 h [.ref a, vy] H2 Q (WE W sg)) → wpAny (model X.prog X.w) X.A (subscriptTail a b v u) (EP X pins sg Q) X.xe s2 := by
    intro C' fs vs px ev ec hs2
    subst ec
    rw [ev] at rp
    simp only [RPs] at rp
    obtain ⟨p2, p1, _⟩ := rp
    obtain ⟨a0, dx, us', rfl, ha0, _, _⟩ := ins_at mc p2
    cases rx
    obtain ⟨mA, J, _⟩ := ins_get I2.hok ha0
    obtain ⟨od, J, _⟩ := J.look
    obtain ⟨m, hF⟩ := I2.fr
    exact PySem.W.sub_K hF I2.ok.mod.kin J hs hfn hf (run_m (W := W) (us := [.ref a0, u]) (vs := [.ref a0, vy]) Cc.tk (Cc.hr.mono hj).in1 rfl Fo B I2 (.cons rfl (.cons ry .nil)) (hs2 rfl)) (hsl _ _)
  split at hq
  · rename_i r fin e1
    split at e1
    · rename_i C' fs vs px ev
      split at e1
      · rename_i ec
        split at e1
        · rename_i r fin' eh
          cases e1
          refine go ev ec fun {a0} ea => ?_
          subst ea
          rw [ev] at rp
          exact sat_of (ys := [.ins C' fs vs, px]) rp vl rfl eh fun v Z' H' O' r1 v1 t1 => hq v Z' H' O' (nfin0 r1) v1 t1
        · cases e1
        · cases e1
      · cases e1
    · cases e1
  · rename_i x1 f1 e1
    split at e1
    · rename_i C' fs vs px ev
      split at e1
      · rename_i ec
        split at e1
        · cases e1
        · rename_i xx fin' eh
          cases e1
          refine go ev ec fun {a0} ea => ?_
          subst ea
          rw [ev] at rp
          refine sat_exc (ys := [.ins C' fs vs, px]) rp vl rfl eh fun cls dx Z' H' v1 t1 rx => hq cls dx Z' H' [] ?_ v1 t1 rx
          unfold nFin dFin
          simp only [Bool.false_eq_true, if_false, RDs]
        · cases e1
      · cases e1
    · cases e1
  · exact hq.elim
end
end Z
set_option Elab.async false
set_option linter.all false
set_option maxRecDepth 100000
set_option maxHeartbeats 1000000
namespace Z
open PySem PySem.Spec PyProof.Rows L2 PySem.W
section
variable {prog : Program} {w : World} {A : Around} {E : Value → Shared → Prop} {s : Shared} {K : Frag} {x C L f : Addr} {h₀ : Heap} {m : Str → Option Value} {ox : Obj} {od : Option Obj} {b tb : Value}
theorem boundNe {M : Model} {args : List Value} {Q : Option Value → Shared → Prop} (X : K.In s.heap) (I : InstAt s.heap x ox C od) (hs : findIn K (.ref C) "__ne__" = some (some (.builtin "object.__ne__")))
    (h : wpAny M A (call (.builtin "object.__ne__") (.ref x :: args)) (fun v => Q (some v)) E s) : wpAny M A (callSpecialIfBound? (.ref x) "__ne__" args) Q E s := by
  simp only [callSpecialIfBound?, bindSpecialIfBound?]
  refine wpAny_holding (wpAny_bind (wpAny_bind (wpAny_bind (I.type.here ((looks_findIn X hs).here ?_)))))
  simp only [PySem.F.cmp_object.ne.bind]
  refine wpAny_bind (wpAny_askSetting (wpAny_ite ?_))
  have fin : wpAny M A (call (.builtin "object.__ne__") ([.ref x] ++ args) >>= fun v => pure (some v)) Q E s := wpAny_bind (wpAny_mono h (fun v s' h' => wpAny_pure h') fun _ _ h' => h')
  split
  · exact wpAny_bind (wpAny_pure (wpAny_pure fin))
  · exact wpAny_tryCatch (wpAny_bind (wpAny_pure (wpAny_pure fin)))
theorem cmp_ne {Q : Value → Shared → Prop} (hu : A.units + 1 < cLine) (F : Fr h₀ L s.heap m) (X₀ : K.In h₀) (I : InstAt s.heap x ox C od) (hb : Looks (model prog w) s.heap (typeOf b) tb) (hn : notFirst K C tb = true)
    (hne : findIn K (.ref C) "__ne__" = some (some (.builtin "object.__ne__"))) (hs : findIn K (.ref C) "__eq__" = some (some (.ref f))) (hf : isFn K (.ref f) = true) (hm : mroIn K C (.type "object") = some true)
    (h : wpAny (model prog w) A.in1 (call (.ref f) [.ref x, b]) (fun r s' => ∃ c, r = .bool c ∧ Q (.bool !c) s') E s) : wpAny (model prog w) A (richCompare .NotEq (.ref x) b) Q E s := by
  have X := X₀.keeps F.keep
  have one : wpAny (model prog w) A (tryCompare (.ref x) "__ne__" b) (fun r s' => ∃ v, r = some v ∧ Q v s') E s := by
    unfold tryCompare
    refine wpAny_bind (boundNe X I hne (wpAny_call (codeAny_call_builtin PySem.F.cmp_object.ne.plain PySem.F.cmpEntry_ne
      (@check_slot (model prog w) _ _ s "object.__ne__" "object" "__ne__" (.ref x) [b] [] _ PySem.F.cmpKind_ne PySem.F.cmpSplit_ne (I.type.andThen (looks_mroIn X hm)) (PySem.F.cmpArgs_ne _ _) ?_))))
    unfold Builtin.«object.__ne__»
    refine wpAny_bind (wpAny_pure ?_)
    refine wpAny_bind (wpAny_cRoomFor (show A.in1.units < cLine from hu) ?_)
    refine wpAny_bind (ifBound_K X I hs hf (wpAny_mono h (fun v s' hv => ?_) fun _ _ e => e))
    obtain ⟨c, rfl, hq⟩ := hv
    show wpAny _ _ (truthy (.bool c) >>= _) _ _ _
    refine wpAny_bind ?_
    unfold truthy
    refine wpAny_pure ?_
    refine wpAny_pure ?_
    exact wpAny_pure ⟨_, rfl, hq⟩
  unfold richCompare
  simp only [oneThing_ref]
  refine wpAny_holding (wpAny_bind (wpAny_cRoomFor (by omega) ?_))
  refine wpAny_bind (I.type.here (wpAny_bind (hb.here ?_)))
  split
  · rename_i q
    have e : subIn K tb (.ref C) = some false := by
      rcases Bool.or_eq_true_iff.mp hn with e | e
      · rw [beq_iff_eq.mp e] at q; simp at q
      · exact beq_iff_eq.mp e
    refine wpAny_bind ((looks_subIn X e).here ?_)
    simp only [Bool.false_eq_true, if_false]
    refine wpAny_bind (wpAny_mono one (fun r s' z => ?_) fun _ _ e => e)
    obtain ⟨v, rfl, hq⟩ := z
    exact wpAny_pure hq
  · refine wpAny_bind (wpAny_pure ?_)
    simp only [Bool.false_eq_true, if_false]
    refine wpAny_bind (wpAny_mono one (fun r s' z => ?_) fun _ _ e => e)
    obtain ⟨v, rfl, hq⟩ := z
    exact wpAny_pure hq
end
/-- own classes of the table take their != from object -/
def NeTab (K : PySem.W.Frag) (mg : Str → Option Value) (os : List Str) : Prop := ∀ C ∈ os, ∀ c, mg C = some (.ref c) → PySem.W.findIn K (.ref c) "__ne__" = some (some (.builtin "object.__ne__"))
def mNe (C : Str) (h : Fn) : Fn := fun ds => match mEq C h ds with
  | .ok (.p (.bl b)) f => .ok (.p (.bl !b)) f
  | _ => .stuck
section
variable {X : Cx} {W : WX} {k j n : Nat} {h : Fn} {C : Str} {os : List Str}
theorem oz_neO (Cc : Cz X W k) (T : OwnTab X.K X.mg os) (N : NeTab X.K X.mg os) (hC : C ∈ os) (F : OkM X.prog X.w X.K X.mg X.base C "__eq__" 2 j false h) (hj : j + 1 ≤ k) : OpZ X (compareOp .NotEq) (mNe C h) := by
  intro pins s sg H x y v u Q I rx ry hq
  obtain ⟨E, hl, Z, O, ds, rd, vl, hq⟩ := hq
  unfold mNe at hq
  cases em : mEq C h ds with
  | stuck => rw [em] at hq; exact hq.elim
  | exc e f => exact (mEq_exc em).elim
  | ok r fin =>
    obtain ⟨b, rfl, rfl⟩ := mEq_ok em
    rw [em] at hq
    obtain ⟨a, c, f, ox, od, tb, rfl, mc, J, _, hs, hf, lk, nf, w⟩ := eq_own Cc (A := X.A.in1) rfl (Cc.hr.mono hj).in1 T hC F I rx ry rd vl em (Q := fun H' => Q (.bl !b) H') fun Z' H' v1 t1 => hq _ Z' H' [] (nfin0 (rd_p (by simp only [RP]))) v1 t1
    obtain ⟨m, hF⟩ := I.fr
    obtain ⟨c2, mc2, ok, _, _⟩ := T C hC
    rw [mc] at mc2
    cases mc2
    show wpAny _ _ (richCompare .NotEq (.ref a) u) _ _ _
    refine cmp_ne (tb := tb) (by have := Cc.ru.un; omega) hF I.ok.mod.kin J lk nf (N C hC _ mc) hs hf ok.hm (wpAny_mono w (fun r s' z => ?_) fun _ _ z => z)
    obtain ⟨rfl, H', I', q⟩ := z
    exact ⟨b, rfl, .bl !b, H', I', rfl, q⟩
def blsOf : List P → Option (List Bool)
  | [] => some []
  | .bl b :: xs => (blsOf xs).map (b :: ·)
  | _ => none
theorem bls_vals {K : PySem.W.Frag} {mg : Str → Option Value} {Z : Zs} {H : Hp} : ∀ {xs : List P} {bs : List Bool} {us : List V}, blsOf xs = some bs → RPs K mg Z H us xs → us = bs.map V.bl
  | [], _, [], e, _ => by cases e; rfl
  | [], _, _ :: _, _, r => by simp only [RPs] at r
  | x :: xs, bs, [], _, r => by simp only [RPs] at r
  | x :: xs, bs, u :: us, e, r => by
    simp only [RPs] at r
    unfold blsOf at e
    split at e
    · rename_i e0
      cases e0
    · rename_i b xs' e0
      cases e0
      cases eb : blsOf xs with
      | none => rw [eb] at e; cases e
      | some cs =>
        rw [eb] at e
        cases e
        have := r.1
        simp only [RP] at this
        rw [this, bls_vals eb r.2]
        rfl
    · cases e
def bAny : List P → Option P
  | [.lst xs] => (blsOf xs).map fun bs => .bl (bs.any id)
  | _ => none
def bAll : List P → Option P
  | [.lst xs] => (blsOf xs).map fun bs => .bl (bs.all id)
  | _ => none
theorem cv_any (Cc : Cz X W k) : CallV X (.builtin "any") bAny := by
  intro pins s sg H xs us Q I r ⟨Z, as, y, ra, e, q⟩
  unfold bAny at e
  split at e
  · rename_i ys
    cases eb : blsOf ys with
    | none => rw [eb] at e; cases e
    | some bs =>
      rw [eb] at e
      cases e
      obtain ⟨w, ew, rw_⟩ := rps1 ra
      simp only [RP] at rw_
      obtain ⟨p, ws, e1, _, s1, r1⟩ := rw_
      have := bls_vals eb r1
      subst this
      exact cr_any Cc.calm pins s sg H xs us Q I r ⟨p, bs, by rw [ew, e1], .inl (.inl s1), got_p q (by simp only [RP])⟩
  · cases e
theorem cv_all (Cc : Cz X W k) : CallV X (.builtin "all") bAll := by
  intro pins s sg H xs us Q I r ⟨Z, as, y, ra, e, q⟩
  unfold bAll at e
  split at e
  · rename_i ys
    cases eb : blsOf ys with
    | none => rw [eb] at e; cases e
    | some bs =>
      rw [eb] at e
      cases e
      obtain ⟨w, ew, rw_⟩ := rps1 ra
      simp only [RP] at rw_
      obtain ⟨p, ws, e1, _, s1, r1⟩ := rw_
      have := bls_vals eb r1
      subst this
      exact cr_all Cc.calm pins s sg H xs us Q I r ⟨p, bs, by rw [ew, e1], .inl (.inl s1), got_p q (by simp only [RP])⟩
  · cases e
end
end Z
set_option Elab.async false
set_option linter.all false
set_option maxRecDepth 100000
set_option maxHeartbeats 1000000
namespace Z
open PySem L2
def pInS : P → P → Option P
  | .str x, .str z => match x.cps.toList with
    | [c] => some (.bl (decide (c ∈ z.cps.toList)))
    | _ => none
  | _, _ => none
def repS (s : Str) (n : Int) : Str := if n < 1 then Str.empty else if (n == 1 || s.length == 0) = true then s else ⟨(List.replicate n.toNat s.cps).foldl (· ++ ·) #[]⟩
def pMulS : P → P → Option P
  | .str s, .int n => if -(2 ^ 62) ≤ n ∧ n < 2 ^ 62 ∧ s.length * n.toNat ≤ lineN then some (.str (repS s n)) else none
  | .int i, .int j => pMul (.int i) (.int j)
  | _, _ => none
def hSw : P → List P → Option P
  | .str a, [.str b] => some (.bl (Txt.startswith a b))
  | _, _ => none
def hEw : P → List P → Option P
  | .str a, [.str b] => some (.bl (Txt.endswith a b))
  | _, _ => none
def hFind : P → List P → Option P
  | .str a, [.str b] => some (.int (Txt.find a b))
  | _, _ => none
def hUp : P → List P → Option P
  | .str a, [] => if a.length ≤ 5592405 then some (.str (Txt.upper a)) else none
  | _, _ => none
def strsOf : List P → Option (List Str)
  | [] => some []
  | .str s :: xs => (strsOf xs).map (s :: ·)
  | _ => none
def hJoin : P → List P → Option P
  | .str a, [.lst xs] => (strsOf xs).bind fun ys => if (ys.map (·.length)).sum + ys.length * a.length ≤ lineN then some (.str (Txt.join a ys)) else none
  | .str a, [.tup xs] => (strsOf xs).bind fun ys => if (ys.map (·.length)).sum + ys.length * a.length ≤ lineN then some (.str (Txt.join a ys)) else none
  | _, _ => none
def hSplit : P → List P → Option P
  | .str a, [.str b] => if b.length ≠ 0 ∧ a.length + 2 ≤ lineN then some (.lst ((Txt.split a b).map P.str)) else none
  | _, _ => none
/-- int(x) of numbers and texts -/
def bIntA : List P → Option P
  | [.str a] => if a.length ≤ 640 then (PySem.intText? a).map P.int else none
  | xs => bInt xs
def bStr : List P → Option P
  | [.int i] => if i.natAbs.log2 < 1920 then some (.str (Str.ofString (toString i))) else none
  | [.str a] => some (.str a)
  | _ => none
theorem rep_size (a : Array Nat) : ∀ (n : Nat) (acc : Array Nat), ((List.replicate n a).foldl (· ++ ·) acc).size = acc.size + a.size * n
  | 0, acc => by simp
  | n + 1, acc => by
    rw [List.replicate_succ, List.foldl_cons, rep_size a n (acc ++ a), Array.size_append, Nat.mul_succ]
    omega
theorem strs_vals {K : PySem.W.Frag} {mg : Str → Option Value} {Z : Zs} {H : Hp} : ∀ {xs : List P} {ys : List Str} {us : List V}, strsOf xs = some ys → RPs K mg Z H us xs → us = ys.map V.str
  | [], _, [], e, _ => by cases e; rfl
  | [], _, _ :: _, _, r => by simp only [RPs] at r
  | x :: xs, ys, [], _, r => by simp only [RPs] at r
  | x :: xs, ys, u :: us, e, r => by
    simp only [RPs] at r
    unfold strsOf at e
    split at e
    · rename_i e0
      cases e0
    · rename_i b xs' e0
      cases e0
      cases eb : strsOf xs with
      | none => rw [eb] at e; cases e
      | some cs =>
        rw [eb] at e
        cases e
        have := r.1
        simp only [RP] at this
        rw [this, strs_vals eb r.2]
        rfl
    · cases e
theorem rps_strs {K : PySem.W.Frag} {mg : Str → Option Value} {Z : Zs} {H : Hp} : ∀ ys : List Str, RPs K mg Z H (ys.map V.str) (ys.map P.str)
  | [] => by simp only [List.map_nil, RPs]
  | y :: ys => by
    simp only [List.map_cons, RPs, RP]
    exact ⟨trivial, rps_strs ys⟩
section
variable {X : Cx} {W : WX} {k : Nat}
theorem ov_inS : OpV X (compareOp .In) pInS := by
  intro pins s sg H x y v u Q I rx ry ⟨Z, a, b, r, ra, rb, e, q⟩
  unfold pInS at e
  split at e
  · rename_i z t
    split at e
    · rename_i c hc
      cases e
      simp only [RP] at ra rb
      have ez : z = ⟨#[c]⟩ := by
        cases z with
        | mk cs =>
          have : cs = #[c] := by rw [← Array.toArray_toList (xs := cs), hc]
          rw [this]
      subst ez
      exact op_in_sign pins s sg H x y v u Q I rx ry ⟨c, t, ra, rb, got_p q (by simp only [RP])⟩
    · cases e
  · cases e
theorem bl_inS : Bl2 pInS := fun a b r e => by
  unfold pInS at e
  split at e
  · split at e
    · cases e; exact ⟨_, rfl⟩
    · cases e
  · cases e
theorem ov_mulS : OpV X (binaryOp .Mult) pMulS := by
  intro pins s sg H x y v u Q I rx ry ⟨Z, a, b, r, ra, rb, e, q⟩
  unfold pMulS at e
  split at e
  · rename_i z n
    split at e
    · rename_i hz
      cases e
      simp only [RP] at ra rb
      subst ra; subst rb
      obtain ⟨t, rfl⟩ := rx
      obtain ⟨t', rfl⟩ := ry
      have hs : z.length * n.toNat ≤ sizeLine := by rw [← lineN_eq]; exact hz.2.2
      have hl : (lineN : Nat) = 16777216 := rfl
      refine PySem.P.mul_str ?_ (fun h1 h2 => ?_) (fun h1 h2 => PyProof.Rows.short24 (by have := hz.2.2; omega)) ?_
      · have h1 : ¬ n < -(2 ^ 63) := by omega
        have h2 : ¬ n ≥ 2 ^ 63 := by omega
        rw [decide_eq_false h1, decide_eq_false h2]; rfl
      · have hn : 1 < n := by
          rcases Int.lt_trichotomy n 1 with y | y | y
          · exact absurd y h1
          · rw [y] at h2; simp at h2
          · exact y
        have hb := hz.2.2
        intro hc
        have h3 : (z.length : Int) * n ≤ 16777216 := by
          have : ((z.length * n.toNat : Nat) : Int) ≤ (16777216 : Nat) := by exact_mod_cast hb
          rw [Int.natCast_mul, Int.toNat_of_nonneg (by omega)] at this
          exact this
        have h4 : (2 ^ 63 - 1 : Int) / n * n > 2 ^ 63 - 1 - n := by
          have := Int.emod_add_mul_ediv (2 ^ 63 - 1) n
          have h5 := Int.emod_lt_of_pos (2 ^ 63 - 1) (show (0:Int) < n by omega)
          have h6 : n * ((2 ^ 63 - 1) / n) = (2 ^ 63 - 1) / n * n := Int.mul_comm _ _
          omega
        have h7 : ((2 ^ 63 - 1 : Int) / n) * n < (z.length : Int) * n := Int.mul_lt_mul_of_pos_right hc (by omega)
        omega
      · unfold repS at q
        split
        · rename_i c
          rw [if_pos c] at q
          exact ⟨by decide, .str Str.empty, H, I.tok _, ⟨_, rfl⟩, got_p q (by simp only [RP])⟩
        · rename_i c
          rw [if_neg c] at q
          split
          · rename_i c2
            rw [if_pos c2] at q
            exact ⟨.str z, H, I, ⟨_, rfl⟩, got_p q (by simp only [RP])⟩
          · rename_i c2
            rw [if_neg c2] at q
            refine ⟨?_, .str _, H, I.tok _, ⟨_, rfl⟩, got_p q (by simp only [RP])⟩
            show ((List.replicate n.toNat z.cps).foldl (· ++ ·) #[]).size ≤ sizeLine
            rw [rep_size]
            have e0 : (#[] : Array Nat).size = 0 := rfl
            rw [e0, Nat.zero_add]
            exact hs
    · cases e
  · rename_i i j
    exact ov_mul pins s sg H x y v u Q I rx ry ⟨Z, .int i, .int j, r, ra, rb, e, q⟩
  · cases e
theorem mv_sw : MtV X "str" "str.startswith" hSw where
  mt := by
    intro pins s sg H x xs v us Q I rx rs ⟨Z, a, as, r, ra, rb, e, q⟩
    unfold hSw at e
    split at e
    · cases e
      obtain ⟨w, ew, rw_⟩ := rps1 rb
      simp only [RP] at ra rw_
      exact mt_startswith pins s sg H x xs v us Q I rx rs ⟨_, _, ra, by rw [ew, rw_], got_p q (by simp only [RP])⟩
    · cases e
  ty := fun {Z H x a} rp ⟨as, r, e⟩ => by
    unfold hSw at e
    split at e
    · simp only [RP] at rp; subst rp; rfl
    · cases e
theorem mv_ew : MtV X "str" "str.endswith" hEw where
  mt := by
    intro pins s sg H x xs v us Q I rx rs ⟨Z, a, as, r, ra, rb, e, q⟩
    unfold hEw at e
    split at e
    · cases e
      obtain ⟨w, ew, rw_⟩ := rps1 rb
      simp only [RP] at ra rw_
      exact mt_endswith pins s sg H x xs v us Q I rx rs ⟨_, _, ra, by rw [ew, rw_], got_p q (by simp only [RP])⟩
    · cases e
  ty := fun {Z H x a} rp ⟨as, r, e⟩ => by
    unfold hEw at e
    split at e
    · simp only [RP] at rp; subst rp; rfl
    · cases e
theorem mv_find : MtV X "str" "str.find" hFind where
  mt := by
    intro pins s sg H x xs v us Q I rx rs ⟨Z, a, as, r, ra, rb, e, q⟩
    unfold hFind at e
    split at e
    · cases e
      obtain ⟨w, ew, rw_⟩ := rps1 rb
      simp only [RP] at ra rw_
      exact mt_find pins s sg H x xs v us Q I rx rs ⟨_, _, ra, by rw [ew, rw_], got_p q (by simp only [RP])⟩
    · cases e
  ty := fun {Z H x a} rp ⟨as, r, e⟩ => by
    unfold hFind at e
    split at e
    · simp only [RP] at rp; subst rp; rfl
    · cases e
theorem mv_up : MtV X "str" "str.upper" hUp where
  mt := by
    intro pins s sg H x xs v us Q I rx rs ⟨Z, a, as, r, ra, rb, e, q⟩
    unfold hUp at e
    split at e
    · split at e
      · rename_i hz
        cases e
        have er : xs = [] := by
          cases xs with
          | nil => rfl
          | cons _ _ => simp only [RPs] at rb
        simp only [RP] at ra
        exact mt_upper pins s sg H x xs v us Q I rx rs ⟨_, ra, er, hz, got_p q (by simp only [RP])⟩
      · cases e
    · cases e
  ty := fun {Z H x a} rp ⟨as, r, e⟩ => by
    unfold hUp at e
    split at e
    · simp only [RP] at rp; subst rp; rfl
    · cases e
theorem mv_join : MtV X "str" "str.join" hJoin where
  mt := by
    intro pins s sg H x xs v us Q I rx rs ⟨Z, a, as, r, ra, rb, e, q⟩
    unfold hJoin at e
    split at e
    · rename_i t ps
      cases es : strsOf ps with
      | none => rw [es] at e; cases e
      | some ys =>
        rw [es] at e
        simp only [Option.bind_some] at e
        split at e
        · rename_i hz
          cases e
          obtain ⟨w, ew, rw_⟩ := rps1 rb
          simp only [RP] at ra rw_
          obtain ⟨p, ws, e1, _, s1, r1⟩ := rw_
          have := strs_vals es r1
          subst this
          exact mt_join pins s sg H x xs v us Q I rx rs ⟨t, p, ys, ra, by rw [ew, e1], .inl (.inl (.inl s1)), hz, got_p q (by simp only [RP])⟩
        · cases e
    · rename_i t ps
      cases es : strsOf ps with
      | none => rw [es] at e; cases e
      | some ys =>
        rw [es] at e
        simp only [Option.bind_some] at e
        split at e
        · rename_i hz
          cases e
          obtain ⟨w, ew, rw_⟩ := rps1 rb
          simp only [RP] at ra rw_
          obtain ⟨p, ws, e1, s1, r1⟩ := rw_
          have := strs_vals es r1
          subst this
          exact mt_join pins s sg H x xs v us Q I rx rs ⟨t, p, ys, ra, by rw [ew, e1], .inr s1.1, hz, got_p q (by simp only [RP])⟩
        · cases e
    · cases e
  ty := fun {Z H x a} rp ⟨as, r, e⟩ => by
    unfold hJoin at e
    split at e
    · simp only [RP] at rp; subst rp; rfl
    · simp only [RP] at rp; subst rp; rfl
    · cases e
theorem mv_split : MtV X "str" "str.split" hSplit where
  mt := by
    intro pins s sg H x xs v us Q I rx rs ⟨Z, a, as, r, ra, rb, e, q⟩
    unfold hSplit at e
    split at e
    · split at e
      · rename_i a b hz
        cases e
        obtain ⟨w, ew, rw_⟩ := rps1 rb
        simp only [RP] at ra rw_
        refine mt_split pins s sg H x xs v us Q I rx rs ⟨_, _, ra, by rw [ew, rw_], by simpa using hz.1, by rw [← lineN_eq]; exact hz.2, fun p hp => ?_⟩
        refine q _ _ _ (Grow.newZ hp (by intro _ z; cases z)) ?_
        simp only [RP]
        exact ⟨p, _, rfl, .inr (by simp), upd_same, rps_strs _⟩
      · cases e
    · cases e
  ty := fun {Z H x a} rp ⟨as, r, e⟩ => by
    unfold hSplit at e
    split at e
    · simp only [RP] at rp; subst rp; rfl
    · cases e
theorem cv_intA : CallV X (.type "int") bIntA := by
  intro pins s sg H xs us Q I r ⟨Z, as, y, ra, e, q⟩
  unfold bIntA at e
  split at e
  · rename_i a
    split at e
    · rename_i hz
      cases ei : PySem.intText? a with
      | none => rw [ei] at e; cases e
      | some n =>
        rw [ei] at e
        cases e
        obtain ⟨w, ew, rw_⟩ := rps1 ra
        simp only [RP] at rw_
        exact call_int_str pins s sg H xs us Q I r ⟨a, n, by rw [ew, rw_], ei, hz, got_p q (by simp only [RP])⟩
    · cases e
  · exact cv_int pins s sg H xs us Q I r ⟨Z, as, y, ra, e, q⟩
theorem cv_str : CallV X (.type "str") bStr := by
  intro pins s sg H xs us Q I r ⟨Z, as, y, ra, e, q⟩
  unfold bStr at e
  split at e
  · split at e
    · rename_i hz
      cases e
      obtain ⟨w, ew, rw_⟩ := rps1 ra
      simp only [RP] at rw_
      exact call_str_int pins s sg H xs us Q I r ⟨_, by rw [ew, rw_], hz, got_p q (by simp only [RP])⟩
    · cases e
  · cases e
    obtain ⟨w, ew, rw_⟩ := rps1 ra
    simp only [RP] at rw_
    exact SkE.call_str_str pins s sg H xs us Q I r ⟨_, by rw [ew, rw_], got_p q (by simp only [RP])⟩
  · cases e
end
end Z
set_option Elab.async false
set_option linter.all false
set_option maxRecDepth 100000
set_option maxHeartbeats 1000000
namespace Z
open PySem PySem.Spec PyProof.Rows L2
section
variable (K : PySem.W.Frag)
mutual
def wtB : P → Value → Bool
  | .non, .none => true
  | .bl b, .bool c => b == c
  | .int i, .int j _ => decide (i = j)
  | .str x, .str y _ => decide (x = y)
  | .ty n, .type m => decide (n = m)
  | .wt xs, .ref a => (match K.lookup a with
    | some ⟨.type c, _, .seq its _, _⟩ => decide (c = "tuple") && (decide (its.size ≤ sizeLine) && wtBs xs its.toList)
    | _ => false)
  | .tup xs, .ref a => !intHead xs && (match K.lookup a with
    | some ⟨.type c, _, .seq its _, _⟩ => decide (c = "tuple") && (decide (its.size ≤ sizeLine) && wtBs xs its.toList)
    | _ => false)
  | _, _ => false
def wtBs : List P → List Value → Bool
  | [], [] => true
  | x :: xs, u :: us => wtB x u && wtBs xs us
  | _, _ => false
end
end
section
variable {K : PySem.W.Frag} {mg : Str → Option Value}
theorem wt_seq {a : Addr} {f : List Value → Bool} (h : (match K.lookup a with
    | some ⟨.type c, _, .seq its _, _⟩ => decide (c = "tuple") && (decide (its.size ≤ sizeLine) && f its.toList)
    | _ => false) = true) : ∃ oc od its n sl, K.lookup a = some ⟨oc, od, .seq its n, sl⟩ ∧ oc = .type "tuple" ∧ its.size ≤ sizeLine ∧ f its.toList = true := by
  split at h
  · rename_i c od its n sl e
    obtain ⟨h1, h2⟩ := He.ba h
    obtain ⟨h3, h4⟩ := He.ba h2
    exact ⟨_, _, _, _, _, e, congrArg Value.type (of_decide_eq_true h1), of_decide_eq_true h3, h4⟩
  · cases h
mutual
theorem wtB_ok : ∀ (y : P) (u : Value), wtB K y u = true → ∃ v, L2.RelV v u ∧ ∀ Z H, RP K mg Z H v y
  | y, u, h => by
    unfold wtB at h
    split at h
    · exact ⟨.non, rfl, fun _ _ => by simp only [RP]⟩
    · rename_i b c
      exact ⟨.bl b, by rw [eq_of_beq h]; rfl, fun _ _ => by simp only [RP]⟩
    · rename_i i j t
      exact ⟨.int i, ⟨t, by rw [of_decide_eq_true h]⟩, fun _ _ => by simp only [RP]⟩
    · rename_i x y t
      exact ⟨.str x, ⟨t, by rw [of_decide_eq_true h]⟩, fun _ _ => by simp only [RP]⟩
    · rename_i n m
      exact ⟨.ty n, by rw [of_decide_eq_true h]; rfl, fun _ _ => by simp only [RP]⟩
    · rename_i xs a
      obtain ⟨oc, od, its, n, sl, e, hc, hs, hb⟩ := wt_seq h
      obtain ⟨vs, rv, rp⟩ := wtBs_ok xs its.toList hb
      refine ⟨.ref a, rfl, fun Z H => ?_⟩
      simp only [RP]
      exact ⟨a, vs, rfl, .inr ⟨_, its, n, e, hc, rfl, hs, rv⟩, rp Z H⟩
    · rename_i xs a
      obtain ⟨h0, h⟩ := He.ba h
      obtain ⟨oc, od, its, n, sl, e, hc, hs, hb⟩ := wt_seq h
      obtain ⟨vs, rv, rp⟩ := wtBs_ok xs its.toList hb
      refine ⟨.ref a, rfl, fun Z H => ?_⟩
      simp only [RP]
      refine ⟨a, vs, rfl, ⟨.inr ⟨_, its, n, e, hc, rfl, hs, rv⟩, fun z => ?_⟩, rp Z H⟩
      rw [z] at h0
      cases h0
    · cases h
theorem wtBs_ok : ∀ (ys : List P) (us : List Value), wtBs K ys us = true → ∃ vs, Vals vs us ∧ ∀ Z H, RPs K mg Z H vs ys
  | [], us, h => by
    cases us with
    | nil => exact ⟨[], .nil, fun _ _ => by simp only [RPs]⟩
    | cons u us => unfold wtBs at h; cases h
  | y :: ys, us, h => by
    cases us with
    | nil => unfold wtBs at h; cases h
    | cons u us =>
      unfold wtBs at h
      obtain ⟨h1, h2⟩ := He.ba h
      obtain ⟨v, r1, p1⟩ := wtB_ok y u h1
      obtain ⟨vs, r2, p2⟩ := wtBs_ok ys us h2
      exact ⟨v :: vs, .cons r1 r2, fun Z H => by simp only [RPs]; exact ⟨p1 Z H, p2 Z H⟩⟩
end
end
def oexB (K : PySem.W.Frag) (C : Addr) : Bool := (match K.lookup C with
  | some ⟨.type "type", _, .cls ⟨_, _, .ref C' :: bm, _, _, true, _, _, _, _, false⟩, ⟨[_, _, _, _, some (.builtin n), _]⟩⟩ => C' == C && (n == "ValueError.__new__" && PySem.HandSPX.refsVE bm)
  | _ => false) && (He.eqO (PySem.W.findIn K (.ref C) "__setattr__") (some (some (.builtin "object.__setattr__"))) && (decide (PySem.W.subIn K (.ref C) (.type "BaseException") = some true) && (decide (PySem.W.typeIn K (.ref C) = some (.type "type")) && PySem.W.keepIn K (.ref C))))
theorem oexB_ok {K : PySem.W.Frag} {C : Addr} (h : oexB K C = true) : OexC K C := by
  obtain ⟨h1, h⟩ := He.ba h
  obtain ⟨h2, h⟩ := He.ba h
  obtain ⟨h3, h⟩ := He.ba h
  obtain ⟨h4, h5⟩ := He.ba h
  refine ⟨?_, He.eqO_ok h2, of_decide_eq_true h3, of_decide_eq_true h4, h5⟩
  split at h1
  · rename_i nm bs C' bm ns qn sn sub ab col k0 k1 k2 k3 n k5 ho
    obtain ⟨g1, g2⟩ := He.ba h1
    obtain ⟨g2, g3⟩ := He.ba g2
    obtain rfl := beq_iff_eq.mp g1
    obtain rfl := beq_iff_eq.mp g2
    exact ⟨_, _, _, _, _, _, _, _, _, _, _, _, _, _, _, ho, g3⟩
  · cases h1
inductive XF where
  | oex (x : Str) | exc (x : Str) | xf (x : Str) | kit (x : Str) (t : Option Str) (b : Bool) | val (x : Str) (y : P) | ent (x k : Str) (y : P) | ini (x : Str) | cod (x : Str) (c : Addr) | all (b : PySem.W.Frag → Bool)
def ttV (K : PySem.W.Frag) : Option Str → Value
  | none => .type "ValueError"
  | some t => .ref (He.ga K t)
def excB (K : PySem.W.Frag) (D : Addr) : Bool := He.eqO (PySem.W.findIn K (.ref D) "__getattribute__") (some (some (.builtin "BaseException.__getattribute__"))) && (He.eqO (PySem.W.findIn K (.ref D) "__getattr__") (some none) && (decide (PySem.W.subIn K (.ref D) (.type "BaseException") = some true) && (PySem.W.hasDictIn K D && (He.eqO (PySem.W.findIn K (.ref D) "__class__") (some (some (.builtin "object.__class__"))) && (He.eqO (PySem.W.specialIn K (.builtin "object.__class__") "__get__") (some (some (.builtin "getset_descriptor.__get__"))) && (decide (PySem.W.takesIn K (.builtin "object.__class__") = some true) && decide (PySem.W.mroIn K D (.type "object") = some true)))))))
theorem excB_ok {K : PySem.W.Frag} {D : Addr} (h : excB K D = true) : ExcC K D := by
  obtain ⟨h1, h⟩ := He.ba h
  obtain ⟨h2, h⟩ := He.ba h
  obtain ⟨h3, h⟩ := He.ba h
  obtain ⟨h4, h⟩ := He.ba h
  obtain ⟨h5, h⟩ := He.ba h
  obtain ⟨h6, h⟩ := He.ba h
  obtain ⟨h7, h8⟩ := He.ba h
  exact ⟨He.eqO_ok h1, He.eqO_ok h2, of_decide_eq_true h3, h4, He.eqO_ok h5, He.eqO_ok h6, of_decide_eq_true h7, of_decide_eq_true h8⟩
def XF.ok (K : PySem.W.Frag) : XF → Bool
  | .oex x => oexB K (He.ga K x)
  | .exc x => excB K (He.ga K x)
  | .xf x => xfB K (He.ga K x)
  | .kit x t b => decide (PySem.W.kitOne K (.ref (He.ga K x)) (ttV K t) = some b)
  | .val x y => (match PySem.W.nsIn K mainGlobals x with
    | some (some u) => wtB K y u
    | _ => false)
  | .ent x k y => (match PySem.W.nsIn K (He.ga K x) k with
    | some (some u) => wtB K y u
    | _ => false)
  | .ini x => He.eqO (PySem.W.findIn K (.ref (He.ga K x)) "__init__") (some (some (.ref (He.ma K (He.ga K x) "__init__")))) && decide (PySem.W.typeIn K (.ref (He.ma K (He.ga K x) "__init__")) = some (.type "function"))
  | .cod x c => (match K.lookup (He.ga K x) with
    | some ⟨_, _, .func fd, _⟩ => decide (fd.code = .ref c)
    | _ => false)
  | .all b => b K
abbrev AlZ : Type := He.AlT × Bool × List (Option Obj)
def freshT : Option Obj := some { cls := .none, data := .fields #[] }
section
variable (fa : List He.Fa) (fn : List He.DefD) (ts : List He.Tab) (xs : List XF) (cs : List (Addr × Addr))
def exZ (K : PySem.W.Frag) : Bool := xs.all (fun x => x.ok K) && cs.all fun p => (K.lookup p.2).isNone && PySem.W.codeHdIn K p.1 p.2
def obsZ (n : List Addr) (g : Addr → Option Obj) : AlZ := (He.obsT fa fn ts (He.frG g n), exZ xs cs (He.frG g n), cs.map fun p => g p.2)
def valZ (w : World) : AlZ := (He.valT fn ts w, true, cs.map fun _ => freshT)
def SaysZ (w : World) (h : Heap) : Prop := ∃ K : PySem.W.Frag, K.In h ∧ He.SaysT fa fn ts w K ∧ exZ xs cs K = true ∧ ∀ p ∈ cs, h.get? p.2 = freshT
theorem map_const {α β : Type} {f : α → β} {b : β} : ∀ {l : List α}, l.map f = l.map (fun _ => b) → ∀ p ∈ l, f p = b
  | [], _, _, h => by cases h
  | a :: l, e, p, h => by
    injection e with e1 e2
    rcases List.mem_cons.mp h with q | q
    · rw [q]; exact e1
    · exact map_const e2 p q
def hookZ (n : List Addr) : PySem.W.Hook where
  α := AlZ
  obs := fun s => obsZ fa fn ts xs cs n s.heap.get?
  val := fun w => valZ fn ts cs w
  says := SaysZ fa fn ts xs cs
  of := fun _ _ e => by
    obtain ⟨e1, e2⟩ := Prod.mk.inj e
    obtain ⟨e2, e3⟩ := Prod.mk.inj e2
    exact ⟨_, He.frG_in, e1, e2, map_const e3⟩
  keeps := fun _ _ _ ⟨K, hK, c1, c2, c3⟩ k => ⟨K, PySem.W.Frag.In.keeps hK k, c1, c2, fun p hp => k _ _ (c3 p hp)⟩
theorem obsZ_eq {n : List Addr} {g : Addr → Option Obj} {s : Shared} (h : ∀ a, g a = s.heap.get? a) : obsZ fa fn ts xs cs n g = (hookZ fa fn ts xs cs n).obs s := by
  have e : g = s.heap.get? := funext h
  rw [e] <;> rfl
end
end Z
set_option Elab.async false
set_option linter.all false
set_option maxRecDepth 100000
set_option maxHeartbeats 1000000
namespace Z
open PySem PySem.Spec PyProof.Rows L2
abbrev dD (x : Str) (st : Stmt) : He.DefD := ⟨(x, none), x, x, defArgs st, defBody st, defScope st, [], []⟩
/-- the i-th statement of a class -/
def mth (st : Stmt) (i : Nat) : Stmt := match st with
  | .ClassDef _ _ _ b _ _ _ _ _ _ _ => b.getD i (.Pass ⟨0, 0, 0, 0⟩)
  | _ => .Pass ⟨0, 0, 0, 0⟩
abbrev dI (C q : Str) (st : Stmt) : He.DefD := ⟨(C, some "__init__"), "__init__", q, defArgs (mth st 0), defBody (mth st 0), defScope (mth st 0), [], []⟩
theorem lookup_mem' {α : Type} {x : Str} {y : α} : ∀ {l : List (Str × α)}, l.lookup x = some y → (x, y) ∈ l
  | [], h => by cases h
  | (a, b) :: l, h => by
    rw [List.lookup_cons] at h
    cases e : x == a with
    | true =>
      rw [e] at h
      obtain rfl := beq_iff_eq.mp e
      cases h
      exact List.mem_cons_self
    | false =>
      rw [e] at h
      exact List.mem_cons_of_mem _ (lookup_mem' h)
/-- the table of the classes of errors -/
def tabB (K : PySem.W.Frag) (anc : List (Str × List Str)) : Bool := anc.all fun q => (He.Fa.glo q.1).ok K && (q.2.isEmpty || excB K (He.ga K q.1) && (decide (PySem.W.kitOne K (.ref (He.ga K q.1)) (.type "ValueError") = some (q.2.contains "ValueError")) &&
  anc.all fun r => decide (PySem.W.kitOne K (.ref (He.ga K q.1)) (.ref (He.ga K r.1)) = some (q.2.contains r.1)) && decide (PySem.W.exmOne K (.ref (He.ga K q.1)) (.ref (He.ga K r.1)) = some (q.2.contains r.1))))
def fldB (K : PySem.W.Frag) (tab : List (Str × List Str)) : Bool := tab.all fun q => (He.Fa.glo q.1).ok K && (xfB K (He.ga K q.1) && q.2.all fun f => He.eqO (PySem.W.findIn K (.ref (He.ga K q.1)) f) (some none))
section
variable {fa : List He.Fa} {fn : List He.DefD} {ts : List He.Tab} {xs : List XF} {cs : List (Addr × Addr)} {w : World} {K : PySem.W.Frag} {h : Heap} {mg : Str → Option Value} {Pg : Program} {base : Heap}
theorem exZ_x (e : exZ xs cs K = true) {x : XF} (m : x ∈ xs) : x.ok K = true := List.all_eq_true.mp (He.ba e).1 x m
theorem exZ_i (e : exZ xs cs K = true) (i : Nat) {x : XF} (h : xs[i]? = some x := by rfl) : x.ok K = true := exZ_x e (List.mem_of_getElem? h)
theorem exZ_c (e : exZ xs cs K = true) {p : Addr × Addr} (m : p ∈ cs) : K.lookup p.2 = none ∧ PySem.W.codeHdIn K p.1 p.2 = true := by
  obtain ⟨h1, h2⟩ := He.ba (List.all_eq_true.mp (He.ba e).2 p m)
  exact ⟨Option.isNone_iff_eq_none.mp h1, h2⟩
theorem ref_inj {a b : Addr} {o : Option Value} (h : o = some (.ref a)) (h2 : o = some (.ref b)) : a = b := by
  rw [h] at h2
  injection h2 with e
  injection e
theorem isTab_of (X : K.In h) (G : h.Ns mainGlobals mg) {anc : List (Str × List Str)} (c : tabB K anc = true) (v : mg "ValueError" = none) : IsTab K mg (subOf anc) := by
  intro t C b e cc hc
  unfold subOf at e
  split at e
  · rename_i ht
    cases el : anc.lookup C with
    | none => rw [el] at e; cases e
    | some l =>
      rw [el] at e
      have e' : (if l.isEmpty then none else some (l.contains t)) = some b := e
      have le : l.isEmpty = false := by cases q : l.isEmpty with | false => rfl | true => rw [q] at e'; cases e'
      rw [le] at e'
      have eb : l.contains t = b := Option.some.inj e'
      have c1 := List.all_eq_true.mp c _ (lookup_mem' el)
      obtain ⟨g1, c1⟩ := He.ba c1
      rw [le, Bool.false_or] at c1
      obtain ⟨g2, c1⟩ := He.ba c1
      obtain ⟨g3, g4⟩ := He.ba c1
      obtain rfl := ref_inj hc (He.glo_ok X G g1)
      refine ⟨excB_ok g2, fun tt hm => ?_, fun q => ?_⟩
      · rcases ht with q | q
        · rw [q, v] at hm
          cases hm
        · cases et : anc.lookup t with
          | none => rw [et] at q; cases q
          | some l2 =>
            have c2 := List.all_eq_true.mp g4 _ (lookup_mem' et)
            have c3 := List.all_eq_true.mp c _ (lookup_mem' et)
            obtain rfl := ref_inj hm (He.glo_ok X G (He.ba c3).1)
            rw [of_decide_eq_true (He.ba c2).1, ← eb]
      · subst q
        rw [of_decide_eq_true g3, ← eb]
  · cases e
theorem subX_of (X : K.In h) (G : h.Ns mainGlobals mg) {anc : List (Str × List Str)} (c : tabB K anc = true) {t : Str} (ht : (anc.lookup t).isSome = true) (nt : t ≠ "ValueError") : SubX K mg t (subOf anc t) := by
  cases et : anc.lookup t with
  | none => rw [et] at ht; cases ht
  | some l2 =>
    have c3 := List.all_eq_true.mp c _ (lookup_mem' et)
    refine ⟨_, He.glo_ok X G (He.ba c3).1, fun C b e cc hc => ?_⟩
    unfold subOf at e
    split at e
    · cases el : anc.lookup C with
      | none => rw [el] at e; cases e
      | some l =>
        rw [el] at e
        have e' : (if l.isEmpty then none else some (l.contains t)) = some b := e
        have le : l.isEmpty = false := by cases q : l.isEmpty with | false => rfl | true => rw [q] at e'; cases e'
        rw [le] at e'
        have eb : l.contains t = b := Option.some.inj e'
        have c1 := List.all_eq_true.mp c _ (lookup_mem' el)
        obtain ⟨g1, c1⟩ := He.ba c1
        rw [le, Bool.false_or] at c1
        obtain ⟨g2, c1⟩ := He.ba c1
        obtain ⟨g3, g4⟩ := He.ba c1
        obtain rfl := ref_inj hc (He.glo_ok X G g1)
        have c2 := List.all_eq_true.mp g4 _ (lookup_mem' et)
        rw [of_decide_eq_true (He.ba c2).2, ← eb]
    · cases e
theorem xfTab_of (X : K.In h) (G : h.Ns mainGlobals mg) {tab : List (Str × List Str)} (c : fldB K tab = true) : XfTab K mg (fldOf tab) := by
  intro C f e cc hc
  unfold fldOf at e
  split at e
  · rename_i l el
    have c1 := List.all_eq_true.mp c _ (lookup_mem' el)
    obtain ⟨g1, c1⟩ := He.ba c1
    obtain ⟨g2, g3⟩ := He.ba c1
    obtain rfl := ref_inj hc (He.glo_ok X G g1)
    refine ⟨xfB_ok g2, He.eqO_ok (List.all_eq_true.mp g3 f ?_)⟩
    exact List.contains_iff_mem.mp e
  · cases e
theorem gt_val (X : K.In h) (G : h.Ns mainGlobals mg) {x : Str} {y : P} (c : (XF.val x y).ok K = true) : GT K mg x y := by
  have c2 : (match PySem.W.nsIn K mainGlobals x with
    | some (some u) => wtB K y u
    | _ => false) = true := c
  split at c2
  · rename_i u e
    obtain ⟨v, r, q⟩ := wtB_ok (mg := mg) y u c2
    exact ⟨v, u, PySem.W.mg_of X G e, r, q⟩
  · cases c2
theorem gt_cls (X : K.In h) (G : h.Ns mainGlobals mg) {x : Str} (c : (He.Fa.glo x).ok K = true) : GT K mg x (.cls x) :=
  ⟨.ref (He.ga K x), .ref (He.ga K x), He.glo_ok X G c, rfl, fun Z H => by simp only [RP]; exact ⟨_, He.glo_ok X G c, rfl⟩⟩
theorem wd_of (X : K.In h) (G : h.Ns mainGlobals mg) {x : Str} {tab : List (Str × P)} (g : (He.Fa.glo x).ok K = true) {es : Array DictEntry} {n : Nat} (d : KDict K w (He.ga K x) es n) (c : (tab.all fun q => (XF.ent x q.1 q.2).ok K) = true) : WD K mg w x tab := by
  refine ⟨_, He.glo_ok X G g, fun z y e => ?_⟩
  have c2 : (match PySem.W.nsIn K (He.ga K x) z with
    | some (some u) => wtB K y u
    | _ => false) = true := List.all_eq_true.mp c _ (lookup_mem' e)
  split at c2
  · rename_i u e2
    obtain ⟨v, r, q⟩ := wtB_ok (mg := mg) y u c2
    exact ⟨v, ⟨es, n, u, d.at_, d.lit, e2, r⟩, q⟩
  · cases c2
theorem dt_of (X : K.In h) (G : h.Ns mainGlobals mg) (c : He.SaysD fa fn K) (i : Nat) {x : Str} {st : Stmt} (hd : fn[i]? = some (dD x st) := by rfl) (hf : fa[i]? = some (.glo x) := by rfl) : Dt K mg x st := by
  obtain ⟨fd, F⟩ := c.def_ i hd
  exact ⟨_, fd, F, He.glo_ok X G (c.fact i hf)⟩
theorem dtL_of (X : K.In h) (G : h.Ns mainGlobals mg) (c : He.SaysD fa fn K) (i : Nat) {x : Str} {st : Stmt} {c0 P0 : Addr} (cc : (XF.cod x c0).ok K = true) (TB : LamX.TabB base mg c0 P0) (hd : fn[i]? = some (dD x st) := by rfl) (hf : fa[i]? = some (.glo x) := by rfl) : DtL K mg base x st P0 := by
  obtain ⟨fd, F⟩ := c.def_ i hd
  refine ⟨_, fd, c0, F, He.glo_ok X G (c.fact i hf), ?_, TB⟩
  obtain ⟨oc, od, dV, kV, doc, pm, an, cdv, ct, osl, e1, lk, _⟩ := F.ex
  have c2 : (match K.lookup (He.ga K x) with
    | some ⟨_, _, .func fd, _⟩ => decide (fd.code = .ref c0)
    | _ => false) = true := cc
  have lk2 : K.lookup (He.ga K x) = _ := lk
  rw [lk2] at c2
  exact of_decide_eq_true c2
theorem codeL_of {x : Str} {st : Stmt} {c0 : Addr} {fd : FuncData} (cc : (XF.cod x c0).ok K = true) (F : FunD K x x (defArgs st) (defBody st) (defScope st) [] [] (He.ga K x) fd) : fd.code = .ref c0 := by
  obtain ⟨oc, od, dV, kV, doc, pm, an, cdv, ct, osl, e1, lk, _⟩ := F.ex
  have c2 : (match K.lookup (He.ga K x) with
    | some ⟨_, _, .func fd, _⟩ => decide (fd.code = .ref c0)
    | _ => false) = true := cc
  have lk2 : K.lookup (He.ga K x) = _ := lk
  rw [lk2] at c2
  exact of_decide_eq_true c2
theorem xo_of (X : K.In h) (G : h.Ns mainGlobals mg) {C : Str} {fs ps : List Str} {fd : FuncData} (g : (He.Fa.glo C).ok K = true) (o : (XF.oex C).ok K = true) (i : (XF.ini C).ok K = true)
    (F : FnOk Pg w K mg base (L2N.CX Pg w) 1 (He.ma K (He.ga K C) "__init__") fd ps (spInit (He.ga K C) fs)) (B : Binds K fd ps []) : XO Pg w K mg base C fs := by
  obtain ⟨i1, i2⟩ := He.ba (show (He.eqO _ _ && decide (_ = _)) = true from i)
  exact ⟨_, _, fd, ps, He.glo_ok X G g, oexB_ok o, He.eqO_ok i1, of_decide_eq_true i2, F, B⟩
theorem xo1 (X : K.In h) (G : h.Ns mainGlobals mg) (c : He.SaysD fa fn K) (e : exZ xs cs K = true) {C f x1 qual : Str} {pa : Arguments} {sc : Scope} {q1 q2 q3 q4 : Pos} (i j k a b : Nat)
    (S : FnScope (["self", x1] : List Str) (["self", x1] : List Str) sc) (ho : xs[a]? = some (.oex C)) (hi : xs[b]? = some (.ini C))
    (hv0 : Vis sc "self") (hv1 : Vis sc x1)
    (hbind : ∀ (kV doc pm : Value) (an : Option Addr) (cdv ct : Value) (us : List Value), us.length = (["self", x1] : List Str).length → bindArgs (PySem.W.fnOf "__init__" qual pa [.Assign [.Attribute (.Name "self" q1) f q2] (.Name x1 q3) q4] sc .none kV doc pm an cdv ct) ⟨us, []⟩ = pure ((["self", x1] : List Str).zip us))
    (hd : fn[i]? = some ⟨(C, some "__init__"), "__init__", qual, pa, [.Assign [.Attribute (.Name "self" q1) f q2] (.Name x1 q3) q4], sc, [], []⟩) (hg : fa[j]? = some (.glo C)) (hn : fa[k]? = some (.noat C f))
    (hd1 : (x1 == ("__debug__" : Str)) = false := by decide) (hcd : (x1 == ("__classdict__" : Str)) = false := by decide) : XO Pg w K mg base C [f] := by
  obtain ⟨fd, F⟩ := c.def_ i hd
  exact xo_of X G (c.fact j hg) (exZ_i e a ho) (exZ_i e b hi) (init1 (C := He.ga K C) F S (oexB_ok (exZ_i e a ho)) (He.noat_ok (c.fact k hn)) hv0 hv1 hd1 hcd) (F.bindsN hbind)
end
end Z
namespace Z
open PySem PySem.Spec PyProof.Rows L2
theorem okfA {P : Program} {w : World} {K : PySem.W.Frag} {mg : Str → Option Value} {base : Heap} {x : Str} {st : Stmt} {f : Addr} {fd : FuncData} {N ps : List Str} {k j n : Nat} {m : Bool} {s : SF} (F : FunD K x x (defArgs st) (defBody st) (defScope st) [] [] f fd) (S : FnScope N ps (defScope st)) (hp : ps.length = n) (hN : N.length = j) (hm : m = true → 0 < n)
    (hb : ∀ (f : Addr) (cdv : Value) (A : Around) (outer : List PySem.Env) (sh : Shared) (H : Hp) (E : XK), Cz (cxOf (L2N.CX P w) P w K mg base N x (defScope st) f cdv A outer sh H E) (fun cls d _ H => E cls d H) k → JSs (cxOf (L2N.CX P w) P w K mg base N x (defScope st) f cdv A outer sh H E) (fun cls d _ H => E cls d H) (defBody st) s) :
    FnOk P w K mg base (L2N.CX P w) (k + 1) f fd ps (Sat K mg m n (mkFn m n j s)) := fn_z F S hp hN hm (hb f)
/-- the plain law's promise -/
def Plain (f : Fn) : Prop := ∀ ns : List Int, ns.length ≤ 63 → (∀ z ∈ ns, Builtin.Int.intBits z ≤ 1048576) → ∃ fin, f [.p (.scr ns)] = .ok (.p (.bl true)) fin
theorem sat_law {K : PySem.W.Frag} {mg : Str → Option Value} {f : Fn} {H : Hp} {a : Addr} {ns : List Int} {fin : D} (e : f [.p (.scr ns)] = .ok (.p (.bl true)) fin) (hS : SqL K H a (ns.map V.int)) (ht : TbOk H) :
    Sat K mg false 1 f [.ref a] H (fun v _ => v = .bl true) fun _ _ _ => False := by
  refine ⟨rfl, fun b => b = a ∧ H b = some (.lst (ns.map V.int)), [], [.p (.scr ns)], ?_, ?_, ?_⟩
  · unfold RDs
    refine ⟨[], [], ?_, by unfold RDs; rfl, rfl⟩
    simp only [RD, RP]
    refine ⟨trivial, a, rfl, ?_⟩
    rcases hS with (q | q) | q
    · exact .inl ⟨⟨rfl, q⟩, q⟩
    · exact .inr (.inl q)
    · exact .inr (.inr (.inr q))
  · exact { nd := List.nodup_nil, nz := fun _ z => (List.not_mem_nil z).elim, zs := fun b z => by rw [z.2]; simp, mu := fun _ z => (List.not_mem_nil z).elim, tb := ht }
  · rw [e]
    intro v Z' H' O' rd _ _
    simp only [RDs] at rd
    obtain ⟨O1, O2, r1, _⟩ := rd
    simp only [RD, RP] at r1
    exact r1.2
theorem walk_Z {fa : List He.Fa} {fn : List He.DefD} {ts : List He.Tab} {xs : List XF} {cs : List (Addr × Addr)} {l : PySem.W.OpenLaw} {k : Nat} {q : Program} {loose : List Str} {XP : (Str → Option Value) → Heap → Prop} {d : DefRec} {x : Str} {f : Fn}
    (hn : l.most = some 63) (hdf : d.params.defaults = []) (hr : Room k callerA) (hl : ∀ p ∈ LamT, ∃ c, (c, p.1) ∈ cs) (pl : Plain f)
    (F : ∀ (w : World) (mg : Str → Option Value) (fL : Addr) (h : Heap) (K : PySem.W.Frag), K.In h → h.Ns mainGlobals mg → He.SaysT fa fn ts w K → exZ xs cs K = true → mg d.name = some (.ref fL) →
      ∃ fd : FuncData, (∀ (s : Shared) (u : Value), BindsTo s fd ⟨[u], []⟩ [(x, u)]) ∧
        ∀ base : Heap, (∀ p ∈ cs, LamX.TabB base mg p.1 p.2) → FnOk l.prog w K mg base (L2N.CX l.prog w) k fL fd [x] (Sat K mg false 1 f)) :
    PySem.W.WalkO q loose XP (SaysZ fa fn ts xs cs) l.row.toRowW d [] (fun f vs => PySem.call f vs) := by
  refine Att.attach_callB hn hdf fun w s₀ s₁ mg mb fL o pm cd doc a vs ns G Y ho hd hcd hmg hobj hints hlen hbits hg => ?_
  obtain ⟨K, KX, c, e, ht⟩ := Y
  obtain ⟨fd, hb, hF⟩ := F w mg fL _ K KX G.T.g c e hmg
  refine LamX.law_callTs KX G.T.g G.T.b G.T.builtins G.T.nolimit hg ht (fun p hp => (exZ_c e hp).1) (fun p hp => PySem.W.codeHd_of_K KX (exZ_c e hp).2) G.T.bmain hobj hints (Nat.le_trans hlen (by decide)) hr (fun base _ _ TB => hF base TB) hb (fun H hH hS => ?_) fun H e s' z => ?_
  · obtain ⟨fin, ef⟩ := pl ns hlen hbits
    refine sat_law ef hS fun p hp => ?_
    obtain ⟨c0, hc⟩ := hl p hp
    exact LamX.TabS.nil (hH (c0, p.1) hc)
  · obtain ⟨_, _, _, _, _, _, _, _, _, _, _, _, z⟩ := z
    exact z
end Z
namespace Z
open PySem PySem.Spec PyProof.Rows L2
noncomputable def wsg (b : Bool) (w : World) : World := { w with params := { w.params with followText := fun r => bif decide (r = "special-get-raises") then b else w.params.followText r } }
theorem wsg_eq (w : World) : wsg (w.params.followText "special-get-raises") w = w := by
  have e : (fun r => bif decide (r = "special-get-raises") then w.params.followText "special-get-raises" else w.params.followText r) = w.params.followText := by
    funext r
    by_cases h : r = "special-get-raises"
    · rw [decide_eq_true h, h]; rfl
    · rw [decide_eq_false h]; rfl
  unfold wsg
  rw [e]
theorem run_sg {r : PySem.W.OpenRow} {q : Program} {H : PySem.W.Hook} {ob : PySem.W.SharedT → H.α} {M : Nat} {loose : List PySem.Str} {w : World} (h : ∀ b, HandSHeadRun.RunEq r q H ob M loose (wsg b w)) : HandSHeadRun.RunEq r q H ob M loose w := by
  have z := h (w.params.followText "special-get-raises")
  rw [wsg_eq w] at z
  exact z
end Z
set_option Elab.async false
set_option linter.all false
set_option maxRecDepth 100000
set_option maxHeartbeats 1000000
namespace Z
open PySem L2
section
variable {α β : Type} {a b : SF} {f g : EF} {env env' : Env} {t u : TF} {as bs : List Arg} {h : Fn} {i m k n : Nat} {d d' r fin : D} {x y : P} {v w : VF}
@[simp] theorem q_bindok {x : α} {F : α → Env → ER β} : (ER.ok x env).bind F = F x env := rfl
@[simp] theorem q_bindexc {e : Ex} {F : α → Env → ER β} : (ER.exc e env).bind F = .exc e env := rfl
@[simp] theorem q_bindE {k : D → Env → SR} : bindE (.ok d env) k = k d env := rfl
@[simp] theorem q_bindEx {e : Ex} {k : D → Env → SR} : bindE (.exc e env) k = .exc e env := rfl
@[simp] theorem q_seq : sSeq a b env = match a env with | .nx env => b env | r => r := rfl
@[simp] theorem q_nx : sNx env = .nx env := rfl
@[simp] theorem q_br : sBr env = .br env := rfl
@[simp] theorem q_ct : sCt env = .ct env := rfl
@[simp] theorem q_ret : sRet f env = bindE (f env) fun d env => .rt d env := rfl
@[simp] theorem q_retN : sRetN env = .rt (.p .non) env := rfl
@[simp] theorem q_expr : sExpr f env = bindE (f env) fun _ env => .nx env := rfl
@[simp] theorem q_asg : sAsg i f env = bindE (f env) fun d env => match setV env i d with | some env => .nx env | none => .stuck := rfl
@[simp] theorem q_asgT {q : List Pat} : sAsgT q f env = bindE (f env) fun d env => match d with | .p x => (match assignP env (.t q) x with | some env => .nx env | none => .stuck) | _ => .stuck := rfl
@[simp] theorem q_if : sIf t a b env = match t env with | .ok c env => (if c then a env else b env) | .exc e env => .exc e env | .stuck => .stuck := rfl
@[simp] theorem q_setV : setV env i d = match env[i]? with | some .no => some (env.set i (.var d)) | some (.var _) => some (env.set i (.var d)) | _ => none := rfl
@[simp] theorem q_asN : assignP env (.n i) x = setV env i (.p x) := by unfold assignP; rfl
@[simp] theorem q_asT {q : List Pat} {xs : List P} : assignP env (.t q) (.tup xs) = assignPs env q xs := by unfold assignP; rfl
@[simp] theorem q_asW {q : List Pat} {xs : List P} : assignP env (.t q) (.wt xs) = assignPs env q xs := by unfold assignP; rfl
@[simp] theorem q_asP0 : assignPs env [] [] = some env := by unfold assignPs; rfl
@[simp] theorem q_asPc {p : Pat} {q : List Pat} {xs : List P} : assignPs env (p :: q) (x :: xs) = match assignP env p x with | some env => assignPs env q xs | none => none := by rw [assignPs] <;> rfl
@[simp] theorem q_E : tE f env = (f env).bind fun d env => match truth d with | some b => .ok b env | none => .stuck := rfl
@[simp] theorem q_tNot : tNot t env = (t env).bind fun c env => .ok (!c) env := rfl
@[simp] theorem q_tAnd : tAnd t u env = (t env).bind fun c env => if c then u env else .ok false env := rfl
@[simp] theorem q_tOr : tOr t u env = (t env).bind fun c env => if c then .ok true env else u env := rfl
@[simp] theorem q_eAnd : eAnd f g env = (f env).bind fun d env => match boolOf d with | some c => (if c then g env else .ok (.p (.bl false)) env) | none => .stuck := rfl
@[simp] theorem q_eOr : eOr f g env = (f env).bind fun d env => match boolOf d with | some c => (if c then .ok (.p (.bl true)) env else g env) | none => .stuck := rfl
@[simp] theorem q_truthb {c : Bool} : truth (.p (.bl c)) = some c := rfl
@[simp] theorem q_boolOf {c : Bool} : boolOf (.p (.bl c)) = some c := rfl
@[simp] theorem q_W {is : List Nat} : eW is v env = match v env with | some x => .ok (.p x) (settle (vArgs is) env (.p x)) | none => .stuck := rfl
@[simp] theorem q_gC : gC x env = some x := rfl
@[simp] theorem q_gV : gV i env = match env[i]? with | some s => (slotD s).map vw | none => none := rfl
@[simp] theorem q_sdv : slotD (.var d) = some d := rfl
@[simp] theorem q_sdf : slotD (.fix d) = some d := rfl
@[simp] theorem q_sdl : slotD (.lock x) = some (.p x) := rfl
@[simp] theorem q_g1 {o : P → Option P} : g1 o v env = (v env).bind o := rfl
@[simp] theorem q_g2 {o : P → P → Option P} : g2 o v w env = (v env).bind fun x => (w env).bind fun y => o x y := rfl
@[simp] theorem q_gL0 : gL [] env = some [] := rfl
@[simp] theorem q_gLc {vs : List VF} : gL (v :: vs) env = (v env).bind fun x => (gL vs env).bind fun xs => some (x :: xs) := rfl
@[simp] theorem q_gN {o : List P → Option P} {vs : List VF} : gN o vs env = (gL vs env).bind o := rfl
@[simp] theorem q_gTu {vs : List VF} : gTu vs env = (gL vs env).bind fun xs => if xs.length ≤ 16777216 then some (.tup xs) else none := rfl
@[simp] theorem q_gLs {vs : List VF} : gLs vs env = (gL vs env).bind fun xs => if xs.length ≤ 16777216 then some (.lst xs) else none := rfl
@[simp] theorem q_settle : settle as env r = if borrows env as then (if cleanD r then env else freezes env as) else env := rfl
@[simp] theorem q_vArgs {is : List Nat} : vArgs (i :: is) = .v i :: vArgs is := rfl
@[simp] theorem q_vArgs0 : vArgs [] = [] := rfl
@[simp] theorem q_bor0 : borrows env [] = false := rfl
@[simp] theorem q_borv : borrows env (.v i :: as) = (ownAt env i || borrows env as) := rfl
@[simp] theorem q_bore : borrows env (.e f :: as) = borrows env as := rfl
@[simp] theorem q_own : ownAt env i = match env[i]? with | some (.var (.p _)) => false | some (.fix (.p _)) => false | some .no => false | none => false | _ => true := rfl
@[simp] theorem q_has : has env i = match env[i]? with | some .no => false | none => false | _ => true := rfl
@[simp] theorem q_fr0 : freezes env [] = env := rfl
@[simp] theorem q_frv : freezes env (.v i :: as) = freezes (freezeAt env i) as := rfl
@[simp] theorem q_fre : freezes env (.e f :: as) = freezes env as := rfl
@[simp] theorem q_frAt : freezeAt env i = match env[i]? with | some (.var d) => env.set i (.var (.p (vw d))) | some (.fix d) => env.set i (.fix (.p (vw d))) | some (.lock x) => env.set i (.var (.p x)) | _ => env := rfl
@[simp] theorem q_a10 : args1 [] env = .ok [] env := rfl
@[simp] theorem q_a1v : args1 (.v i :: as) env = if has env i then (args1 as env).bind fun os env => .ok (none :: os) env else .stuck := rfl
@[simp] theorem q_a1e : args1 (.e f :: as) env = (f env).bind fun d env => (args1 as env).bind fun os env => .ok (some d :: os) env := rfl
@[simp] theorem q_a20 : args2 env [] [] = some [] := rfl
@[simp] theorem q_a2v {os : List (Option D)} : args2 env (.v i :: as) (none :: os) = match env[i]? with | some s => (match slotD s, args2 env as os with | some d, some ds => some (.p (vw d) :: ds) | _, _ => none) | none => none := rfl
@[simp] theorem q_a2e {os : List (Option D)} : args2 env (.e f :: as) (some d :: os) = match args2 env as os with | some ds => some (d :: ds) | none => none := rfl
@[simp] theorem q_op : eOp as h env = (args1 as env).bind fun os env => match args2 env as os with | some ds => (match h ds with | .ok r _ => .ok r (settle as env r) | .exc e _ => .exc e (freezes env as) | .stuck => .stuck) | none => .stuck := rfl
@[simp] theorem q_noArg0 : noArg m [] = true := rfl
@[simp] theorem q_noArgv : noArg m (.v i :: as) = (decide (i ≠ m) && noArg m as) := rfl
@[simp] theorem q_noArge : noArg m (.e f :: as) = noArg m as := rfl
@[simp] theorem q_opM : eOpM m as h env = if noArg m as && has env m then (args1 as env).bind fun os env => match args2 env as os with
  | some ds => (match env[m]? with
    | some (.var d) => (match h (d :: ds) with
      | .ok r fin => .ok r (settle as (env.set m (.var fin)) (.l [r, fin]))
      | .exc e fin => .exc e (freezes (env.set m (.var fin)) as)
      | .stuck => .stuck)
    | some (.fix d) => (match h (d :: ds) with
      | .ok r fin => .ok r (settle as (env.set m (.fix fin)) (.l [r, fin]))
      | .exc e fin => .exc e (freezes (env.set m (.fix fin)) as)
      | .stuck => .stuck)
    | _ => .stuck)
  | none => .stuck else .stuck := rfl
@[simp] theorem q_eC : eC x env = .ok (.p x) env := rfl
@[simp] theorem q_eV : eV i env = match env[i]? with
  | some (.var (.p x)) => .ok (.p x) env
  | some (.fix (.p x)) => .ok (.p x) env
  | some (.var d) => .ok (.p (vw d)) (env.set i (.var (.p (vw d))))
  | some (.lock x) => .ok (.p x) (env.set i (.var (.p x)))
  | _ => .stuck := rfl
@[simp] theorem q_eM : eM i env = match env[i]? with | some (.var d) => .ok d (env.set i .no) | _ => .stuck := rfl
@[simp] theorem q_vwp : vw (.p x) = x := by unfold vw; rfl
@[simp] theorem q_vwl {xs : List D} : vw (.l xs) = .lst (vws xs) := by unfold vw; rfl
@[simp] theorem q_vwd {ks : List P} {xs : List D} : vw (.d ks xs) = .dct ks (vws xs) := by unfold vw; rfl
@[simp] theorem q_vws0 : vws [] = [] := by unfold vws; rfl
@[simp] theorem q_vwsc {xs : List D} : vws (d :: xs) = vw d :: vws xs := by rw [vws]
@[simp] theorem q_lift2 {o : P → P → Option P} : lift2 o [d, d'] = match o (vw d) (vw d') with | some r => .ok (.p r) (.p .non) | none => .stuck := rfl
@[simp] theorem q_lift1 {o : P → Option P} : lift1 o [d] = match o (vw d) with | some r => .ok (.p r) (.p .non) | none => .stuck := rfl
@[simp] theorem q_liftN {o : List P → Option P} {ds : List D} : liftN o ds = match o (vws ds) with | some r => .ok (.p r) (.p .non) | none => .stuck := rfl
@[simp] theorem q_mk {body : SF} {ds : List D} : mkFn false k n body ds = if ds.length = k then leave false (body (enter false n ds)) else .stuck := rfl
@[simp] theorem q_mkM {body : SF} {ds : List D} : mkFn true k n body ds = if ds.length = k then leave true (body (enter true n ds)) else .stuck := rfl
@[simp] theorem q_enterF {ds : List D} : enter false n (d :: ds) = .var d :: (ds.map Slot.var ++ List.replicate (n - (ds.length + 1)) .no) := rfl
@[simp] theorem q_enterM {ds : List D} : enter true n (d :: ds) = .fix d :: (ds.map Slot.var ++ List.replicate (n - (ds.length + 1)) .no) := rfl
@[simp] theorem q_enter0 {c : Bool} : enter c n [] = List.replicate n .no := rfl
@[simp] theorem q_lvF : leave false (.rt r env) = .ok r (.p .non) := rfl
@[simp] theorem q_lvFn : leave false (.nx env) = .ok (.p .non) (.p .non) := rfl
@[simp] theorem q_lvFe {e : Ex} : leave false (.exc e env) = .exc e (.p .non) := rfl
@[simp] theorem q_lvM : leave true (.rt r (.fix d :: env)) = .ok r d := rfl
@[simp] theorem q_lvMn : leave true (.nx (.fix d :: env)) = .ok (.p .non) d := rfl
@[simp] theorem q_lvMe {e : Ex} : leave true (.exc e (.fix d :: env)) = .exc e d := rfl
@[simp] theorem q_lvs {c : Bool} : leave c .stuck = .stuck := by cases c <;> rfl
@[simp] theorem q_cp : cleanD (.p x) = clean x := by unfold cleanD; rfl
@[simp] theorem q_cl {xs : List D} : cleanD (.l xs) = cleanDs xs := by unfold cleanD; rfl
@[simp] theorem q_cd {ks : List P} {xs : List D} : cleanD (.d ks xs) = (cleans ks && cleanDs xs) := by unfold cleanD; rfl
@[simp] theorem q_cs0 : cleanDs [] = true := by unfold cleanDs; rfl
@[simp] theorem q_csc {xs : List D} : cleanDs (d :: xs) = (cleanD d && cleanDs xs) := by rw [cleanDs]
@[simp] theorem q_ci {z : Int} : clean (.int z) = true := by unfold clean; rfl
@[simp] theorem q_cb {z : Bool} : clean (.bl z) = true := by unfold clean; rfl
@[simp] theorem q_cn : clean .non = true := by unfold clean; rfl
@[simp] theorem q_cstr {z : Str} : clean (.str z) = true := by unfold clean; rfl
@[simp] theorem q_ct' {xs : List P} : clean (.tup xs) = cleans xs := by unfold clean; rfl
@[simp] theorem q_cwt {xs : List P} : clean (.wt xs) = cleans xs := by unfold clean; rfl
@[simp] theorem q_clst {xs : List P} : clean (.lst xs) = false := by unfold clean; rfl
@[simp] theorem q_c0 : cleans [] = true := by unfold cleans; rfl
@[simp] theorem q_cc {xs : List P} : cleans (x :: xs) = (clean x && cleans xs) := by rw [cleans]
@[simp] theorem q_forS {q : Pat} {s : SrcF} : sForS q s a env = match s env with | .ok xs env => forL q a xs env | .exc e env => .exc e env | .stuck => .stuck := rfl
@[simp] theorem q_seqS : oSeq f env = (f env).bind fun d env => match itemsS d with | some xs => .ok xs env | none => .stuck := rfl
@[simp] theorem q_rg : oRg as env = (args1 as env).bind fun os env => match args2 env as os with | some ds => (match rgItems ds with | some xs => .ok xs env | none => .stuck) | none => .stuck := rfl
@[simp] theorem q_for0 {q : Pat} : forL q a [] env = .nx env := by unfold forL; rfl
theorem q_forc {q : Pat} {xs : List P} : forL q a (x :: xs) env = match assignP env q x with
    | some env => (match a env with
      | .nx env => forL q a xs env
      | .ct env => forL q a xs env
      | .br env => .nx env
      | r => r)
    | none => .stuck := by rw [forL] <;> rfl
@[simp] theorem q_raise {C : Str} {fs : List Str} : sRaise C fs as env = match args1 as env with
  | .ok os env => (match args2 env as os with
    | some ds => .exc ⟨C, fs, vws ds⟩ (freezes env as)
    | none => .stuck)
  | .exc e env => .exc e env
  | .stuck => .stuck := rfl
@[simp] theorem q_pTup2 : pTup [x, y] = some (.tup [x, y]) := rfl
@[simp] theorem q_pTup3 {z : P} : pTup [x, y, z] = some (.tup [x, y, z]) := rfl
@[simp] theorem q_itt {xs : List P} : itemsS (.p (.tup xs)) = some xs := rfl
@[simp] theorem q_itl {xs : List P} : itemsS (.p (.lst xs)) = some xs := rfl
@[simp] theorem q_itL {xs : List D} : itemsS (.l xs) = some (vws xs) := rfl
@[simp] theorem q_itw {xs : List P} : itemsS (.p (.wt xs)) = some xs := rfl
@[simp] theorem q_its {ns : List Int} : itemsS (.p (.scr ns)) = some (ns.map P.int) := rfl
end
end Z
namespace Z
open PySem L2
section
variable {α β : Type} {a d c : Nat} {C t : Str} {fs : List Str} {vs : List P} {tab : Str → Str → Option Bool} {fld : Str → Str → Bool} {f : Str} {k : D → Env → SR} {env : Env}
@[simp] theorem q_bindst {F : α → Env → ER β} : (ER.stuck : ER α).bind F = .stuck := rfl
@[simp] theorem q_bindEs : bindE .stuck k = .stuck := rfl
@[simp] theorem q_isE : bIsE a d c tab [.exc a d c C fs vs, .cls t] = (tab t C).map .bl := by simp [bIsE]
@[simp] theorem q_isE2 : bIsE a d c tab [.exc a d c C fs vs, .ty "ValueError"] = (tab "ValueError" C).map .bl := by simp [bIsE]
@[simp] theorem q_xf : pXf a d c fld f (.exc a d c C fs vs) = if fld C f then lkP f (fs.zip vs).reverse else none := by simp [pXf]
@[simp] theorem q_fin0f : fin0 false env = some (.p .non) := rfl
@[simp] theorem q_fin0t {d : D} : fin0 true (.fix d :: env) = some d := rfl
end
end Z
namespace Z
open PySem L2
section
variable {i j : Int} {s t : Str} {b c : Bool} {x : P}
@[simp] theorem q_eqI : pEq (.int i) (.int j) = some (.bl (decide (i = j))) := by
  unfold pEq okP eqP; rfl
@[simp] theorem q_neI : pNe (.int i) (.int j) = some (.bl (!decide (i = j))) := by
  unfold pNe okP eqP; rfl
@[simp] theorem q_isTt : pIsNot (.bl b) (.bl true) = some (.bl (!b)) := by cases b <;> rfl
@[simp] theorem q_isb : pIs (.bl b) (.bl c) = some (.bl (b == c)) := by cases b <;> cases c <;> rfl
end
end Z
set_option Elab.async false
set_option linter.all false
set_option maxRecDepth 100000
set_option maxHeartbeats 1000000
namespace Z
open PySem L2
section
variable {i j k : Int} {x y z : P} {xs ys : List P} {b : Bool}
@[simp] theorem q_addI : pAdd (.int i) (.int j) = some (.int (i + j)) := rfl
@[simp] theorem q_subI : pSub (.int i) (.int j) = some (.int (i - j)) := rfl
@[simp] theorem q_negI : pNeg (.int i) = some (.int (-i)) := rfl
@[simp] theorem q_modI : pMod (.int i) (.int j) = if 0 < j then some (.int (i % j)) else none := rfl
@[simp] theorem q_fdivI : pFdiv (.int i) (.int j) = if 0 < j ∧ j.natAbs.log2 < 9000 then some (.int (i / j)) else none := rfl
@[simp] theorem q_bInt : bInt [.int i] = some (.int i) := rfl
@[simp] theorem q_bIntb : bInt [.bl b] = some (.int (if b then 1 else 0)) := rfl
@[simp] theorem q_bAbs : bAbs [.int i] = some (.int (if i < 0 then -i else i)) := rfl
@[simp] theorem q_bMin : bMin [.int i, .int j] = some (.int (if j < i then j else i)) := rfl
@[simp] theorem q_bMax : bMax [.int i, .int j] = some (.int (if j > i then j else i)) := rfl
@[simp] theorem q_lenT : bLen [.tup xs] = some (.int (xs.length : Nat)) := rfl
@[simp] theorem q_lenL : bLen [.lst xs] = some (.int (xs.length : Nat)) := rfl
@[simp] theorem q_lenW : bLen [.wt xs] = some (.int (xs.length : Nat)) := rfl
@[simp] theorem q_bTt : bTuple [.tup xs] = some (.tup xs) := rfl
@[simp] theorem q_bTl : bTuple [.lst xs] = some (.tup xs) := rfl
theorem cmpB_lt : (cmpI i j == .lt) = decide (i < j) := by
  unfold cmpI; by_cases h : i < j <;> by_cases h2 : j < i <;> simp [h, h2] <;> omega
theorem cmpB_gt : (cmpI i j == .gt) = decide (j < i) := by
  unfold cmpI; by_cases h : i < j <;> by_cases h2 : j < i <;> simp [h, h2] <;> omega
@[simp] theorem q_ltI : pLt (.int i) (.int j) = some (.bl (decide (i < j))) := by
  unfold pLt cmpP; rw [cmpB_lt]; rfl
@[simp] theorem q_gtI : pGt (.int i) (.int j) = some (.bl (decide (j < i))) := by
  unfold pGt cmpP; rw [cmpB_gt]; rfl
@[simp] theorem q_leI : pLe (.int i) (.int j) = some (.bl (decide (i ≤ j))) := by
  have e : (cmpI i j != .gt) = decide (i ≤ j) := by
    show (!(cmpI i j == .gt)) = _
    rw [cmpB_gt]; by_cases h : j < i <;> simp [h] <;> omega
  unfold pLe cmpP; rw [e]; rfl
@[simp] theorem q_geI : pGe (.int i) (.int j) = some (.bl (decide (j ≤ i))) := by
  have e : (cmpI i j != .lt) = decide (j ≤ i) := by
    show (!(cmpI i j == .lt)) = _
    rw [cmpB_lt]; by_cases h : i < j <;> simp [h] <;> omega
  unfold pGe cmpP; rw [e]; rfl
theorem log2_lt {n a : Nat} (h : n < 2 ^ a) (ha : 0 < a) : n.log2 < a := by
  by_cases e : n = 0
  · subst e; simpa using ha
  · exact (Nat.log2_lt e).mpr h
theorem mul_ok {a b : Nat} (h1 : i.natAbs < 2 ^ a) (h2 : j.natAbs < 2 ^ b) (ha : 0 < a) (hb : 0 < b) (hab : a + b ≤ 1000000) : pMul (.int i) (.int j) = some (.int (i * j)) := by
  have l1 := log2_lt h1 ha
  have l2 := log2_lt h2 hb
  show (if mulOk i j then _ else _) = _
  rw [if_pos (by unfold mulOk; exact decide_eq_true (by omega))]
@[simp] theorem q_ixT : pIx (.tup xs) (.int i) = atZ xs i := rfl
@[simp] theorem q_ixW : pIx (.wt xs) (.int i) = atZ xs i := rfl
@[simp] theorem q_ixL : pIx (.lst xs) (.int i) = atZ xs i := rfl
theorem at_nat {α : Type} {l : List α} {n : Nat} {a : α} (h : l[n]? = some a) : atZ l (n : Int) = some a := by
  have hn : n < l.length := (List.getElem?_eq_some_iff.mp h).1
  unfold atZ ixZ
  rw [if_pos (by omega), if_pos (by omega)]
  simpa using h
@[simp] theorem q_at0 : atZ (x :: xs) 0 = some x := at_nat (n := 0) (l := x :: xs) rfl
@[simp] theorem q_at1 : atZ (x :: y :: xs) 1 = some y := at_nat (n := 1) (l := x :: y :: xs) rfl
@[simp] theorem q_at2 : atZ (x :: y :: z :: xs) 2 = some z := at_nat (n := 2) (l := x :: y :: z :: xs) rfl
theorem at_in {α : Type} {l : List α} {r : Int} (h0 : 0 ≤ r) (h1 : r < l.length) : ∃ a, atZ l r = some a ∧ a ∈ l := by
  have hn : r.toNat < l.length := by omega
  refine ⟨l[r.toNat], ?_, List.getElem_mem hn⟩
  have e := at_nat (l := l) (n := r.toNat) (a := l[r.toNat]) (List.getElem?_eq_getElem hn)
  rwa [Int.toNat_of_nonneg h0] at e
end
end Z
namespace Z
open PySem L2
section
variable {i j : Int} {n : Nat} {d : D}
@[simp] theorem q_rg1 : rgItems [.p (.int j)] = if fits62 j then some (rangeL 0 j.toNat) else none := rfl
@[simp] theorem q_rg2 : rgItems [.p (.int i), .p (.int j)] = if fits62 i && fits62 j then some (rangeL i (j - i).toNat) else none := rfl
theorem rangeL_eq (lo : Int) (n : Nat) : rangeL lo n = ((List.range n).map fun k : Nat => lo + (k : Int)).map P.int := by
  unfold rangeL; rw [List.map_map]; rfl
theorem mem_rangeL {lo z : Int} {n : Nat} (h : z ∈ (List.range n).map fun k : Nat => lo + (k : Int)) : lo ≤ z ∧ z < lo + n := by
  obtain ⟨k, hk, e⟩ := List.mem_map.mp h
  have := List.mem_range.mp hk
  omega
/-- a slot that a loop's name may stand in -/
inductive Fr1 : Slot → Prop where
  | no : Fr1 .no
  | va (d : D) : Fr1 (.var d)
end
end Z
namespace Z
open PySem L2
section
variable {c : D → Bool} {m : Nat} {as : List Arg} {h : Fn} {env : Env} {xs : List D} {y : D} {ps : List P} {i : Int} {x : P}
@[simp] theorem q_eMt : eMt c m as h env = match env[m]? with
  | some (.var d) => if c d then eOpM m as h env else .stuck
  | some (.fix d) => if c d then eOpM m as h env else .stuck
  | _ => .stuck := rfl
@[simp] theorem q_isL : isL (.l xs) = true := rfl
@[simp] theorem q_vwsp : vws (ps.map D.p) = ps := vws_p ps
@[simp] theorem q_app : hAppend [.l xs, y] = if xs.length < lineN then .ok (.p .non) (.l (xs ++ [y])) else .stuck := rfl
@[simp] theorem q_list {ds : List D} : hList ds = if ds.length ≤ lineN then .ok (.l ds) (.p .non) else .stuck := rfl
@[simp] theorem q_lof : hListOf [.p (.lst ps)] = .ok (.l (ps.map .p)) (.p .non) := rfl
@[simp] theorem q_lofT : hListOf [.p (.tup ps)] = .ok (.l (ps.map .p)) (.p .non) := rfl
theorem erase_map : ∀ (ps : List P) (n : Nat), (ps.map D.p).eraseIdx n = (ps.eraseIdx n).map D.p
  | [], _ => rfl
  | _ :: _, 0 => rfl
  | p :: ps, n + 1 => by rw [List.map_cons, List.eraseIdx_cons_succ, List.eraseIdx_cons_succ, List.map_cons, erase_map ps n]
theorem q_pop {n : Nat} {x : P} (h : ps[n]? = some x) (hn : n < 1000000) : hPopAt [.l (ps.map D.p), .p (.int (n : Int))] = .ok (.p x) (.l ((ps.eraseIdx n).map D.p)) := by
  have h1 : n < ps.length := (List.getElem?_eq_some_iff.mp h).1
  have e : ixZ (ps.map D.p).length (n : Int) = some n := by
    unfold ixZ
    rw [List.length_map, if_pos (by omega), if_pos (by omega), Int.toNat_natCast]
  have e2 : (ps.map D.p)[n]? = some (.p x) := by rw [List.getElem?_map, h]; rfl
  simp only [hPopAt, e, e2]
  rw [if_pos ⟨by omega, by omega⟩, erase_map]
theorem cleans_all : ∀ {ps : List P}, (∀ x ∈ ps, clean x = true) → cleans ps = true
  | [], _ => by unfold cleans; rfl
  | x :: ps, h => by
    unfold cleans
    rw [h x List.mem_cons_self, cleans_all fun z hz => h z (List.mem_cons_of_mem _ hz)]; rfl
theorem cleanDs_all : ∀ {ps : List P}, (∀ x ∈ ps, clean x = true) → cleanDs (ps.map D.p) = true
  | [], _ => by rw [List.map_nil]; unfold cleanDs; rfl
  | x :: ps, h => by
    rw [List.map_cons, cleanDs]
    rw [cleanDs_all fun z hz => h z (List.mem_cons_of_mem _ hz), q_cp, h x List.mem_cons_self]; rfl
end
end Z
set_option Elab.async false
set_option linter.all false
set_option maxRecDepth 100000
set_option maxHeartbeats 4000000
namespace Z
open PySem L2 PySem.W
theorem fits_of {i : Int} (h1 : -(2 ^ 60) ≤ i) (h2 : i < 2 ^ 60) : fits62 i = true := by
  unfold fits62
  rw [decide_eq_true (by omega), decide_eq_true (by omega)]; rfl
def Sm (z : Int) : Prop := -(10 ^ 31) ≤ z ∧ z ≤ 10 ^ 31
theorem pow30 : pPow (.int 10) (.int 30) = some (.int (10 ^ 30)) := rfl
theorem pow29 : pPow (.int 10) (.int 29) = some (.int (10 ^ 29)) := rfl
theorem pow9 : pPow (.int 10) (.int 9) = some (.int (10 ^ 9)) := rfl
theorem t_ii {i : Int} : bIsTy [.int i, .ty "int"] = some (.bl true) := rfl
theorem t_ib {i : Int} : bIsTy [.int i, .ty "bool"] = some (.bl false) := rfl
theorem t_si {s : Str} : bIsTy [.str s, .ty "int"] = some (.bl false) := rfl
theorem t_ss {s : Str} : bIsTy [.str s, .ty "str"] = some (.bl true) := rfl
theorem t_ti {xs : List P} : bIsTy [.tup xs, .ty "int"] = some (.bl false) := rfl
theorem t_ts {xs : List P} : bIsTy [.tup xs, .ty "str"] = some (.bl false) := rfl
theorem t_tt {xs : List P} : bIsTy [.tup xs, .ty "tuple"] = some (.bl true) := rfl
theorem t_tl {xs : List P} : bIsTy [.tup xs, .ty "list"] = some (.bl false) := rfl
theorem eq_str {s : Str} (h : (s.cps.all (· < 0x110000)) = true) : pEq (.str s) (.str s) = some (.bl true) := by
  have e : okP (.str s) = true := by unfold okP; rw [okN]; exact h
  have e2 : eqP (.str s) (.str s) = true := by rw [eqP]; exact beq_self_eq_true s
  unfold pEq
  rw [e, e2]
  rfl
theorem seq_nx {a b : SF} {env env' : Env} (h : a env = .nx env') : sSeq a b env = b env' := by rw [q_seq, h]
theorem comp_filter {α : Type} (vs : List Nat) (q : Pat) (t : TF) (g : EF) (env : Env) (P0 o : α → P) (c : α → Bool) : ∀ (A : List α) (acc : List P), acc.length + A.length ≤ 1000000 →
    (∀ a ∈ A, ∃ e1 e2, assignP env q (P0 a) = some e1 ∧ t e1 = .ok (c a) e2 ∧ wipeE e2 vs = env ∧ (c a = true → ∃ e3, g e2 = .ok (.p (o a)) e3 ∧ wipeE e3 vs = env)) →
    compL vs q t g (A.map P0) env (acc.map D.p) = .ok (.l ((acc ++ (A.filter c).map o).map D.p)) env
  | [], acc, _, _ => by rw [List.map_nil, compL]; simp
  | a :: A, acc, hl, h => by
    simp only [List.length_cons] at hl
    obtain ⟨e1, e2, h1, h2, h3, h4⟩ := h a List.mem_cons_self
    have ih := fun acc hl => comp_filter vs q t g env P0 o c A acc hl fun x m => h x (List.mem_cons_of_mem _ m)
    rw [List.map_cons, compL, h1]
    simp only [h2]
    cases hc : c a with
    | false =>
      simp only [Bool.false_eq_true, if_false, h3]
      rw [ih acc (by omega), List.filter_cons_of_neg (by simp [hc])]
    | true =>
      obtain ⟨e3, h5, h6⟩ := h4 hc
      simp only [if_true, h5, h6]
      rw [if_pos (by rw [List.length_map]; unfold lineN; omega)]
      have := ih (acc ++ [o a]) (by simp; omega)
      rw [List.map_append] at this
      rw [show acc.map D.p ++ [D.p (o a)] = acc.map D.p ++ List.map D.p [o a] from rfl, this, List.filter_cons_of_pos hc]
      simp
theorem comp_all {β : Type} (vs : List Nat) (q : Pat) (g : EF) (env : Env) (Pb o : β → P) (B : List β) (acc : List P) (hl : acc.length + B.length ≤ 1000000)
    (h : ∀ x ∈ B, ∃ e2 e3, assignP env q (Pb x) = some e2 ∧ g e2 = .ok (.p (o x)) e3 ∧ wipeE e2 vs = env ∧ wipeE e3 vs = env) :
    compL vs q tYesF g (B.map Pb) env (acc.map D.p) = .ok (.l ((acc ++ B.map o).map D.p)) env := by
  have e := comp_filter vs q tYesF g env Pb o (fun _ => true) B acc hl fun x m => by
    obtain ⟨e2, e3, h1, h2, h3, h4⟩ := h x m
    exact ⟨e2, e2, h1, rfl, h3, fun _ => ⟨e3, h2, h4⟩⟩
  rw [List.filter_eq_self.mpr (fun _ _ => rfl)] at e
  exact e
@[simp] theorem q_vwcp {α : Type} (f : α → P) (l : List α) : vws (l.map (D.p ∘ f)) = l.map f := by rw [← List.map_map]; exact vws_p _
def gD (G : List (List P)) : D := .l (G.map fun r => .l (r.map D.p))
def gset (G : List (List P)) (y x : Nat) (v : P) : List (List P) := match G[y]? with
  | some r => G.set y (r.set x v)
  | none => G
structure Dm (h w : Nat) (G : List (List P)) : Prop where
  l : G.length = h
  r : ∀ r ∈ G, r.length = w
theorem gset_dm {h w : Nat} {G : List (List P)} {y x : Nat} {v : P} (d : Dm h w G) : Dm h w (gset G y x v) := by
  unfold gset
  split
  · rename_i r hr
    refine ⟨by rw [List.length_set]; exact d.l, fun s m => ?_⟩
    rcases List.mem_or_eq_of_mem_set m with z | z
    · exact d.r s z
    · rw [z, List.length_set]; exact d.r r (List.mem_of_getElem? hr)
  · exact d
def gat (G : List (List P)) (y x : Nat) : Option P := (G[y]?).bind fun r => r[x]?
theorem gset_at {h w : Nat} {G : List (List P)} {y x : Nat} {v : P} (d : Dm h w G) (hy : y < h) (hx : x < w) (y' x' : Nat) : gat (gset G y x v) y' x' = if y' = y ∧ x' = x then some v else gat G y' x' := by
  have hy2 : y < G.length := by rw [d.l]; exact hy
  have er : G[y]? = some G[y] := List.getElem?_eq_getElem hy2
  have lr : G[y].length = w := d.r _ (List.getElem_mem hy2)
  unfold gset gat
  rw [er]
  simp only
  by_cases e1 : y' = y
  · subst e1
    rw [List.getElem?_set_self hy2, er]
    simp only [Option.bind_some, true_and]
    by_cases e2 : x' = x
    · subst e2
      rw [if_pos rfl, List.getElem?_set_self (by rw [lr]; exact hx)]
    · rw [if_neg e2, List.getElem?_set_ne (fun z => e2 z.symm)]
  · rw [if_neg (fun z => e1 z.1), List.getElem?_set_ne (fun z => e1 z.symm)]
theorem dm_ext {h w : Nat} {G1 G2 : List (List P)} (d1 : Dm h w G1) (d2 : Dm h w G2) (e : ∀ y x, y < h → x < w → gat G1 y x = gat G2 y x) : G1 = G2 := by
  refine List.ext_getElem (by rw [d1.l, d2.l]) fun y h1 h2 => ?_
  have l1 := d1.r _ (List.getElem_mem h1)
  have l2 := d2.r _ (List.getElem_mem h2)
  refine List.ext_getElem (by rw [l1, l2]) fun x h3 h4 => ?_
  have := e y x (by rw [← d1.l]; exact h1) (by rw [← l1]; exact h3)
  unfold gat at this
  rw [List.getElem?_eq_getElem h1, List.getElem?_eq_getElem h2] at this
  simp only [Option.bind_some] at this
  rw [List.getElem?_eq_getElem h3, List.getElem?_eq_getElem h4] at this
  exact Option.some.inj this
theorem ixN_in {n : Nat} {j : Int} (h0 : 0 ≤ j) (h1 : j < n) : ixN n j = some j.toNat := by
  unfold ixN
  rw [if_pos (by omega), if_pos h1]
theorem set3_ok {h w : Nat} {G : List (List P)} (d : Dm h w G) (y x : Int) (v : P) (hy : 0 ≤ y ∧ y < h) (hx : 0 ≤ x ∧ x < w) : hSet3 [gD G, .p v, .p (.int y), .p (.int x)] = .ok (.p .non) (gD (gset G y.toNat x.toNat v)) := by
  have hy2 : y.toNat < G.length := by rw [d.l]; omega
  have er : G[y.toNat]? = some G[y.toNat] := List.getElem?_eq_getElem hy2
  have lr : G[y.toNat].length = w := d.r _ (List.getElem_mem hy2)
  have e1 : ixN (G.map fun r => D.l (r.map D.p)).length y = some y.toNat := ixN_in hy.1 (by rw [List.length_map, d.l]; exact hy.2)
  have e2 : (G.map fun r => D.l (r.map D.p))[y.toNat]? = some (.l (G[y.toNat].map D.p)) := by rw [List.getElem?_map, er]; rfl
  have e3 : ixN (G[y.toNat].map D.p).length x = some x.toNat := ixN_in hx.1 (by rw [List.length_map, lr]; exact hx.2)
  unfold gD hSet3 gset
  simp only [e1, e2, e3, er]
  rw [List.map_set, List.map_set]
abbrev gP (G : List (List P)) : P := .lst (G.map P.lst)
abbrev gTP (G : List (List P)) : P := .tup (G.map P.tup)
theorem vws_g (G : List (List P)) : vws (G.map fun r => D.l (r.map D.p)) = G.map P.lst := by
  rw [vws_map, List.map_map]
  refine List.map_congr_left fun r _ => ?_
  simp
theorem pIntI (i : Int) : pInt (.int i) = some (.int i) := rfl
theorem comp_const (vs : List Nat) (q : Pat) (g : EF) (env : Env) (dd : D) : ∀ (A : List P) (acc : List D), acc.length + A.length ≤ 1000000 → (∀ a ∈ A, ∃ e2 e3, assignP env q a = some e2 ∧ g e2 = .ok dd e3 ∧ wipeE e3 vs = env) →
    compL vs q tYesF g A env acc = .ok (.l (acc ++ List.replicate A.length dd)) env
  | [], acc, _, _ => by rw [compL]; simp
  | a :: A, acc, hl, h => by
    simp only [List.length_cons] at hl
    obtain ⟨e2, e3, h1, h2, h3⟩ := h a List.mem_cons_self
    have ih := comp_const vs q g env dd A (acc ++ [dd]) (by simp; omega) fun x m => h x (List.mem_cons_of_mem _ m)
    rw [compL, h1]
    simp only [show tYesF e2 = .ok true e2 from rfl, if_true, h2]
    rw [if_pos (by unfold lineN; omega), h3, ih]
    simp [List.replicate_succ]
theorem rangeL_len (lo : Int) (n : Nat) : (rangeL lo n).length = n := by unfold rangeL; simp
def gz (h w : Nat) (v : P) : List (List P) := List.replicate h (List.replicate w v)
theorem gz_dm (h w : Nat) (v : P) : Dm h w (gz h w v) := ⟨by unfold gz; simp, fun r m => by rw [(List.mem_replicate.mp m).2]; simp⟩
theorem gz_D (h w : Nat) (v : P) : gD (gz h w v) = .l (List.replicate h (.l ((List.replicate w v).map D.p))) := by
  unfold gD gz
  rw [List.map_replicate]
theorem rg_range (n : Nat) : rangeL 0 n = ((List.range' 0 n).map fun k : Nat => 0 + (k : Int)).map P.int := by rw [rangeL_eq, List.range_eq_range']
theorem t_tiL {xs : List P} : bIsTy [.lst xs, .ty "int"] = some (.bl false) := rfl
theorem t_tsL {xs : List P} : bIsTy [.lst xs, .ty "str"] = some (.bl false) := rfl
theorem t_ttL {xs : List P} : bIsTy [.lst xs, .ty "tuple"] = some (.bl false) := rfl
theorem t_tlL {xs : List P} : bIsTy [.lst xs, .ty "list"] = some (.bl true) := rfl
/-- a loop by what holds before each turn -/
theorem for_inv {q : Pat} {body : SF} {I : Nat → Env → Prop} : ∀ (xs : List P) (k : Nat), (∀ j x env, xs[j]? = some x → I (k + j) env → ∃ e1 e2, assignP env q x = some e1 ∧ (body e1 = .nx e2 ∨ body e1 = .ct e2) ∧ I (k + j + 1) e2) → ∀ env, I k env → ∃ env', forL q body xs env = .nx env' ∧ I (k + xs.length) env'
  | [], k, _, env, h => ⟨env, by simp, h⟩
  | x :: xs, k, st, env, h => by
    obtain ⟨e1, e2, h1, h2, h3⟩ := st 0 x env rfl h
    obtain ⟨env', e, h4⟩ := for_inv xs (k + 1) (fun j y env hy hi => by
      have := st (j + 1) y env (by simpa using hy) (by rw [show k + (j + 1) = k + 1 + j by omega]; exact hi)
      rw [show k + (j + 1) + 1 = k + 1 + j + 1 by omega] at this
      exact this) e2 (by simpa using h3)
    refine ⟨env', ?_, by rw [List.length_cons, show k + (xs.length + 1) = k + 1 + xs.length by omega]; exact h4⟩
    rw [q_forc, h1]
    rcases h2 with h2 | h2 <;> simp only [h2] <;> exact e
/-- a loop that may end early with a value; T: what holds before each turn, by the items left -/
theorem for_rt {q : Pat} {body : SF} {I : List P → Env → Prop} {R : Env → SR → Prop} (st : ∀ x xs env, I (x :: xs) env → ∃ e1, assignP env q x = some e1 ∧ ((∃ e2, (body e1 = .nx e2 ∨ body e1 = .ct e2) ∧ I xs e2) ∨ (∃ e2, body e1 = .br e2 ∧ R e2 (.nx e2)) ∨ (∃ d e2, body e1 = .rt d e2 ∧ R e2 (.rt d e2)))) (fin : ∀ env, I [] env → R env (.nx env)) :
    ∀ xs env, I xs env → ∃ e, R e (forL q body xs env)
  | [], env, h => ⟨env, by rw [q_for0]; exact fin env h⟩
  | x :: xs, env, h => by
    obtain ⟨e1, h1, h2⟩ := st x xs env h
    rw [q_forc, h1]
    rcases h2 with ⟨e2, hb, hi⟩ | ⟨e2, hb, hr⟩ | ⟨d, e2, hb, hr⟩
    · obtain ⟨e, he⟩ := for_rt st fin xs e2 hi
      refine ⟨e, ?_⟩
      rcases hb with hb | hb <;> simp only [hb] <;> exact he
    · exact ⟨e2, by simp only [hb]; exact hr⟩
    · exact ⟨e2, by simp only [hb]; exact hr⟩
end Z
set_option Elab.async false
set_option linter.all false
set_option maxRecDepth 100000
set_option maxHeartbeats 1000000
namespace Z
open PySem L2
noncomputable section
def top (i : Nat) : Stmt := PySem.Challenge.pw_twosweeps_k01_numbers_and_names.main.body.getD i (.Pass ⟨0, 0, 0, 0⟩)
def Anc : List (Str × List Str) := [("Refused", []), ("BadText", []), ("Malformed", ["Malformed", "Refused", "ValueError"]), ("BadOrder", []), ("Unknown", []), ("Empty", []), ("BadSize", []), ("BadCell", []), ("BadMove", []), ("BadPrice", []), ("Doubled", []), ("BadWalk", []), ("Free", []), ("TooMany", []), ("NotFan", []), ("NotYes", []), ("Stuck", [])]
def Tab : Str → Str → Option Bool := subOf Anc
def FldT : List (Str × List Str) := [("Malformed", ["what"])]
def Fld : Str → Str → Bool := fldOf FldT
def Fis_digit : SF :=
  sRet (eW [0] (gChain pLe pLe (gC (.str "0")) (gV 0) (gC (.str "9"))))
def fis_digit : Fn := mkFn false 1 1 Fis_digit
def Fis_letter : SF :=
  sRet (eW [0] (gChain pLe pLe (gC (.str "a")) (gV 0) (gC (.str "z"))))
def fis_letter : Fn := mkFn false 1 1 Fis_letter
def B_law_store_0 : SF :=
  sAsg 1 (eW [1, 2] (g2 pMod (gN bInt [g2 pAdd (g2 pAdd (g2 pMul (gV 1) (gC (.int 31))) (g2 pMod (gN bInt [gV 2]) (gC (.int 2147483647)))) (gC (.int 1))]) (gC (.int 2147483647))))
def F_law_store : SF :=
  sSeq (sAsg 1 (eW [] (gC (.int 1618033))))
  (sSeq (sForS (.n 2) (oSeq (eW [0] (gV 0))) (B_law_store_0))
  (sRet (eOp (.e eNewD :: [.e (eW [0] (gN bListA [gV 0])), .e (eW [] (gC (.int 0))), .e (eW [] (gC (.int 0))), .e (eW [] (gC (.int 0))), .v 1]) (hDict (List.map kP [.inr "cells", .inr "at", .inr "great", .inr "turn", .inr "seed"])))))
def f_law_store : Fn := mkFn false 1 3 F_law_store
def F_law_mix : SF :=
  sSeq (sAsg 2 (eW [0, 1] (g2 pMod (gN bInt [g2 pAdd (g2 pAdd (g2 pMul (g2 pMod (gN bInt [gV 0]) (gC (.int 2147483647))) (gC (.int 48271))) (g2 pMul (gN bInt [gV 1]) (gC (.int 69621)))) (gC (.int 17))]) (gC (.int 2147483647)))))
  (sSeq (sAsg 3 (eW [2, 2, 2, 1] (g2 pMod (gN bInt [g2 pAdd (g2 pAdd (g2 pAdd (g2 pMul (gV 2) (gV 2)) (g2 pMul (gV 2) (gC (.int 16807)))) (g2 pMul (gN bInt [gV 1]) (gC (.int 39373)))) (gC (.int 5))]) (gC (.int 2147483629)))))
  (sRet (eW [3, 3] (g2 pMod (gN bInt [g2 pAdd (g2 pAdd (g2 pMul (gV 3) (gC (.int 40692))) (g2 pFdiv (gV 3) (gC (.int 4096)))) (gC (.int 11))]) (gC (.int 2147483587))))))
def f_law_mix : Fn := mkFn false 2 4 F_law_mix
def B_law_power_0 : SF :=
  sAsg 2 (eW [2, 0] (g2 pMul (gV 2) (gV 0)))
def F_law_power : SF :=
  sSeq (sAsg 2 (eW [] (gC (.int 1))))
  (sSeq (sForS (.n 3) (oRg [.v 1]) (B_law_power_0))
  (sRet (eM 2)))
def f_law_power : Fn := mkFn false 2 4 F_law_power
def F_law_is_integer : SF :=
  sRet (eAnd (eW [0] (gN bIsTy [gV 0, gC (.ty "int")])) (eW [0] (g1 pNot (gN bIsTy [gV 0, gC (.ty "bool")]))))
def f_law_is_integer : Fn := mkFn false 1 1 F_law_is_integer
def B_law_is_name_0 : SF :=
  sIf (tAnd (tNot (tE (eW [1] (gChain pLe pLe (gC (.str "a")) (gV 1) (gC (.str "z")))))) (tNot (tE (eW [1] (gChain pLe pLe (gC (.str "0")) (gV 1) (gC (.str "9"))))))) (sRet (eW [] (gC (.bl false)))) (sNx)
def F_law_is_name : SF :=
  sSeq (sIf (tOr (tE (eW [0] (g2 pLt (gN bLen [gV 0]) (gC (.int 1))))) (tOr (tE (eW [0] (g2 pGt (gN bLen [gV 0]) (gC (.int 12))))) (tNot (tE (eW [0] (gChain pLe pLe (gC (.str "a")) (g2 pIx (gV 0) (gC (.int 0))) (gC (.str "z")))))))) (sRet (eW [] (gC (.bl false)))) (sNx))
  (sSeq (sForS (.n 1) (oSeq (eW [0] (gV 0))) (B_law_is_name_0))
  (sRet (eW [] (gC (.bl true)))))
def f_law_is_name : Fn := mkFn false 1 2 F_law_is_name
def B_law_is_number_word_0 : SF :=
  sIf (tNot (tE (eW [2] (gChain pLe pLe (gC (.str "0")) (gV 2) (gC (.str "9")))))) (sRet (eW [] (gC (.bl false)))) (sNx)
def F_law_is_number_word : SF :=
  sSeq (sIf (tE (eW [0] (g2 pEq (gV 0) (gC (.str "0"))))) (sRet (eW [] (gC (.bl true)))) (sNx))
  (sSeq (sAsg 1 (eV 0))
  (sSeq (sIf (tE (eW [0] (g2 pEq (gSl (gV 0) none (some (gC (.int 1)))) (gC (.str "-"))))) (sAsg 1 (eW [0] (gSl (gV 0) (some (gC (.int 1))) none))) (sNx))
  (sSeq (sIf (tOr (tE (eW [1] (g2 pLt (gN bLen [gV 1]) (gC (.int 1))))) (tOr (tE (eW [1] (g2 pGt (gN bLen [gV 1]) (gC (.int 30))))) (tE (eW [1] (g2 pEq (g2 pIx (gV 1) (gC (.int 0))) (gC (.str "0"))))))) (sRet (eW [] (gC (.bl false)))) (sNx))
  (sSeq (sForS (.n 2) (oSeq (eW [1] (gV 1))) (B_law_is_number_word_0))
  (sRet (eW [] (gC (.bl true))))))))
def f_law_is_number_word : Fn := mkFn false 1 3 F_law_is_number_word
def F_law_signs : SF :=
  sSeq (sAsg 0 (eW [] (gC (.str "!\"#$&'()*+,-./0123456789:;<=>?@ABCDEFGHIJKLMNOPQRSTUVWXYZ[\\]^_`"))))
  (sRet (eW [0] (g2 pAdd (gV 0) (gC (.str "abcdefghijklmnopqrstuvwxyz{|}~")))))
def f_law_signs : Fn := mkFn false 0 1 F_law_signs
def F_law_refusal (a d c : Nat) : SF :=
  sSeq (sAsg 1 (eW [0] (gLs [gN (bIsE a d c Tab) [gV 0, gC (.ty "ValueError")]])))
  (sSeq (sAsg 1 (eW [1, 0, 0, 0] (g2 pAdd (gV 1) (gLs [gN (bIsE a d c Tab) [gV 0, gC (.cls "BadText")], gN (bIsE a d c Tab) [gV 0, gC (.cls "Malformed")], gN (bIsE a d c Tab) [gV 0, gC (.cls "BadOrder")]]))))
  (sSeq (sAsg 1 (eW [1, 0, 0, 0] (g2 pAdd (gV 1) (gLs [gN (bIsE a d c Tab) [gV 0, gC (.cls "Unknown")], gN (bIsE a d c Tab) [gV 0, gC (.cls "Empty")], gN (bIsE a d c Tab) [gV 0, gC (.cls "BadSize")]]))))
  (sSeq (sAsg 1 (eW [1, 0, 0, 0] (g2 pAdd (gV 1) (gLs [gN (bIsE a d c Tab) [gV 0, gC (.cls "BadCell")], gN (bIsE a d c Tab) [gV 0, gC (.cls "BadMove")], gN (bIsE a d c Tab) [gV 0, gC (.cls "BadPrice")]]))))
  (sSeq (sAsg 1 (eW [1, 0, 0, 0] (g2 pAdd (gV 1) (gLs [gN (bIsE a d c Tab) [gV 0, gC (.cls "Doubled")], gN (bIsE a d c Tab) [gV 0, gC (.cls "BadWalk")], gN (bIsE a d c Tab) [gV 0, gC (.cls "Free")]]))))
  (sSeq (sAsg 1 (eW [1, 0, 0, 0] (g2 pAdd (gV 1) (gLs [gN (bIsE a d c Tab) [gV 0, gC (.cls "TooMany")], gN (bIsE a d c Tab) [gV 0, gC (.cls "NotFan")], gN (bIsE a d c Tab) [gV 0, gC (.cls "NotYes")]]))))
  (sSeq (sAsg 1 (eW [1, 0] (g2 pAdd (gV 1) (gLs [gN (bIsE a d c Tab) [gV 0, gC (.cls "Stuck")]]))))
  (sSeq (sIf (tOr (tE (eW [1] (g2 pIsNot (g2 pIx (gV 1) (gC (.int 0))) (gC (.bl true))))) (tE (eW [1] (g2 pNe (gN bSumB [gV 1]) (gC (.int 2)))))) (sRet (eW [] (gTu [gC (.str "unclear")]))) (sNx))
  (sSeq (sIf (tE (eW [0] (gN (bIsE a d c Tab) [gV 0, gC (.cls "Malformed")]))) (sRet (eW [0] (gTu [gC (.str "Malformed"), g1 (pXf a d c Fld "what") (gV 0)]))) (sNx))
  (sRet (eW [] (gTu [gC (.str "another")])))))))))))
def f_law_refusal (a d c : Nat) : Fn := mkFn false 1 2 (F_law_refusal a d c)
def B_law_value_0 : SF :=
  sIf (tE (eW [2] (g2 pNe (gV 2) (gC (.str "-"))))) (sAsg 1 (eW [1, 2] (g2 pAdd (g2 pMul (gV 1) (gC (.int 10))) (gMt hFind (gC (.str "0123456789")) [gV 2])))) (sNx)
def F_law_value : SF :=
  sSeq (sAsg 1 (eW [] (gC (.int 0))))
  (sSeq (sForS (.n 2) (oSeq (eW [0] (gV 0))) (B_law_value_0))
  (sSeq (sIf (tE (eW [0] (g2 pEq (g2 pIx (gV 0) (gC (.int 0))) (gC (.str "-"))))) (sRet (eW [1] (g2 pSub (gC (.int 0)) (gV 1)))) (sNx))
  (sRet (eM 1))))
def f_law_value : Fn := mkFn false 1 3 F_law_value
def Fhas_digits : SF :=
  sSeq (sIf (tOr (tNot (tE (eW [0] (gChain pLe pLe (gC (.int 1)) (gN bLen [gV 0]) (gC (.int 30)))))) (tE (eW [0] (g2 pEq (g2 pIx (gV 0) (gC (.int 0))) (gC (.str "0")))))) (sRet (eW [] (gC (.bl false)))) (sNx))
  (sRet (eOp [.e (eComp [1] (.n 1) (oSeq (eW [0] (gV 0))) (tYesF) (eOp [.v 1] fis_digit))] (liftN bAll)))
def fhas_digits : Fn := mkFn false 1 2 Fhas_digits
def Fis_name : SF :=
  sSeq (sIf (tOr (tNot (tE (eW [0] (gChain pLe pLe (gC (.int 1)) (gN bLen [gV 0]) (gC (.int 12)))))) (tNot (tE (eOp [.e (eW [0] (g2 pIx (gV 0) (gC (.int 0))))] fis_letter)))) (sRet (eW [] (gC (.bl false)))) (sNx))
  (sRet (eOp [.e (eComp [1] (.n 1) (oSeq (eW [0] (gV 0))) (tYesF) (eOr (eOp [.v 1] fis_letter) (eOp [.v 1] fis_digit)))] (liftN bAll)))
def fis_name : Fn := mkFn false 1 2 Fis_name
def B_law_mixed_0 : SF :=
  sSeq (sIf (tE (eW [4, 2] (g2 pGe (gV 4) (gV 2)))) (sBr) (sNx))
  (sSeq (sAsg 3 (eOp [.e (eW [3] (g2 pMul (gV 3) (gC (.int 1000003)))), .e (eOp [.e (eOp [.e (eOp [.v 0, .e (eW [1, 5] (g2 pAdd (g2 pMul (gV 1) (gC (.int 97))) (gV 5)))] f_law_mix)] (liftN bInt)), .e (eW [] (gC (.int 1000003)))] (lift2 pMod))] (lift2 pAdd)))
  (sAsg 4 (eW [4] (g2 pMul (gV 4) (gC (.int 1000003))))))
def F_law_mixed : SF :=
  sSeq (sAsg 3 (eW [] (gC (.int 0))))
  (sSeq (sAsg 4 (eW [] (gC (.int 1))))
  (sSeq (sForS (.n 5) (oRg [.e (eW [] (gC (.int 90)))]) (B_law_mixed_0))
  (sRet (eW [3, 2] (g2 pMod (gN bInt [gV 3]) (gV 2))))))
def f_law_mixed : Fn := mkFn false 3 6 F_law_mixed
def Fread_number : SF :=
  sSeq (sAsg 1 (eIf (tE (eW [0] (gMt hSw (gV 0) [gC (.str "-")]))) (eW [0] (gSl (gV 0) (some (gC (.int 1))) none)) (eW [0] (gV 0))))
  (sSeq (sIf (tAnd (tE (eW [0] (g2 pNe (gV 0) (gC (.str "0"))))) (tNot (tE (eOp [.v 1] fhas_digits)))) (sRaise "Malformed" ["what"] [.e (eW [] (gC (.str "number")))]) (sNx))
  (sRet (eW [0] (gN bIntA [gV 0]))))
def fread_number : Fn := mkFn false 1 2 Fread_number
def Fread_name : SF :=
  sSeq (sIf (tNot (tE (eOp [.v 0] fis_name))) (sRaise "Malformed" ["what"] [.e (eW [] (gC (.str "name")))]) (sNx))
  (sRet (eM 0))
def fread_name : Fn := mkFn false 1 1 Fread_name
def F_law_take : SF :=
  sSeq (sIf (tE (eW [1] (g2 pLt (gV 1) (gC (.int 2))))) (sRet (eW [] (gC (.int 0)))) (sNx))
  (sSeq (sExpr (eOpM 0 [.e (eW [0] (g2 pAdd (g2 pIx (gV 0) (gC (.str "turn"))) (gC (.int 1)))), .e (eW [] (gC (.str "turn")))] hSet))
  (sSeq (sIf (tAnd (tE (eW [0] (g2 pLt (g2 pIx (gV 0) (gC (.str "great"))) (gC (.int 2))))) (tE (eW [0, 0] (g2 pLt (g2 pIx (gV 0) (gC (.str "at"))) (gN bLen [g2 pIx (gV 0) (gC (.str "cells"))]))))) (sSeq (sAsg 2 (eW [0, 0] (g2 pIx (g2 pIx (gV 0) (gC (.str "cells"))) (g2 pIx (gV 0) (gC (.str "at"))))))
  (sSeq (sExpr (eOpM 0 [.e (eW [0] (g2 pAdd (g2 pIx (gV 0) (gC (.str "at"))) (gC (.int 1)))), .e (eW [] (gC (.str "at")))] hSet))
  (sSeq (sIf (tE (eW [2] (g2 pLt (gN bAbs [gV 2]) (g2 pPow (gC (.int 10)) (gC (.int 18)))))) (sRet (eOp [.v 2, .e (eW [0] (g2 pIx (gV 0) (gC (.str "turn")))), .v 1] f_law_mixed)) (sNx))
  (sExpr (eOpM 0 [.e (eW [2] (gN bAbs [gV 2])), .e (eW [] (gC (.str "great")))] hSet))))) (sNx))
  (sSeq (sIf (tE (eW [0] (g2 pGt (g2 pIx (gV 0) (gC (.str "great"))) (gC (.int 1))))) (sSeq (sAsg 3 (eW [0, 1] (g2 pMod (gN bInt [g2 pIx (gV 0) (gC (.str "great"))]) (gV 1))))
  (sSeq (sExpr (eOpM 0 [.e (eW [0, 1] (g2 pFdiv (g2 pIx (gV 0) (gC (.str "great"))) (gV 1))), .e (eW [] (gC (.str "great")))] hSet))
  (sRet (eM 3)))) (sNx))
  (sRet (eOp [.e (eW [0] (g2 pIx (gV 0) (gC (.str "seed")))), .e (eW [0] (g2 pIx (gV 0) (gC (.str "turn")))), .v 1] f_law_mixed)))))
def f_law_take : Fn := mkFn true 2 4 F_law_take
def F_law_hit : SF :=
  sRet (eOp [.e (eOpM 0 [.v 1] f_law_take), .e (eW [] (gC (.int 0)))] (lift2 pEq))
def f_law_hit : Fn := mkFn true 2 2 F_law_hit
def F_law_pick : SF :=
  sRet (eOp [.v 1, .e (eOpM 0 [.e (eW [1] (gN bLen [gV 1]))] f_law_take)] (lift2 pIx))
def f_law_pick : Fn := mkFn true 2 2 F_law_pick
def F_law_span : SF :=
  sRet (eOp [.v 1, .e (eOpM 0 [.e (eW [2, 1] (g2 pAdd (g2 pSub (gV 2) (gV 1)) (gC (.int 1))))] f_law_take)] (lift2 pAdd))
def f_law_span : Fn := mkFn true 3 3 F_law_span
def B_law_near_words_0 : SF :=
  sExpr (eMt isL 4 [.e (eW [2, 3, 5, 2, 3] (g2 pAdd (g2 pAdd (gSl (gV 2) none (some (gV 3))) (gV 5)) (gSl (gV 2) (some (gV 3)) none)))] hAppend)
def F_law_near_words : SF :=
  sSeq (sAsg 2 (eW [1] (gSl (gV 1) none (some (gC (.int 11))))))
  (sSeq (sAsg 3 (eOpM 0 [.e (eW [2] (g2 pAdd (gN bLen [gV 2]) (gC (.int 1))))] f_law_take))
  (sSeq (sAsg 4 (eOp [] hList))
  (sSeq (sForS (.n 5) (oSeq (eOp [.e (eOp [] f_law_signs), .e (eW [] (gC (.str " \n\t")))] (lift2 pAdd))) (B_law_near_words_0))
  (sRet (eM 4)))))
def f_law_near_words : Fn := mkFn true 2 6 F_law_near_words
def F_law_number : SF :=
  sSeq (sAsg 1 (eW [] (gLs [gC (.int 0), gC (.int 1), g1 pNeg (gC (.int 1)), g2 pSub (g2 pPow (gC (.int 10)) (gC (.int 30))) (gC (.int 1)), g2 pSub (gC (.int 1)) (g2 pPow (gC (.int 10)) (gC (.int 30))), g2 pPow (gC (.int 10)) (gC (.int 29)), g2 pPow (gC (.int 10)) (gC (.int 9)), g2 pAdd (g2 pPow (gC (.int 10)) (gC (.int 9))) (gC (.int 1)), g1 pNeg (gC (.int 10)), gC (.int 999), gC (.int 1000), gC (.int 2)])))
  (sSeq (sAsg 2 (eOpM 0 [.e (eW [] (gC (.int 3)))] f_law_take))
  (sSeq (sIf (tE (eW [2] (g2 pEq (gV 2) (gC (.int 0))))) (sRet (eOpM 0 [.v 1] f_law_pick)) (sNx))
  (sSeq (sIf (tE (eW [2] (g2 pEq (gV 2) (gC (.int 1))))) (sRet (eOpM 0 [.e (eW [] (g1 pNeg (gC (.int 9)))), .e (eW [] (gC (.int 9)))] f_law_span)) (sNx))
  (sSeq (sAsg 3 (eOp [.e (eW [] (gC (.int 10))), .e (eOp [.e (eW [] (gC (.int 1))), .e (eOpM 0 [.e (eW [] (gC (.int 30)))] f_law_take)] (lift2 pAdd))] f_law_power))
  (sRet (eOpM 0 [.e (eW [3] (g2 pSub (gC (.int 1)) (gV 3))), .e (eW [3] (g2 pSub (gV 3) (gC (.int 1))))] f_law_span))))))
def f_law_number : Fn := mkFn true 1 4 F_law_number
def B_law_name_0 : SF :=
  sIf (tE (eW [3] (gV 3))) (sAsg 4 (eW [4] (g2 pAdd (gV 4) (gC (.str "a"))))) (sAsg 4 (eOp [.v 4, .e (eOpM 0 [.e (eW [1] (g2 pAdd (gV 1) (gC (.str "0123456789"))))] f_law_pick)] (lift2 pAdd)))
def F_law_name : SF :=
  sSeq (sAsg 1 (eW [] (gC (.str "abcdefghijklmnopqrstuvwxyz"))))
  (sSeq (sAsg 2 (eOpM 0 [.e (eOp [.e (eW [] (gC (.int 1))), .e (eW [] (gC (.int 12))), .e (eW [] (gC (.int 2))), .e (eW [] (gC (.int 3))), .e (eOp [.e (eW [] (gC (.int 1))), .e (eOpM 0 [.e (eW [] (gC (.int 12)))] f_law_take)] (lift2 pAdd)), .e (eOp [.e (eW [] (gC (.int 2))), .e (eOpM 0 [.e (eW [] (gC (.int 6)))] f_law_take)] (lift2 pAdd))] hList)] f_law_pick))
  (sSeq (sAsg 3 (eOpM 0 [.e (eW [] (gC (.int 2)))] f_law_hit))
  (sSeq (sAsg 4 (eOpM 0 [.v 1] f_law_pick))
  (sSeq (sForS (.n 5) (oRg [.e (eW [2] (g2 pSub (gV 2) (gC (.int 1))))]) (B_law_name_0))
  (sSeq (sIf (tAnd (tE (eW [3] (gV 3))) (tE (eW [2] (g2 pGt (gV 2) (gC (.int 1)))))) (sSeq (sAsg 6 (eOpM 0 [.v 2] f_law_take))
  (sSeq (sAsg 7 (eOpM 0 [.v 1] f_law_pick))
  (sSeq (sIf (tE (eW [6] (g2 pGt (gV 6) (gC (.int 0))))) (sAsg 7 (eOpM 0 [.e (eW [1] (g2 pAdd (gV 1) (gC (.str "0123456789"))))] f_law_pick)) (sNx))
  (sAsg 4 (eW [4, 6, 7, 4, 6] (g2 pAdd (g2 pAdd (gSl (gV 4) none (some (gV 6))) (gV 7)) (gSl (gV 4) (some (g2 pAdd (gV 6) (gC (.int 1)))) none))))))) (sNx))
  (sRet (eM 4)))))))
def f_law_name : Fn := mkFn true 1 8 F_law_name
def F_law_bad_number_word : SF :=
  sSeq (sAsg 2 (eOp [.e (eW [] (gC (.str "-"))), .e (eW [] (gC (.str "-0"))), .e (eW [] (gC (.str "00"))), .e (eW [] (gC (.str "007"))), .e (eW [] (gC (.str "+1"))), .e (eW [] (gC (.str "1a"))), .e (eW [] (gC (.str "--1"))), .e (eW [] (gC (.str "1-"))), .e (eW [] (gC (.str "-01"))), .e (eW [] (gC (.str "0x1"))), .e (eW [] (gC (.str "1_0"))), .e (eW [] (gC (.str "a"))), .e (eW [] (gC (.str "."))), .e (eW [] (gC (.str "#"))), .e (eW [] (gC (.str "1,0")))] hList))
  (sSeq (sAsg 2 (eOp [.v 2, .e (eW [] (gLs [g2 pAdd (gC (.str "1")) (g2 pMulS (gC (.str "0")) (gC (.int 30))), g2 pAdd (gC (.str "-")) (g2 pMulS (gC (.str "9")) (gC (.int 31))), g2 pMulS (gC (.str "1")) (gC (.int 31)), g2 pAdd (gC (.str "0")) (g2 pMulS (gC (.str "1")) (gC (.int 30)))]))] hAdd))
  (sSeq (sIf (tE (eW [1] (gV 1))) (sExpr (eMt isL 2 [.e (eW [] (gC (.str "")))] hAppend)) (sNx))
  (sRet (eOpM 0 [.v 2] f_law_pick))))
def f_law_bad_number_word : Fn := mkFn true 2 3 F_law_bad_number_word
def B_law_sign_word_0 : SF :=
  sAsg 3 (eOp [.v 3, .e (eOpM 0 [.v 2] f_law_pick)] (lift2 pAdd))
def F_law_sign_word : SF :=
  sSeq (sAsg 2 (eOp [] f_law_signs))
  (sSeq (sAsg 3 (eW [] (gC (.str ""))))
  (sSeq (sForS (.n 4) (oRg [.e (eOp [.e (eW [] (gC (.int 1))), .e (eOpM 0 [.v 1] f_law_take)] (lift2 pAdd))]) (B_law_sign_word_0))
  (sRet (eM 3))))
def f_law_sign_word : Fn := mkFn true 2 5 F_law_sign_word
def F_law_bent_text : SF :=
  sSeq (sIf (tE (eOpM 0 [.e (eW [] (gC (.int 16)))] f_law_hit)) (sRet (eOpM 0 [.e (eW [] (gLs [gC (.str ""), gC (.str "\n"), gC (.str " "), gC (.str "\n\n"), gC (.str "a\n\n"), gC (.str " a"), gC (.str "a \nb"), gC (.str "a\n b"), gC (.str "a  b"), gC (.str "\t"), gC (.str "a  \t")]))] f_law_pick)) (sNx))
  (sSeq (sAsg 2 (eOpM 0 [.e (eOp [.e (eW [] (gC (.int 0))), .e (eW [1] (gN bLen [gV 1])), .e (eOpM 0 [.e (eW [1] (g2 pAdd (gN bLen [gV 1]) (gC (.int 1))))] f_law_take), .e (eOpM 0 [.e (eW [1] (g2 pAdd (gN bLen [gV 1]) (gC (.int 1))))] f_law_take)] hList)] f_law_pick))
  (sSeq (sIf (tE (eOpM 0 [.e (eW [] (gC (.int 3)))] f_law_hit)) (sRet (eW [1, 2, 1, 2] (g2 pAdd (gSl (gV 1) none (some (gV 2))) (gSl (gV 1) (some (g2 pAdd (gV 2) (gC (.int 1)))) none)))) (sNx))
  (sRet (eOp [.e (eOp [.e (eW [1, 2] (gSl (gV 1) none (some (gV 2)))), .e (eOpM 0 [.e (eW [] (gLs [gC (.str "\t"), gC (.str " "), gC (.str "\n"), gC (.str "\n\n"), gC (.str "  "), gC (.str "\n "), gC (.str " \n")]))] f_law_pick)] (lift2 pAdd)), .e (eW [1, 2] (gSl (gV 1) (some (gV 2)) none))] (lift2 pAdd)))))
def f_law_bent_text : Fn := mkFn true 2 3 F_law_bent_text
def su_law_ask_0 (a d c : Nat) : SF :=
  sRet (eOp [.e (eW [] (gC (.str "raised"))), .e (eOp [.v 1] (f_law_refusal a d c))] (liftN pTup))
def F_law_ask (t : Z.P) (r : TO) : SF :=
  sTryAs 1 (subOf Anc "Refused") (sRet (eOp [.e (eW [] (gC (.str "gave"))), .e (eTh 0 t r)] (liftN pTup))) su_law_ask_0
def f_law_ask (t : Z.P) (r : TO) : Fn := mkFn false 1 2 (F_law_ask t r)
def F_law_long_words : SF :=
  sSeq (sAsg 1 (eOpM 0 [.e (eW [] (gC (.str "0123456789az")))] f_law_pick))
  (sSeq (sAsg 2 (eOpM 0 [.e (eW [] (gLs [gC (.int 11), gC (.int 12), gC (.int 13), gC (.int 29), gC (.int 30), gC (.int 31), gC (.int 32), gC (.int 4299), gC (.int 4300), gC (.int 4301), gC (.int 4302), gC (.int 20000)]))] f_law_pick))
  (sSeq (sAsg 3 (eW [1, 2] (g2 pMulS (gV 1) (gV 2))))
  (sRet (eW [3, 3, 3, 3, 3, 3, 3] (gLs [gV 3, g2 pAdd (gC (.str "-")) (gSl (gV 3) (some (gC (.int 1))) none), g2 pAdd (gC (.str "7")) (gSl (gV 3) (some (gC (.int 1))) none), g2 pAdd (gC (.str "-1")) (gSl (gV 3) (some (gC (.int 2))) none), g2 pAdd (gC (.str "a")) (gSl (gV 3) (some (gC (.int 1))) none), g2 pAdd (gSl (gV 3) (some (gC (.int 1))) none) (gC (.str "-")), g2 pAdd (gSl (gV 3) (some (gC (.int 1))) none) (gC (.str "A"))])))))
def f_law_long_words : Fn := mkFn true 1 4 F_law_long_words
def F_law_bad_name : SF :=
  sSeq (sAsg 2 (eOpM 0 [] f_law_name))
  (sSeq (sAsg 3 (eOpM 0 [.e (eW [] (gC (.int 6)))] f_law_take))
  (sSeq (sIf (tAnd (tE (eW [3] (g2 pEq (gV 3) (gC (.int 0))))) (tE (eW [1] (gV 1)))) (sRet (eW [] (gC (.str "")))) (sNx))
  (sSeq (sIf (tE (eW [3] (g2 pEq (gV 3) (gC (.int 1))))) (sRet (eOp [.e (eOpM 0 [.e (eW [] (gC (.str "0123456789")))] f_law_pick), .e (eW [2] (gSl (gV 2) none (some (gC (.int 11)))))] (lift2 pAdd))) (sNx))
  (sSeq (sIf (tE (eW [3] (g2 pEq (gV 3) (gC (.int 2))))) (sRet (eW [2] (gSl (g2 pAdd (gV 2) (gC (.str "aaaaaaaaaaaa"))) none (some (gC (.int 13)))))) (sNx))
  (sSeq (sIf (tE (eW [3] (g2 pEq (gV 3) (gC (.int 3))))) (sRet (eW [2] (gMt hUp (gV 2) []))) (sNx))
  (sSeq (sIf (tE (eW [3] (g2 pEq (gV 3) (gC (.int 4))))) (sRet (eOpM 0 [.e (eW [] (gLs [gC (.str "0"), gC (.str "9"), gC (.str "-1"), gC (.str "#"), gC (.str "."), gC (.str "A"), gC (.str "_a"), gC (.str "-")]))] f_law_pick)) (sNx))
  (sSeq (sAsg 4 (eOpM 0 [.e (eW [2] (g2 pAdd (gN bLen [gV 2]) (gC (.int 1))))] f_law_take))
  (sRet (eOp [.e (eOp [.e (eW [2, 4] (gSl (gV 2) none (some (gV 4)))), .e (eOpM 0 [.e (eW [] (gC (.str "AZ_-.,~!")))] f_law_pick)] (lift2 pAdd)), .e (eW [2, 4] (gSl (gV 2) (some (gV 4)) none))] (lift2 pAdd))))))))))
def f_law_bad_name : Fn := mkFn true 2 5 F_law_bad_name
def F_law_number_word : SF :=
  sRet (eOp [.e (eOpM 0 [] f_law_number)] (liftN bStr))
def f_law_number_word : Fn := mkFn true 1 1 F_law_number_word
def B_law_same_0 (self : Fn) : SF :=
  sIf (tNot (tE (eOp [.e (eW [0, 2] (g2 pIx (gV 0) (gV 2))), .e (eW [1, 2] (g2 pIx (gV 1) (gV 2)))] self))) (sRet (eW [] (gC (.bl false)))) (sNx)
def G_law_same (self : Fn) : SF :=
  sSeq (sIf (tE (eW [1] (g2 pIs (gV 1) (gC .non)))) (sRet (eW [0] (g2 pIs (gV 0) (gC .non)))) (sNx))
  (sSeq (sIf (tE (eW [1] (g2 pIs (gV 1) (gC (.bl true))))) (sRet (eW [0] (g2 pIs (gV 0) (gC (.bl true))))) (sNx))
  (sSeq (sIf (tE (eW [1] (g2 pIs (gV 1) (gC (.bl false))))) (sRet (eW [0] (g2 pIs (gV 0) (gC (.bl false))))) (sNx))
  (sSeq (sIf (tE (eW [1] (gN bIsTy [gV 1, gC (.ty "int")]))) (sRet (eAnd (eOp [.v 0] f_law_is_integer) (eW [0, 1] (g2 pEq (gV 0) (gV 1))))) (sNx))
  (sSeq (sIf (tE (eW [1] (gN bIsTy [gV 1, gC (.ty "str")]))) (sRet (eAnd (eW [0] (gN bIsTy [gV 0, gC (.ty "str")])) (eW [0, 1] (g2 pEq (gV 0) (gV 1))))) (sNx))
  (sSeq (sIf (tAnd (tE (eW [1] (gN bIsTy [gV 1, gC (.ty "tuple")]))) (tNot (tE (eW [0] (gN bIsTy [gV 0, gC (.ty "tuple")]))))) (sRet (eW [] (gC (.bl false)))) (sNx))
  (sSeq (sIf (tAnd (tE (eW [1] (gN bIsTy [gV 1, gC (.ty "list")]))) (tNot (tE (eW [0] (gN bIsTy [gV 0, gC (.ty "list")]))))) (sRet (eW [] (gC (.bl false)))) (sNx))
  (sSeq (sIf (tE (eW [0, 1] (g2 pNe (gN bLen [gV 0]) (gN bLen [gV 1])))) (sRet (eW [] (gC (.bl false)))) (sNx))
  (sSeq (sForS (.n 2) (oRg [.e (eW [1] (gN bLen [gV 1]))]) (B_law_same_0 self))
  (sRet (eW [] (gC (.bl true))))))))))))
def r_law_same : Nat → Fn
  | 0 => fun _ => .stuck
  | t + 1 => mkFn false 2 3 (G_law_same (r_law_same t))
def f_law_same : Fn := r_law_same 12
def F_law_holds (t : Z.P) (r : TO) : SF :=
  sSeq (sIf (tE (eW [1] (g2 pIs (gV 1) (gC .non)))) (sRet (eOp [.e (eOp [.v 0] (gTh t (f_law_ask t r))), .e (eW [2] (gTu [gC (.str "gave"), gV 2]))] f_law_same)) (sNx))
  (sRet (eOp [.e (eOp [.v 0] (gTh t (f_law_ask t r))), .e (eW [1] (gTu [gC (.str "raised"), gV 1]))] f_law_same))
def f_law_holds (t : Z.P) (r : TO) : Fn := mkFn false 3 3 (F_law_holds t r)
def F_law_number_holds : SF :=
  sSeq (sIf (tE (eOp [.v 0] f_law_is_number_word)) (sRet (eLam [0] 1 (eOp [.v 0] fread_number) [.e (eW [] (gC .non)), .e (eOp [.v 0] f_law_value)] (fun r ds => f_law_holds .non r (.p .non :: ds)))) (sNx))
  (sRet (eLam [0] 1 (eOp [.v 0] fread_number) [.e (eW [] (gTu [gC (.str "Malformed"), gC (.str "number")])), .e (eW [] (gC .non))] (fun r ds => f_law_holds .non r (.p .non :: ds))))
def f_law_number_holds : Fn := mkFn false 1 1 F_law_number_holds
def F_law_name_holds : SF :=
  sSeq (sIf (tE (eOp [.v 0] f_law_is_name)) (sRet (eLam [0] 1 (eOp [.v 0] fread_name) [.e (eW [] (gC .non)), .v 0] (fun r ds => f_law_holds .non r (.p .non :: ds)))) (sNx))
  (sRet (eLam [0] 1 (eOp [.v 0] fread_name) [.e (eW [] (gTu [gC (.str "Malformed"), gC (.str "name")])), .e (eW [] (gC .non))] (fun r ds => f_law_holds .non r (.p .non :: ds))))
def f_law_name_holds : Fn := mkFn false 1 1 F_law_name_holds
def Blaw_0 : SF :=
  sSeq (sExpr (eMt isL 3 [.e (eOpM 1 [.e (eW [2, 4] (g2 pIx (gV 2) (gV 4)))] f_law_bent_text)] hAppend))
  (sSeq (sExpr (eMt isL 3 [.e (eOpM 1 [.e (eW [] (gC (.bl true)))] f_law_bad_number_word)] hAppend))
  (sSeq (sExpr (eMt isL 3 [.e (eOpM 1 [.e (eW [] (gC (.bl true)))] f_law_bad_name)] hAppend))
  (sExpr (eMt isL 3 [.e (eOpM 1 [.e (eW [] (gC (.int 14)))] f_law_sign_word)] hAppend))))
def Blaw_1 : SF :=
  sIf (tOr (tNot (tE (eOp [.v 5] f_law_number_holds))) (tNot (tE (eOp [.v 5] f_law_name_holds)))) (sRet (eW [] (gC (.bl false)))) (sNx)
def Flaw : SF :=
  sSeq (sAsg 1 (eOp [.v 0] f_law_store))
  (sSeq (sAsg 2 (eOp [.e (eOpM 1 [] f_law_number_word), .e (eOpM 1 [] f_law_name), .e (eOpM 1 [] f_law_number_word), .e (eOpM 1 [] f_law_name)] hList))
  (sSeq (sAsg 3 (eOp [.v 2] hListOf))
  (sSeq (sForS (.n 4) (oRg [.e (eW [] (gC (.int 4)))]) (Blaw_0))
  (sSeq (sAsg 3 (eOp [.e (eOp [.v 3, .e (eOpM 1 [.e (eW [2] (g2 pIx (gV 2) (gC (.int 0))))] f_law_near_words)] (lift2 pAdd)), .e (eOpM 1 [.e (eW [2] (g2 pIx (gV 2) (gC (.int 1))))] f_law_near_words)] hAdd))
  (sSeq (sIf (tE (eOpM 1 [.e (eW [] (gC (.int 8)))] f_law_hit)) (sAsg 3 (eOp [.v 3, .e (eOpM 1 [] f_law_long_words)] hAdd)) (sNx))
  (sSeq (sForS (.n 5) (oSeq (eW [3, 2] (g2 pAdd (g2 pAdd (gLs [gC (.str "")]) (gV 3)) (gV 2)))) (Blaw_1))
  (sRet (eW [] (gC (.bl true))))))))))
def flaw : Fn := mkFn false 1 6 Flaw
end
end Z
set_option Elab.async false
set_option linter.all false
set_option maxRecDepth 100000
set_option maxHeartbeats 0
namespace Z
open PySem PySem.Spec PyProof.Rows L2
def hfn0 : List He.DefD := [dD "is_digit" (top 21), dD "is_letter" (top 22), dD "has_digits" (top 23), dD "read_number" (top 24), dD "is_name" (top 25), dD "read_name" (top 26), dD "_law_store" (top 28), dD "_law_mix" (top 29), dD "_law_mixed" (top 30), dD "_law_take" (top 31), dD "_law_hit" (top 32), dD "_law_pick" (top 33), dD "_law_span" (top 34), dD "_law_power" (top 35), dD "_law_is_integer" (top 36), dD "_law_same" (top 37), dD "_law_number" (top 38), dD "_law_is_name" (top 39), dD "_law_name" (top 40), dD "_law_bad_name" (top 41), dD "_law_is_number_word" (top 42), dD "_law_number_word" (top 43), dD "_law_bad_number_word" (top 44), dD "_law_signs" (top 45), dD "_law_sign_word" (top 46), dD "_law_bent_text" (top 47), dD "_law_refusal" (top 48), dD "_law_ask" (top 49), dD "_law_holds" (top 50), dD "_law_value" (top 51)]
def hfn1 : List He.DefD := [dD "_law_number_holds" (top 52), dD "_law_name_holds" (top 53), dD "_law_near_words" (top 54), dD "_law_long_words" (top 55), dD "law" (top 56), dI "Malformed" "Malformed.__init__" (top 3)]
def hfn : List He.DefD := hfn0 ++ hfn1
def hfa0 : List He.Fa := [.glo "is_digit", .glo "is_letter", .glo "has_digits", .glo "read_number", .glo "is_name", .glo "read_name", .glo "_law_store", .glo "_law_mix", .glo "_law_mixed", .glo "_law_take", .glo "_law_hit", .glo "_law_pick", .glo "_law_span", .glo "_law_power", .glo "_law_is_integer", .glo "_law_same", .glo "_law_number", .glo "_law_is_name", .glo "_law_name", .glo "_law_bad_name", .glo "_law_is_number_word", .glo "_law_number_word", .glo "_law_bad_number_word", .glo "_law_signs", .glo "_law_sign_word", .glo "_law_bent_text", .glo "_law_refusal", .glo "_law_ask", .glo "_law_holds", .glo "_law_value", .glo "_law_number_holds", .glo "_law_name_holds", .glo "_law_near_words", .glo "_law_long_words", .glo "law", .glo "Refused", .glo "BadText", .glo "Malformed", .glo "BadOrder", .glo "Unknown"]
def hfa1 : List He.Fa := [.glo "Empty", .glo "BadSize", .glo "BadCell", .glo "BadMove", .glo "BadPrice", .glo "Doubled", .glo "BadWalk", .glo "Free", .glo "TooMany", .glo "NotFan", .glo "NotYes", .glo "Stuck", .noat "Malformed" "what", .free "ValueError", .free "abs", .free "all", .free "bool", .free "int", .free "isinstance", .free "len", .free "list", .free "range", .free "str", .free "sum", .free "tuple"]
def hfa : List He.Fa := hfa0 ++ hfa1
def hts : List He.Tab := []
def hxs : List XF := [.all fun K => tabB K Anc, .all fun K => fldB K FldT, .oex "Malformed", .ini "Malformed", .val "MOST_DIGITS" (.int 30), .val "MOST_LETTERS" (.int 12), .cod "_law_number_holds" 543, .cod "_law_name_holds" 550]
def hads0 : List Addr := [3, 6, 4, 24, 44, 63, 82, 101, 120, 139, 158, 177, 196, 215, 234, 253, 272, 291, 310, 329, 338, 345, 350, 357, 362, 369, 376, 383, 390, 397, 404, 411, 418, 425, 432, 439, 446, 453, 460, 467]
def hads1 : List Addr := [474, 481, 488, 495, 502, 509, 516, 523, 530, 537, 544, 551, 558, 565, 572, 0, 23, 43, 62, 81, 100, 119, 138, 157, 176, 195, 214, 233, 252, 271, 290, 309, 328, 337, 344, 349, 356, 361, 368, 375]
def hads2 : List Addr := [382, 389, 396, 403, 410, 417, 424, 431, 438, 445, 452, 459, 466, 473, 480, 487, 494, 501, 508, 515, 522, 529, 536, 543, 550, 557, 564, 571, 22, 25, 41, 42, 60, 61, 79, 80, 98, 99, 117, 118]
def hads3 : List Addr := [136, 137, 155, 156, 174, 175, 193, 194, 212, 213, 231, 232, 250, 251, 269, 270, 288, 289, 307, 308, 326, 327, 332, 333, 334, 335, 336, 339, 340, 341, 342, 343, 346, 347, 348, 351, 352, 353, 354, 355]
def hads4 : List Addr := [358, 359, 360, 363, 364, 365, 366, 367, 370, 371, 372, 373, 374, 377, 378, 379, 380, 381, 384, 385, 386, 387, 388, 391, 392, 393, 394, 395, 398, 399, 400, 401, 402, 405, 406, 407, 408, 409, 412, 413]
def hads5 : List Addr := [414, 415, 416, 419, 420, 421, 422, 423, 426, 427, 428, 429, 430, 433, 434, 435, 436, 437, 440, 441, 442, 443, 444, 447, 448, 449, 450, 451, 454, 455, 456, 457, 458, 461, 462, 463, 464, 465, 468, 469]
def hads6 : List Addr := [470, 471, 472, 475, 476, 477, 478, 479, 482, 483, 484, 485, 486, 489, 490, 491, 492, 493, 496, 497, 498, 499, 500, 503, 504, 505, 506, 507, 510, 511, 512, 513, 514, 517, 518, 519, 520, 521, 524, 525]
def hads7 : List Addr := [526, 527, 528, 531, 532, 533, 534, 535, 538, 540, 541, 542, 545, 547, 548, 549, 552, 553, 554, 555, 556, 559, 560, 561, 562, 563, 566, 567, 568, 569, 570, 40, 59, 78, 97, 116, 135, 154, 173, 192]
def hads8 : List Addr := [211, 230, 249, 268, 287, 306, 325]
def hads : List Addr := hads0 ++ hads1 ++ hads2 ++ hads3 ++ hads4 ++ hads5 ++ hads6 ++ hads7 ++ hads8
def hcs : List (Addr × Addr) := [(543, 539), (550, 546)]
def hlo0 : List Str := ["__name__", "Refused", "BadText", "Malformed", "BadOrder", "Unknown", "Empty", "BadSize", "BadCell", "BadMove", "BadPrice", "Doubled", "BadWalk", "Free", "TooMany", "NotFan", "NotYes", "Stuck", "MOST_DIGITS", "MOST_LETTERS", "is_digit", "is_letter", "has_digits", "read_number", "is_name", "read_name", "_law_store", "_law_mix", "_law_mixed", "_law_take"]
def hlo1 : List Str := ["_law_hit", "_law_pick", "_law_span", "_law_power", "_law_is_integer", "_law_same", "_law_number", "_law_is_name", "_law_name", "_law_bad_name", "_law_is_number_word", "_law_number_word", "_law_bad_number_word", "_law_signs", "_law_sign_word", "_law_bent_text", "_law_refusal", "_law_ask", "_law_holds", "_law_value", "_law_number_holds", "_law_name_holds", "_law_near_words", "_law_long_words"]
def hlo : List Str := hlo0 ++ hlo1
abbrev hR : PySem.W.OpenRow := PySem.W.OpenLaw.row PySem.Challenge.rw_twosweeps_k01_numbers_and_names
abbrev hk : PySem.W.Hook := hookZ hfa hfn hts hxs hcs hads
def hob (s : PySem.W.SharedT) : AlZ := obsZ hfa hfn hts hxs hcs hads (HandSHeadRun.getT s)
theorem hob_eq (s : PySem.W.SharedT) : hob s = hk.obs s.abs := obsZ_eq hfa hfn hts hxs hcs (HandSHeadRun.getT_eq s)
theorem hrun (w : World) : HandSHeadRun.RunEq hR (PySem.W.view hR.prog [56]) hk hob 20000 hlo w := by
  intro os
  kernel_rfl
theorem LamT_in : ∀ p ∈ LamT, ∃ c, (c, p.1) ∈ hcs := by
  intro p hp
  simp only [LamT, hcs, List.mem_cons, List.not_mem_nil, or_false, Prod.mk.injEq] at hp ⊢
  rcases hp with rfl | rfl <;> simp
end Z
set_option Elab.async false
set_option linter.all false
set_option maxRecDepth 100000
set_option maxHeartbeats 1000000
namespace Z
open PySem L2
section
variable {P : Program} {w : World} {K : PySem.W.Frag} {mg : Str → Option Value} {base : Heap}
theorem ok_law_refusal (D : Dt K mg "_law_refusal" (top 48)) (b_ValueError : mg "ValueError" = none) (b_isinstance : mg "isinstance" = none) (b_sum : mg "sum" = none) (t_BadCell : GT K mg "BadCell" (.cls "BadCell")) (t_BadMove : GT K mg "BadMove" (.cls "BadMove")) (t_BadOrder : GT K mg "BadOrder" (.cls "BadOrder")) (t_BadPrice : GT K mg "BadPrice" (.cls "BadPrice")) (t_BadSize : GT K mg "BadSize" (.cls "BadSize")) (t_BadText : GT K mg "BadText" (.cls "BadText")) (t_BadWalk : GT K mg "BadWalk" (.cls "BadWalk")) (t_Doubled : GT K mg "Doubled" (.cls "Doubled")) (t_Empty : GT K mg "Empty" (.cls "Empty")) (t_Free : GT K mg "Free" (.cls "Free")) (t_Malformed : GT K mg "Malformed" (.cls "Malformed")) (t_NotFan : GT K mg "NotFan" (.cls "NotFan")) (t_NotYes : GT K mg "NotYes" (.cls "NotYes")) (t_Stuck : GT K mg "Stuck" (.cls "Stuck")) (t_TooMany : GT K mg "TooMany" (.cls "TooMany")) (t_Unknown : GT K mg "Unknown" (.cls "Unknown")) (isa : IsTab K mg Tab) (xf : XfTab K mg Fld) : OkE P w K mg base "_law_refusal" 1 1 f_law_refusal := by
  have S0 : FnScope ["error", "flags"] ["error"] (defScope (top 48)) := C8.fnScope_by (by decide +kernel)
  refine oke D S0 rfl rfl (fun _ _ _ _ _ _ us hl => match us, hl with | [_], _ => rfl) fun a d c f cdv A outer sh H E oe C => ?_
  have S := S0.nd
  exact (jss_cons (st S 1 (je_w (jf_lst (jfs_cons (fB (cv_isE C isa) b_isinstance (jfs_cons (nv 0) (jfs_cons (fTy b_ValueError) jfs_nil))) jfs_nil))))
    (jss_cons (st S 1 (je_w (jf_bin ov_add (nv 1) (jf_lst (jfs_cons (fB (cv_isE C isa) b_isinstance (jfs_cons (nv 0) (jfs_cons (gT t_BadText) jfs_nil))) (jfs_cons (fB (cv_isE C isa) b_isinstance (jfs_cons (nv 0) (jfs_cons (gT t_Malformed) jfs_nil))) (jfs_cons (fB (cv_isE C isa) b_isinstance (jfs_cons (nv 0) (jfs_cons (gT t_BadOrder) jfs_nil))) jfs_nil)))))))
    (jss_cons (st S 1 (je_w (jf_bin ov_add (nv 1) (jf_lst (jfs_cons (fB (cv_isE C isa) b_isinstance (jfs_cons (nv 0) (jfs_cons (gT t_Unknown) jfs_nil))) (jfs_cons (fB (cv_isE C isa) b_isinstance (jfs_cons (nv 0) (jfs_cons (gT t_Empty) jfs_nil))) (jfs_cons (fB (cv_isE C isa) b_isinstance (jfs_cons (nv 0) (jfs_cons (gT t_BadSize) jfs_nil))) jfs_nil)))))))
    (jss_cons (st S 1 (je_w (jf_bin ov_add (nv 1) (jf_lst (jfs_cons (fB (cv_isE C isa) b_isinstance (jfs_cons (nv 0) (jfs_cons (gT t_BadCell) jfs_nil))) (jfs_cons (fB (cv_isE C isa) b_isinstance (jfs_cons (nv 0) (jfs_cons (gT t_BadMove) jfs_nil))) (jfs_cons (fB (cv_isE C isa) b_isinstance (jfs_cons (nv 0) (jfs_cons (gT t_BadPrice) jfs_nil))) jfs_nil)))))))
    (jss_cons (st S 1 (je_w (jf_bin ov_add (nv 1) (jf_lst (jfs_cons (fB (cv_isE C isa) b_isinstance (jfs_cons (nv 0) (jfs_cons (gT t_Doubled) jfs_nil))) (jfs_cons (fB (cv_isE C isa) b_isinstance (jfs_cons (nv 0) (jfs_cons (gT t_BadWalk) jfs_nil))) (jfs_cons (fB (cv_isE C isa) b_isinstance (jfs_cons (nv 0) (jfs_cons (gT t_Free) jfs_nil))) jfs_nil)))))))
    (jss_cons (st S 1 (je_w (jf_bin ov_add (nv 1) (jf_lst (jfs_cons (fB (cv_isE C isa) b_isinstance (jfs_cons (nv 0) (jfs_cons (gT t_TooMany) jfs_nil))) (jfs_cons (fB (cv_isE C isa) b_isinstance (jfs_cons (nv 0) (jfs_cons (gT t_NotFan) jfs_nil))) (jfs_cons (fB (cv_isE C isa) b_isinstance (jfs_cons (nv 0) (jfs_cons (gT t_NotYes) jfs_nil))) jfs_nil)))))))
    (jss_cons (st S 1 (je_w (jf_bin ov_add (nv 1) (jf_lst (jfs_cons (fB (cv_isE C isa) b_isinstance (jfs_cons (nv 0) (jfs_cons (gT t_Stuck) jfs_nil))) jfs_nil)))))
    (jss_cons (js_if (jt_w (jw_or (tC2 ov_isnot bl_isn (jf_ix C.ru (nv 1) jf_int) jf_bl) (jw_or1 (tC2 (ov_ne C.ru) bl_ne (fB (cv_sumH C) b_sum (jfs_cons (nv 1) jfs_nil)) jf_int)))) (jss_one (js_ret (je_w (jf_tup (jfs_cons jf_str jfs_nil))))) jss_nil)
    (jss_cons (js_if (tV (je_w (fB (cv_isE C isa) b_isinstance (jfs_cons (nv 0) (jfs_cons (gT t_Malformed) jfs_nil))))) (jss_one (js_ret (je_w (jf_tup (jfs_cons jf_str (jfs_cons (jf_xf C xf (nv 0)) jfs_nil)))))) jss_nil)
    (jss_one (js_ret (je_w (jf_tup (jfs_cons jf_str jfs_nil))))))))))))))
theorem ok_law_near_words (D : Dt K mg "_law_near_words" (top 54)) (c_law_signs : OkF P w K mg base "_law_signs" 0 1 false f_law_signs) (c_law_take : OkF P w K mg base "_law_take" 2 3 true f_law_take) (b_len : mg "len" = none) : OkF P w K mg base "_law_near_words" 2 4 true f_law_near_words := by
  have S0 : FnScope ["store", "word", "short", "at", "words", "sign"] ["store", "word"] (defScope (top 54)) := C8.fnScope_by (by decide +kernel)
  refine okf D S0 rfl rfl (by decide) (fun _ _ _ _ _ _ us hl => match us, hl with | [_, _], _ => rfl) fun f cdv A outer sh H E C => ?_
  have S := S0.nd
  exact (jss_cons (st S 2 (je_w (jf_sl (nv 1) jo_none (jo_some jf_int))))
    (jss_cons (st S 3 (kM C c_law_take (pv' 0) (jas_cons (ja_e (je_w (jf_bin ov_add (fB cv_len b_len (jfs_cons (nv 2) jfs_nil)) jf_int))) jas_nil)))
    (jss_cons (st S 4 (je_lst jas_nil))
    (jss_cons (js_forS C (ji_seq (eBin ov_add (ja_e (k0 C c_law_signs)) (ja_e (je_w jf_str)))) (pn S 5) (jss_one (js_expr (je_mt PySem.F.slot_list_append PySem.F.type_list_append mz_append (pv' 4) (jas_cons (ja_e (je_w (jf_bin ov_add (jf_bin ov_add (jf_sl (nv 2) jo_none (jo_some (nv 3))) (nv 5)) (jf_sl (nv 2) (jo_some (nv 3)) jo_none)))) jas_nil) rfl))))
    (jss_one (js_ret (mv 4)))))))
theorem ok_law_holds (D : Dt K mg "_law_holds" (top 50)) (c_law_same : OkF P w K mg base "_law_same" 2 14 false f_law_same) (c_law_ask : OkT P w K mg base 4 "_law_ask" 1 5 f_law_ask) : OkT P w K mg base 4 "_law_holds" 3 15 f_law_holds := by
  have S0 : FnScope ["question", "due", "answer"] ["question", "due", "answer"] (defScope (top 50)) := C8.fnScope_by (by decide +kernel)
  refine okT D S0 rfl rfl (fun _ _ _ _ _ _ us hl => match us, hl with | [_, _, _], _ => rfl) fun tf tc tq tus txs tr g cdv A outer sh H E C T => ?_
  have S := S0.nd
  exact (jss_cons (js_if (tC2 ov_is bl_is (nv 1) jf_non) (jss_one (js_ret (kO C c_law_same (jas_cons (ja_e (kTc C c_law_ask T (jas_cons (av 0) jas_nil))) (jas_cons (ja_e (je_w (jf_tup (jfs_cons jf_str (jfs_cons (nv 2) jfs_nil))))) jas_nil))))) jss_nil)
    (jss_one (js_ret (kO C c_law_same (jas_cons (ja_e (kTc C c_law_ask T (jas_cons (av 0) jas_nil))) (jas_cons (ja_e (je_w (jf_tup (jfs_cons jf_str (jfs_cons (nv 1) jfs_nil))))) jas_nil))))))
theorem ok_law_hit (D : Dt K mg "_law_hit" (top 32)) (c_law_take : OkF P w K mg base "_law_take" 2 3 true f_law_take) : OkF P w K mg base "_law_hit" 2 4 true f_law_hit := by
  have S0 : FnScope ["store", "many"] ["store", "many"] (defScope (top 32)) := C8.fnScope_by (by decide +kernel)
  refine okf D S0 rfl rfl (by decide) (fun _ _ _ _ _ _ us hl => match us, hl with | [_, _], _ => rfl) fun f cdv A outer sh H E C => ?_
  have S := S0.nd
  exact (jss_one (js_ret (eC2 (ov_eq C.ru) (ja_e (kM C c_law_take (pv' 0) (jas_cons (av 1) jas_nil))) (ja_e (je_w jf_int)))))
end
end Z
set_option Elab.async false
set_option linter.all false
set_option maxRecDepth 100000
set_option maxHeartbeats 1000000
namespace Z
open PySem L2
section
variable {P : Program} {w : World} {K : PySem.W.Frag} {mg : Str → Option Value} {base : Heap}
theorem oklaw {fL : Addr} {fdL : FuncData} (D : FunD K "law" "law" (defArgs (top 56)) (defBody (top 56)) (defScope (top 56)) [] [] fL fdL) (c_law_bad_name : OkF P w K mg base "_law_bad_name" 2 6 true f_law_bad_name) (c_law_bad_number_word : OkF P w K mg base "_law_bad_number_word" 2 5 true f_law_bad_number_word) (c_law_bent_text : OkF P w K mg base "_law_bent_text" 2 5 true f_law_bent_text) (c_law_hit : OkF P w K mg base "_law_hit" 2 4 true f_law_hit) (c_law_long_words : OkF P w K mg base "_law_long_words" 1 5 true f_law_long_words) (c_law_name : OkF P w K mg base "_law_name" 1 5 true f_law_name) (c_law_name_holds : OkF P w K mg base "_law_name_holds" 1 16 false f_law_name_holds) (c_law_near_words : OkF P w K mg base "_law_near_words" 2 4 true f_law_near_words) (c_law_number_holds : OkF P w K mg base "_law_number_holds" 1 16 false f_law_number_holds) (c_law_number_word : OkF P w K mg base "_law_number_word" 1 6 true f_law_number_word) (c_law_sign_word : OkF P w K mg base "_law_sign_word" 2 5 true f_law_sign_word) (c_law_store : OkF P w K mg base "_law_store" 1 1 false f_law_store) (b_list : mg "list" = none) (b_range : mg "range" = none) : FnOk P w K mg base (L2N.CX P w) 17 fL fdL ["script"] (Sat K mg false 1 flaw) := by
  have S0 : FnScope ["script", "store", "good", "words", "k", "word"] ["script"] (defScope (top 56)) := C8.fnScope_by (by decide +kernel)
  refine okfA D S0 rfl rfl (by decide) fun f cdv A outer sh H E C => ?_
  have S := S0.nd
  exact (jss_cons (st S 1 (kO C c_law_store (jas_cons (av 0) jas_nil)))
    (jss_cons (st S 2 (je_lst (jas_cons (ja_e (kM C c_law_number_word (pv' 1) jas_nil)) (jas_cons (ja_e (kM C c_law_name (pv' 1) jas_nil)) (jas_cons (ja_e (kM C c_law_number_word (pv' 1) jas_nil)) (jas_cons (ja_e (kM C c_law_name (pv' 1) jas_nil)) jas_nil))))))
    (jss_cons (st S 3 (eT cz_list b_list (jas_cons (av 2) jas_nil)))
    (jss_cons (js_forS C (sr1 b_range (jas_cons (ja_e (je_w jf_int)) jas_nil)) (pn S 4) (jss_cons (js_expr (je_mt PySem.F.slot_list_append PySem.F.type_list_append mz_append (pv' 3) (jas_cons (ja_e (kM C c_law_bent_text (pv' 1) (jas_cons (ja_e (je_w (jf_ix C.ru (nv 2) (nv 4)))) jas_nil))) jas_nil) rfl))
    (jss_cons (js_expr (je_mt PySem.F.slot_list_append PySem.F.type_list_append mz_append (pv' 3) (jas_cons (ja_e (kM C c_law_bad_number_word (pv' 1) (jas_cons (ja_e (je_w jf_bl)) jas_nil))) jas_nil) rfl))
    (jss_cons (js_expr (je_mt PySem.F.slot_list_append PySem.F.type_list_append mz_append (pv' 3) (jas_cons (ja_e (kM C c_law_bad_name (pv' 1) (jas_cons (ja_e (je_w jf_bl)) jas_nil))) jas_nil) rfl))
    (jss_one (js_expr (je_mt PySem.F.slot_list_append PySem.F.type_list_append mz_append (pv' 3) (jas_cons (ja_e (kM C c_law_sign_word (pv' 1) (jas_cons (ja_e (je_w jf_int)) jas_nil))) jas_nil) rfl)))))))
    (jss_cons (st S 3 (je_bin oz_add (ja_e (eBin ov_add (av 3) (ja_e (kM C c_law_near_words (pv' 1) (jas_cons (ja_e (je_w (jf_ix C.ru (nv 2) jf_int))) jas_nil))))) (ja_e (kM C c_law_near_words (pv' 1) (jas_cons (ja_e (je_w (jf_ix C.ru (nv 2) jf_int))) jas_nil)))))
    (jss_cons (js_if (tV (kM C c_law_hit (pv' 1) (jas_cons (ja_e (je_w jf_int)) jas_nil))) (jss_one (st S 3 (je_bin oz_add (av 3) (ja_e (kM C c_law_long_words (pv' 1) jas_nil))))) jss_nil)
    (jss_cons (js_forS C (ji_seq (je_w (jf_bin ov_add (jf_bin ov_add (jf_lst (jfs_cons jf_str jfs_nil)) (nv 3)) (nv 2)))) (pn S 5) (jss_one (js_if (jt_w (jw_or (jt_not (tV (kO C c_law_number_holds (jas_cons (av 5) jas_nil)))) (jw_or1 (jt_not (tV (kO C c_law_name_holds (jas_cons (av 5) jas_nil))))))) (jss_one (js_ret (je_w jf_bl))) jss_nil)))
    (jss_one (js_ret (je_w jf_bl))))))))))
theorem ok_law_mixed (D : Dt K mg "_law_mixed" (top 30)) (c_law_mix : OkF P w K mg base "_law_mix" 2 1 false f_law_mix) (b_int : mg "int" = none) (b_range : mg "range" = none) : OkF P w K mg base "_law_mixed" 3 2 false f_law_mixed := by
  have S0 : FnScope ["number", "turn", "many", "total", "bound", "k"] ["number", "turn", "many"] (defScope (top 30)) := C8.fnScope_by (by decide +kernel)
  refine okf D S0 rfl rfl (by decide) (fun _ _ _ _ _ _ us hl => match us, hl with | [_, _, _], _ => rfl) fun f cdv A outer sh H E C => ?_
  have S := S0.nd
  exact (jss_cons (st S 3 (je_w jf_int))
    (jss_cons (st S 4 (je_w jf_int))
    (jss_cons (js_forS C (sr1 b_range (jas_cons (ja_e (je_w jf_int)) jas_nil)) (pn S 5) (jss_cons (js_if (tC2 (ov_ge C.ru) bl_ge (nv 4) (nv 2)) (jss_one js_break) jss_nil)
    (jss_cons (st S 3 (eBin ov_add (ja_e (je_w (jf_bin ov_mul (nv 3) jf_int))) (ja_e (eBin ov_mod (ja_e (eT (callz_of cv_int) b_int (jas_cons (ja_e (kO C c_law_mix (jas_cons (av 0) (jas_cons (ja_e (je_w (jf_bin ov_add (jf_bin ov_mul (nv 1) jf_int) (nv 5)))) jas_nil)))) jas_nil))) (ja_e (je_w jf_int))))))
    (jss_one (st S 4 (je_w (jf_bin ov_mul (nv 4) jf_int)))))))
    (jss_one (js_ret (je_w (jf_bin ov_mod (fT cv_int b_int (jfs_cons (nv 3) jfs_nil)) (nv 2))))))))
theorem ok_law_sign_word (D : Dt K mg "_law_sign_word" (top 46)) (c_law_pick : OkF P w K mg base "_law_pick" 2 4 true f_law_pick) (c_law_signs : OkF P w K mg base "_law_signs" 0 1 false f_law_signs) (c_law_take : OkF P w K mg base "_law_take" 2 3 true f_law_take) (b_range : mg "range" = none) : OkF P w K mg base "_law_sign_word" 2 5 true f_law_sign_word := by
  have S0 : FnScope ["store", "most", "signs", "word", "k"] ["store", "most"] (defScope (top 46)) := C8.fnScope_by (by decide +kernel)
  refine okf D S0 rfl rfl (by decide) (fun _ _ _ _ _ _ us hl => match us, hl with | [_, _], _ => rfl) fun f cdv A outer sh H E C => ?_
  have S := S0.nd
  exact (jss_cons (st S 2 (k0 C c_law_signs))
    (jss_cons (st S 3 (je_w jf_str))
    (jss_cons (js_forS C (sr1 b_range (jas_cons (ja_e (eBin ov_add (ja_e (je_w jf_int)) (ja_e (kM C c_law_take (pv' 0) (jas_cons (av 1) jas_nil))))) jas_nil)) (pn S 4) (jss_one (st S 3 (eBin ov_add (av 3) (ja_e (kM C c_law_pick (pv' 0) (jas_cons (av 2) jas_nil)))))))
    (jss_one (js_ret (mv 3))))))
theorem ok_law_number_word (D : Dt K mg "_law_number_word" (top 43)) (c_law_number : OkF P w K mg base "_law_number" 1 5 true f_law_number) (b_str : mg "str" = none) : OkF P w K mg base "_law_number_word" 1 6 true f_law_number_word := by
  have S0 : FnScope ["store"] ["store"] (defScope (top 43)) := C8.fnScope_by (by decide +kernel)
  refine okf D S0 rfl rfl (by decide) (fun _ _ _ _ _ _ us hl => match us, hl with | [_], _ => rfl) fun f cdv A outer sh H E C => ?_
  have S := S0.nd
  exact (jss_one (js_ret (eT (callz_of cv_str) b_str (jas_cons (ja_e (kM C c_law_number (pv' 0) jas_nil)) jas_nil))))
end
end Z
set_option Elab.async false
set_option linter.all false
set_option maxRecDepth 100000
set_option maxHeartbeats 1000000
namespace Z
open PySem L2
section
variable {P : Program} {w : World} {K : PySem.W.Frag} {mg : Str → Option Value} {base : Heap}
theorem ok__law_same (D : Dt K mg "_law_same" (top 37)) (c_law_is_integer : OkF P w K mg base "_law_is_integer" 1 1 false f_law_is_integer) (b_int : mg "int" = none) (b_isinstance : mg "isinstance" = none) (b_len : mg "len" = none) (b_list : mg "list" = none) (b_range : mg "range" = none) (b_str : mg "str" = none) (b_tuple : mg "tuple" = none) : ∀ t : Nat, OkF P w K mg base "_law_same" 2 (2 + t) false (r_law_same t) := by
  have S0 : FnScope ["actual", "expected", "k"] ["actual", "expected"] (defScope (top 37)) := C8.fnScope_by (by decide +kernel)
  intro t
  induction t with
  | zero => exact okf0 D S0 rfl (fun _ _ _ _ _ _ us hl => match us, hl with | [_, _], _ => rfl)
  | succ t ih =>
    refine okf (k := 2 + t) D S0 rfl rfl (by decide) (fun _ _ _ _ _ _ us hl => match us, hl with | [_, _], _ => rfl) fun f cdv A outer sh H E C => ?_
    have S := S0.nd
    have hs := ih
    exact (jss_cons (js_if (tC2 ov_is bl_is (nv 1) jf_non) (jss_one (js_ret (je_w (fC2 ov_is (nv 0) jf_non)))) jss_nil)
    (jss_cons (js_if (tC2 ov_is bl_is (nv 1) jf_bl) (jss_one (js_ret (je_w (fC2 ov_is (nv 0) jf_bl)))) jss_nil)
    (jss_cons (js_if (tC2 ov_is bl_is (nv 1) jf_bl) (jss_one (js_ret (je_w (fC2 ov_is (nv 0) jf_bl)))) jss_nil)
    (jss_cons (js_if (tV (je_w (fB cv_isi b_isinstance (jfs_cons (nv 1) (jfs_cons (fTy b_int) jfs_nil))))) (jss_one (js_ret (je_and (kO C c_law_is_integer (jas_cons (av 0) jas_nil)) (je_one (je_w (fC2 (ov_eq C.ru) (nv 0) (nv 1))))))) jss_nil)
    (jss_cons (js_if (tV (je_w (fB cv_isi b_isinstance (jfs_cons (nv 1) (jfs_cons (fTy b_str) jfs_nil))))) (jss_one (js_ret (je_and (je_w (fB cv_isi b_isinstance (jfs_cons (nv 0) (jfs_cons (fTy b_str) jfs_nil)))) (je_one (je_w (fC2 (ov_eq C.ru) (nv 0) (nv 1))))))) jss_nil)
    (jss_cons (js_if (jt_w (jw_and (tV (je_w (fB cv_isi b_isinstance (jfs_cons (nv 1) (jfs_cons (fTy b_tuple) jfs_nil))))) (jw_and1 (jt_not (tV (je_w (fB cv_isi b_isinstance (jfs_cons (nv 0) (jfs_cons (fTy b_tuple) jfs_nil))))))))) (jss_one (js_ret (je_w jf_bl))) jss_nil)
    (jss_cons (js_if (jt_w (jw_and (tV (je_w (fB cv_isi b_isinstance (jfs_cons (nv 1) (jfs_cons (fTy b_list) jfs_nil))))) (jw_and1 (jt_not (tV (je_w (fB cv_isi b_isinstance (jfs_cons (nv 0) (jfs_cons (fTy b_list) jfs_nil))))))))) (jss_one (js_ret (je_w jf_bl))) jss_nil)
    (jss_cons (js_if (tC2 (ov_ne C.ru) bl_ne (fB cv_len b_len (jfs_cons (nv 0) jfs_nil)) (fB cv_len b_len (jfs_cons (nv 1) jfs_nil))) (jss_one (js_ret (je_w jf_bl))) jss_nil)
    (jss_cons (js_forS C (sr1 b_range (jas_cons (ja_e (je_w (fB cv_len b_len (jfs_cons (nv 1) jfs_nil)))) jas_nil)) (pn S 2) (jss_one (js_if (jt_not (tV (kO C hs (jas_cons (ja_e (je_w (jf_ix C.ru (nv 0) (nv 2)))) (jas_cons (ja_e (je_w (jf_ix C.ru (nv 1) (nv 2)))) jas_nil))))) (jss_one (js_ret (je_w jf_bl))) jss_nil)))
    (jss_one (js_ret (je_w jf_bl))))))))))))
theorem ok_law_same (D : Dt K mg "_law_same" (top 37)) (c_law_is_integer : OkF P w K mg base "_law_is_integer" 1 1 false f_law_is_integer) (b_int : mg "int" = none) (b_isinstance : mg "isinstance" = none) (b_len : mg "len" = none) (b_list : mg "list" = none) (b_range : mg "range" = none) (b_str : mg "str" = none) (b_tuple : mg "tuple" = none) : OkF P w K mg base "_law_same" 2 14 false f_law_same := ok__law_same D c_law_is_integer b_int b_isinstance b_len b_list b_range b_str b_tuple 12
theorem okis_name (D : Dt K mg "is_name" (top 25)) (cis_digit : OkF P w K mg base "is_digit" 1 1 false fis_digit) (cis_letter : OkF P w K mg base "is_letter" 1 1 false fis_letter) (b_all : mg "all" = none) (b_len : mg "len" = none) (g_MOST_LETTERS : GT K mg "MOST_LETTERS" (.int 12)) : OkF P w K mg base "is_name" 1 2 false fis_name := by
  have S0 : FnScope ["word", "character"] ["word"] (defScope (top 25)) := C8.fnScope_by (by decide +kernel)
  refine okf D S0 rfl rfl (by decide) (fun _ _ _ _ _ _ us hl => match us, hl with | [_], _ => rfl) fun f cdv A outer sh H E C => ?_
  have S := S0.nd
  exact (jss_cons (js_if (jt_w (jw_or (jt_not (jt_chain (ov_le C.ru) (ov_le C.ru) jf_int (fB cv_len b_len (jfs_cons (nv 0) jfs_nil)) (gT g_MOST_LETTERS) (hbl := bl_le))) (jw_or1 (jt_not (tV (kO C cis_letter (jas_cons (ja_e (je_w (jf_ix C.ru (nv 0) jf_int))) jas_nil))))))) (jss_one (js_ret (je_w jf_bl))) jss_nil)
    (jss_one (js_ret (eB (callz_of (cv_all C)) b_all (jas_cons (ja_e (je_comp (own := [("character", 1)]) C S (ji_seq (je_w (nv 0))) (blkOk_by (by rfl)) (by decide) (fun _ _ _ _ _ C => (pn S 1)) (fun _ _ _ _ _ C => jts_nil) (fun _ _ _ _ _ C => (je_or (kO C cis_letter (jas_cons (av 1) jas_nil)) (je_one (kO C cis_digit (jas_cons (av 1) jas_nil))))))) jas_nil)))))
theorem okread_number (D : Dt K mg "read_number" (top 24)) (chas_digits : OkF P w K mg base "has_digits" 1 2 false fhas_digits) (b_int : mg "int" = none) (x_Malformed : XO P w K mg base "Malformed" ["what"]) : OkF P w K mg base "read_number" 1 3 false fread_number := by
  have S0 : FnScope ["word", "digits"] ["word"] (defScope (top 24)) := C8.fnScope_by (by decide +kernel)
  refine okf D S0 rfl rfl (by decide) (fun _ _ _ _ _ _ us hl => match us, hl with | [_], _ => rfl) fun f cdv A outer sh H E C => ?_
  have S := S0.nd
  exact (jss_cons (st S 1 (je_if (tV (je_w (jf_mt PySem.F.plainAttrs_str PySem.F.slot_str_startswith PySem.F.type_str_startswith mv_sw (nv 0) (jfs_cons jf_str jfs_nil)))) (je_w (jf_sl (nv 0) (jo_some jf_int) jo_none)) (je_w (nv 0))))
    (jss_cons (js_if (jt_w (jw_and (tC2 (ov_ne C.ru) bl_ne (nv 0) jf_str) (jw_and1 (jt_not (tV (kO C chas_digits (jas_cons (av 1) jas_nil))))))) (jss_one (js_raise C x_Malformed (jas_cons (ja_e (je_w jf_str)) jas_nil))) jss_nil)
    (jss_one (js_ret (je_w (fT cv_intA b_int (jfs_cons (nv 0) jfs_nil)))))))
theorem ok_law_span (D : Dt K mg "_law_span" (top 34)) (c_law_take : OkF P w K mg base "_law_take" 2 3 true f_law_take) : OkF P w K mg base "_law_span" 3 4 true f_law_span := by
  have S0 : FnScope ["store", "low", "high"] ["store", "low", "high"] (defScope (top 34)) := C8.fnScope_by (by decide +kernel)
  refine okf D S0 rfl rfl (by decide) (fun _ _ _ _ _ _ us hl => match us, hl with | [_, _, _], _ => rfl) fun f cdv A outer sh H E C => ?_
  have S := S0.nd
  exact (jss_one (js_ret (eBin ov_add (av 1) (ja_e (kM C c_law_take (pv' 0) (jas_cons (ja_e (je_w (jf_bin ov_add (jf_bin ov_sub (nv 2) (nv 1)) jf_int))) jas_nil))))))
end
end Z
set_option Elab.async false
set_option linter.all false
set_option maxRecDepth 100000
set_option maxHeartbeats 1000000
namespace Z
open PySem L2
section
variable {P : Program} {w : World} {K : PySem.W.Frag} {mg : Str → Option Value} {base : Heap}
theorem ok_law_name (D : Dt K mg "_law_name" (top 40)) (c_law_hit : OkF P w K mg base "_law_hit" 2 4 true f_law_hit) (c_law_pick : OkF P w K mg base "_law_pick" 2 4 true f_law_pick) (c_law_take : OkF P w K mg base "_law_take" 2 3 true f_law_take) (b_range : mg "range" = none) : OkF P w K mg base "_law_name" 1 5 true f_law_name := by
  have S0 : FnScope ["store", "small", "size", "one_sign", "word", "k", "at", "sign"] ["store"] (defScope (top 40)) := C8.fnScope_by (by decide +kernel)
  refine okf D S0 rfl rfl (by decide) (fun _ _ _ _ _ _ us hl => match us, hl with | [_], _ => rfl) fun f cdv A outer sh H E C => ?_
  have S := S0.nd
  exact (jss_cons (st S 1 (je_w jf_str))
    (jss_cons (st S 2 (kM C c_law_pick (pv' 0) (jas_cons (ja_e (je_lst (jas_cons (ja_e (je_w jf_int)) (jas_cons (ja_e (je_w jf_int)) (jas_cons (ja_e (je_w jf_int)) (jas_cons (ja_e (je_w jf_int)) (jas_cons (ja_e (eBin ov_add (ja_e (je_w jf_int)) (ja_e (kM C c_law_take (pv' 0) (jas_cons (ja_e (je_w jf_int)) jas_nil))))) (jas_cons (ja_e (eBin ov_add (ja_e (je_w jf_int)) (ja_e (kM C c_law_take (pv' 0) (jas_cons (ja_e (je_w jf_int)) jas_nil))))) jas_nil)))))))) jas_nil)))
    (jss_cons (st S 3 (kM C c_law_hit (pv' 0) (jas_cons (ja_e (je_w jf_int)) jas_nil)))
    (jss_cons (st S 4 (kM C c_law_pick (pv' 0) (jas_cons (av 1) jas_nil)))
    (jss_cons (js_forS C (sr1 b_range (jas_cons (ja_e (je_w (jf_bin ov_sub (nv 2) jf_int))) jas_nil)) (pn S 5) (jss_one (js_if (tV (je_w (nv 3))) (jss_one (st S 4 (je_w (jf_bin ov_add (nv 4) jf_str)))) (jss_one (st S 4 (eBin ov_add (av 4) (ja_e (kM C c_law_pick (pv' 0) (jas_cons (ja_e (je_w (jf_bin ov_add (nv 1) jf_str))) jas_nil)))))))))
    (jss_cons (js_if (jt_w (jw_and (tV (je_w (nv 3))) (jw_and1 (tC2 (ov_gt C.ru) bl_gt (nv 2) jf_int)))) (jss_cons (st S 6 (kM C c_law_take (pv' 0) (jas_cons (av 2) jas_nil)))
    (jss_cons (st S 7 (kM C c_law_pick (pv' 0) (jas_cons (av 1) jas_nil)))
    (jss_cons (js_if (tC2 (ov_gt C.ru) bl_gt (nv 6) jf_int) (jss_one (st S 7 (kM C c_law_pick (pv' 0) (jas_cons (ja_e (je_w (jf_bin ov_add (nv 1) jf_str))) jas_nil)))) jss_nil)
    (jss_one (st S 4 (je_w (jf_bin ov_add (jf_bin ov_add (jf_sl (nv 4) jo_none (jo_some (nv 6))) (nv 7)) (jf_sl (nv 4) (jo_some (jf_bin ov_add (nv 6) jf_int)) jo_none)))))))) jss_nil)
    (jss_one (js_ret (mv 4)))))))))
theorem ok_law_is_number_word (D : Dt K mg "_law_is_number_word" (top 42)) (b_len : mg "len" = none) : OkF P w K mg base "_law_is_number_word" 1 1 false f_law_is_number_word := by
  have S0 : FnScope ["word", "digits", "sign"] ["word"] (defScope (top 42)) := C8.fnScope_by (by decide +kernel)
  refine okf D S0 rfl rfl (by decide) (fun _ _ _ _ _ _ us hl => match us, hl with | [_], _ => rfl) fun f cdv A outer sh H E C => ?_
  have S := S0.nd
  exact (jss_cons (js_if (tC2 (ov_eq C.ru) bl_eq (nv 0) jf_str) (jss_one (js_ret (je_w jf_bl))) jss_nil)
    (jss_cons (st S 1 (ev 0))
    (jss_cons (js_if (tC2 (ov_eq C.ru) bl_eq (jf_sl (nv 0) jo_none (jo_some jf_int)) jf_str) (jss_one (st S 1 (je_w (jf_sl (nv 0) (jo_some jf_int) jo_none)))) jss_nil)
    (jss_cons (js_if (jt_w (jw_or (tC2 (ov_lt C.ru) bl_lt (fB cv_len b_len (jfs_cons (nv 1) jfs_nil)) jf_int) (jw_or (tC2 (ov_gt C.ru) bl_gt (fB cv_len b_len (jfs_cons (nv 1) jfs_nil)) jf_int) (jw_or1 (tC2 (ov_eq C.ru) bl_eq (jf_ix C.ru (nv 1) jf_int) jf_str))))) (jss_one (js_ret (je_w jf_bl))) jss_nil)
    (jss_cons (js_forS C (ji_seq (je_w (nv 1))) (pn S 2) (jss_one (js_if (jt_not (jt_chain (ov_le C.ru) (ov_le C.ru) jf_str (nv 2) jf_str (hbl := bl_le))) (jss_one (js_ret (je_w jf_bl))) jss_nil)))
    (jss_one (js_ret (je_w jf_bl))))))))
theorem okhas_digits (D : Dt K mg "has_digits" (top 23)) (cis_digit : OkF P w K mg base "is_digit" 1 1 false fis_digit) (b_all : mg "all" = none) (b_len : mg "len" = none) (g_MOST_DIGITS : GT K mg "MOST_DIGITS" (.int 30)) : OkF P w K mg base "has_digits" 1 2 false fhas_digits := by
  have S0 : FnScope ["digits", "character"] ["digits"] (defScope (top 23)) := C8.fnScope_by (by decide +kernel)
  refine okf D S0 rfl rfl (by decide) (fun _ _ _ _ _ _ us hl => match us, hl with | [_], _ => rfl) fun f cdv A outer sh H E C => ?_
  have S := S0.nd
  exact (jss_cons (js_if (jt_w (jw_or (jt_not (jt_chain (ov_le C.ru) (ov_le C.ru) jf_int (fB cv_len b_len (jfs_cons (nv 0) jfs_nil)) (gT g_MOST_DIGITS) (hbl := bl_le))) (jw_or1 (tC2 (ov_eq C.ru) bl_eq (jf_ix C.ru (nv 0) jf_int) jf_str)))) (jss_one (js_ret (je_w jf_bl))) jss_nil)
    (jss_one (js_ret (eB (callz_of (cv_all C)) b_all (jas_cons (ja_e (je_comp (own := [("character", 1)]) C S (ji_seq (je_w (nv 0))) (blkOk_by (by rfl)) (by decide) (fun _ _ _ _ _ C => (pn S 1)) (fun _ _ _ _ _ C => jts_nil) (fun _ _ _ _ _ C => (kO C cis_digit (jas_cons (av 1) jas_nil))))) jas_nil)))))
theorem ok_law_value (D : Dt K mg "_law_value" (top 51)) : OkF P w K mg base "_law_value" 1 1 false f_law_value := by
  have S0 : FnScope ["word", "total", "sign"] ["word"] (defScope (top 51)) := C8.fnScope_by (by decide +kernel)
  refine okf D S0 rfl rfl (by decide) (fun _ _ _ _ _ _ us hl => match us, hl with | [_], _ => rfl) fun f cdv A outer sh H E C => ?_
  have S := S0.nd
  exact (jss_cons (st S 1 (je_w jf_int))
    (jss_cons (js_forS C (ji_seq (je_w (nv 0))) (pn S 2) (jss_one (js_if (tC2 (ov_ne C.ru) bl_ne (nv 2) jf_str) (jss_one (st S 1 (je_w (jf_bin ov_add (jf_bin ov_mul (nv 1) jf_int) (jf_mt PySem.F.plainAttrs_str PySem.F.slot_str_find PySem.F.type_str_find mv_find jf_str (jfs_cons (nv 2) jfs_nil)))))) jss_nil)))
    (jss_cons (js_if (tC2 (ov_eq C.ru) bl_eq (jf_ix C.ru (nv 0) jf_int) jf_str) (jss_one (js_ret (je_w (jf_bin ov_sub jf_int (nv 1))))) jss_nil)
    (jss_one (js_ret (mv 1))))))
end
end Z
set_option Elab.async false
set_option linter.all false
set_option maxRecDepth 100000
set_option maxHeartbeats 1000000
namespace Z
open PySem L2
section
variable {P : Program} {w : World} {K : PySem.W.Frag} {mg : Str → Option Value} {base : Heap}
theorem ok_law_bad_name (D : Dt K mg "_law_bad_name" (top 41)) (c_law_name : OkF P w K mg base "_law_name" 1 5 true f_law_name) (c_law_pick : OkF P w K mg base "_law_pick" 2 4 true f_law_pick) (c_law_take : OkF P w K mg base "_law_take" 2 3 true f_law_take) (b_len : mg "len" = none) : OkF P w K mg base "_law_bad_name" 2 6 true f_law_bad_name := by
  have S0 : FnScope ["store", "empty", "word", "choice", "at"] ["store", "empty"] (defScope (top 41)) := C8.fnScope_by (by decide +kernel)
  refine okf D S0 rfl rfl (by decide) (fun _ _ _ _ _ _ us hl => match us, hl with | [_, _], _ => rfl) fun f cdv A outer sh H E C => ?_
  have S := S0.nd
  exact (jss_cons (st S 2 (kM C c_law_name (pv' 0) jas_nil))
    (jss_cons (st S 3 (kM C c_law_take (pv' 0) (jas_cons (ja_e (je_w jf_int)) jas_nil)))
    (jss_cons (js_if (jt_w (jw_and (tC2 (ov_eq C.ru) bl_eq (nv 3) jf_int) (jw_and1 (tV (je_w (nv 1)))))) (jss_one (js_ret (je_w jf_str))) jss_nil)
    (jss_cons (js_if (tC2 (ov_eq C.ru) bl_eq (nv 3) jf_int) (jss_one (js_ret (eBin ov_add (ja_e (kM C c_law_pick (pv' 0) (jas_cons (ja_e (je_w jf_str)) jas_nil))) (ja_e (je_w (jf_sl (nv 2) jo_none (jo_some jf_int))))))) jss_nil)
    (jss_cons (js_if (tC2 (ov_eq C.ru) bl_eq (nv 3) jf_int) (jss_one (js_ret (je_w (jf_sl (jf_bin ov_add (nv 2) jf_str) jo_none (jo_some jf_int))))) jss_nil)
    (jss_cons (js_if (tC2 (ov_eq C.ru) bl_eq (nv 3) jf_int) (jss_one (js_ret (je_w (jf_mt0 PySem.F.plainAttrs_str PySem.F.slot_str_upper PySem.F.type_str_upper mv_up (nv 2))))) jss_nil)
    (jss_cons (js_if (tC2 (ov_eq C.ru) bl_eq (nv 3) jf_int) (jss_one (js_ret (kM C c_law_pick (pv' 0) (jas_cons (ja_e (je_w (jf_lst (jfs_cons jf_str (jfs_cons jf_str (jfs_cons jf_str (jfs_cons jf_str (jfs_cons jf_str (jfs_cons jf_str (jfs_cons jf_str (jfs_cons jf_str jfs_nil))))))))))) jas_nil)))) jss_nil)
    (jss_cons (st S 4 (kM C c_law_take (pv' 0) (jas_cons (ja_e (je_w (jf_bin ov_add (fB cv_len b_len (jfs_cons (nv 2) jfs_nil)) jf_int))) jas_nil)))
    (jss_one (js_ret (eBin ov_add (ja_e (eBin ov_add (ja_e (je_w (jf_sl (nv 2) jo_none (jo_some (nv 4))))) (ja_e (kM C c_law_pick (pv' 0) (jas_cons (ja_e (je_w jf_str)) jas_nil))))) (ja_e (je_w (jf_sl (nv 2) (jo_some (nv 4)) jo_none))))))))))))))
theorem ok_law_name_holds {P0 : Addr} (D : DtL K mg base "_law_name_holds" (top 53) P0) (lt : LamAt P0 "_law_name_holds.<locals>.<lambda>") (c_law_is_name : OkF P w K mg base "_law_is_name" 1 1 false f_law_is_name) (cread_name : OkF P w K mg base "read_name" 1 3 false fread_name) (c_law_holds : OkT P w K mg base 4 "_law_holds" 3 15 f_law_holds) (par_law_holds : ∀ t r ds, f_law_holds t r (.p t :: ds) = f_law_holds .non r (.p .non :: ds)) : OkF P w K mg base "_law_name_holds" 1 16 false f_law_name_holds := by
  have S0 : FnScope ["word"] ["word"] (defScope (top 53)) := C8.fnScope_by (by decide +kernel)
  refine okfL D S0 rfl rfl (by decide) (fun _ _ _ _ _ _ us hl => match us, hl with | [_], _ => rfl) fun f c0 A outer sh H E TB C => ?_
  have S := S0.nd
  exact (jss_cons (js_if (tV (kO C c_law_is_name (jas_cons (av 0) jas_nil))) (jss_one (js_ret (kLm 1 C c_law_holds par_law_holds TB lt (by show LamX.lamSB (defScope (top 53)) _ = true; decide +kernel) (jas_cons (ja_e (je_w jf_non)) (jas_cons (av 0) jas_nil)) (fun _ _ _ _ _ _ _ kq ek C => (kO C cread_name (jas_cons (av 0) jas_nil)))))) jss_nil)
    (jss_one (js_ret (kLm 1 C c_law_holds par_law_holds TB lt (by show LamX.lamSB (defScope (top 53)) _ = true; decide +kernel) (jas_cons (ja_e (je_w (jf_tup (jfs_cons jf_str (jfs_cons jf_str jfs_nil))))) (jas_cons (ja_e (je_w jf_non)) jas_nil)) (fun _ _ _ _ _ _ _ kq ek C => (kO C cread_name (jas_cons (av 0) jas_nil)))))))
theorem ok_law_is_name (D : Dt K mg "_law_is_name" (top 39)) (b_len : mg "len" = none) : OkF P w K mg base "_law_is_name" 1 1 false f_law_is_name := by
  have S0 : FnScope ["word", "sign"] ["word"] (defScope (top 39)) := C8.fnScope_by (by decide +kernel)
  refine okf D S0 rfl rfl (by decide) (fun _ _ _ _ _ _ us hl => match us, hl with | [_], _ => rfl) fun f cdv A outer sh H E C => ?_
  have S := S0.nd
  exact (jss_cons (js_if (jt_w (jw_or (tC2 (ov_lt C.ru) bl_lt (fB cv_len b_len (jfs_cons (nv 0) jfs_nil)) jf_int) (jw_or (tC2 (ov_gt C.ru) bl_gt (fB cv_len b_len (jfs_cons (nv 0) jfs_nil)) jf_int) (jw_or1 (jt_not (jt_chain (ov_le C.ru) (ov_le C.ru) jf_str (jf_ix C.ru (nv 0) jf_int) jf_str (hbl := bl_le))))))) (jss_one (js_ret (je_w jf_bl))) jss_nil)
    (jss_cons (js_forS C (ji_seq (je_w (nv 0))) (pn S 1) (jss_one (js_if (jt_w (jw_and (jt_not (jt_chain (ov_le C.ru) (ov_le C.ru) jf_str (nv 1) jf_str (hbl := bl_le))) (jw_and1 (jt_not (jt_chain (ov_le C.ru) (ov_le C.ru) jf_str (nv 1) jf_str (hbl := bl_le)))))) (jss_one (js_ret (je_w jf_bl))) jss_nil)))
    (jss_one (js_ret (je_w jf_bl)))))
theorem okread_name (D : Dt K mg "read_name" (top 26)) (cis_name : OkF P w K mg base "is_name" 1 2 false fis_name) (x_Malformed : XO P w K mg base "Malformed" ["what"]) : OkF P w K mg base "read_name" 1 3 false fread_name := by
  have S0 : FnScope ["word"] ["word"] (defScope (top 26)) := C8.fnScope_by (by decide +kernel)
  refine okf D S0 rfl rfl (by decide) (fun _ _ _ _ _ _ us hl => match us, hl with | [_], _ => rfl) fun f cdv A outer sh H E C => ?_
  have S := S0.nd
  exact (jss_cons (js_if (jt_not (tV (kO C cis_name (jas_cons (av 0) jas_nil)))) (jss_one (js_raise C x_Malformed (jas_cons (ja_e (je_w jf_str)) jas_nil))) jss_nil)
    (jss_one (js_ret (mv 0))))
theorem ok_law_signs (D : Dt K mg "_law_signs" (top 45)) : OkF P w K mg base "_law_signs" 0 1 false f_law_signs := by
  have S0 : FnScope ["signs"] [] (defScope (top 45)) := C8.fnScope_by (by decide +kernel)
  refine okf D S0 rfl rfl (by decide) (fun _ _ _ _ _ _ us hl => match us, hl with | [], _ => rfl) fun f cdv A outer sh H E C => ?_
  have S := S0.nd
  exact (jss_cons (st S 0 (je_w jf_str))
    (jss_one (js_ret (je_w (jf_bin ov_add (nv 0) jf_str)))))
end
end Z
set_option Elab.async false
set_option linter.all false
set_option maxRecDepth 100000
set_option maxHeartbeats 1000000
namespace Z
open PySem L2
section
variable {P : Program} {w : World} {K : PySem.W.Frag} {mg : Str → Option Value} {base : Heap}
theorem ok_law_take (D : Dt K mg "_law_take" (top 31)) (c_law_mixed : OkF P w K mg base "_law_mixed" 3 2 false f_law_mixed) (b_abs : mg "abs" = none) (b_int : mg "int" = none) (b_len : mg "len" = none) : OkF P w K mg base "_law_take" 2 3 true f_law_take := by
  have S0 : FnScope ["store", "many", "cell", "digit"] ["store", "many"] (defScope (top 31)) := C8.fnScope_by (by decide +kernel)
  refine okf D S0 rfl rfl (by decide) (fun _ _ _ _ _ _ us hl => match us, hl with | [_, _], _ => rfl) fun f cdv A outer sh H E C => ?_
  have S := S0.nd
  exact (jss_cons (js_if (tC2 (ov_lt C.ru) bl_lt (nv 1) jf_int) (jss_one (js_ret (je_w jf_int))) jss_nil)
    (jss_cons (js_set2 C.ru (ja_e (je_w (jf_bin ov_add (jf_ix C.ru (nv 0) jf_str) jf_int))) (pv' 0) (ja_e (je_w jf_str)))
    (jss_cons (js_if (jt_w (jw_and (tC2 (ov_lt C.ru) bl_lt (jf_ix C.ru (nv 0) jf_str) jf_int) (jw_and1 (tC2 (ov_lt C.ru) bl_lt (jf_ix C.ru (nv 0) jf_str) (fB cv_len b_len (jfs_cons (jf_ix C.ru (nv 0) jf_str) jfs_nil)))))) (jss_cons (st S 2 (je_w (jf_ix C.ru (jf_ix C.ru (nv 0) jf_str) (jf_ix C.ru (nv 0) jf_str))))
    (jss_cons (js_set2 C.ru (ja_e (je_w (jf_bin ov_add (jf_ix C.ru (nv 0) jf_str) jf_int))) (pv' 0) (ja_e (je_w jf_str)))
    (jss_cons (js_if (tC2 (ov_lt C.ru) bl_lt (fB cv_abs b_abs (jfs_cons (nv 2) jfs_nil)) (jf_bin ov_pow jf_int jf_int)) (jss_one (js_ret (kO C c_law_mixed (jas_cons (av 2) (jas_cons (ja_e (je_w (jf_ix C.ru (nv 0) jf_str))) (jas_cons (av 1) jas_nil)))))) jss_nil)
    (jss_one (js_set2 C.ru (ja_e (je_w (fB cv_abs b_abs (jfs_cons (nv 2) jfs_nil)))) (pv' 0) (ja_e (je_w jf_str))))))) jss_nil)
    (jss_cons (js_if (tC2 (ov_gt C.ru) bl_gt (jf_ix C.ru (nv 0) jf_str) jf_int) (jss_cons (st S 3 (je_w (jf_bin ov_mod (fT cv_int b_int (jfs_cons (jf_ix C.ru (nv 0) jf_str) jfs_nil)) (nv 1))))
    (jss_cons (js_set2 C.ru (ja_e (je_w (jf_bin ov_fdiv (jf_ix C.ru (nv 0) jf_str) (nv 1)))) (pv' 0) (ja_e (je_w jf_str)))
    (jss_one (js_ret (mv 3))))) jss_nil)
    (jss_one (js_ret (kO C c_law_mixed (jas_cons (ja_e (je_w (jf_ix C.ru (nv 0) jf_str))) (jas_cons (ja_e (je_w (jf_ix C.ru (nv 0) jf_str))) (jas_cons (av 1) jas_nil))))))))))
theorem ok_law_long_words (D : Dt K mg "_law_long_words" (top 55)) (c_law_pick : OkF P w K mg base "_law_pick" 2 4 true f_law_pick) : OkF P w K mg base "_law_long_words" 1 5 true f_law_long_words := by
  have S0 : FnScope ["store", "sign", "size", "row"] ["store"] (defScope (top 55)) := C8.fnScope_by (by decide +kernel)
  refine okf D S0 rfl rfl (by decide) (fun _ _ _ _ _ _ us hl => match us, hl with | [_], _ => rfl) fun f cdv A outer sh H E C => ?_
  have S := S0.nd
  exact (jss_cons (st S 1 (kM C c_law_pick (pv' 0) (jas_cons (ja_e (je_w jf_str)) jas_nil)))
    (jss_cons (st S 2 (kM C c_law_pick (pv' 0) (jas_cons (ja_e (je_w (jf_lst (jfs_cons jf_int (jfs_cons jf_int (jfs_cons jf_int (jfs_cons jf_int (jfs_cons jf_int (jfs_cons jf_int (jfs_cons jf_int (jfs_cons jf_int (jfs_cons jf_int (jfs_cons jf_int (jfs_cons jf_int (jfs_cons jf_int jfs_nil))))))))))))))) jas_nil)))
    (jss_cons (st S 3 (je_w (jf_bin ov_mulS (nv 1) (nv 2))))
    (jss_one (js_ret (je_w (jf_lst (jfs_cons (nv 3) (jfs_cons (jf_bin ov_add jf_str (jf_sl (nv 3) (jo_some jf_int) jo_none)) (jfs_cons (jf_bin ov_add jf_str (jf_sl (nv 3) (jo_some jf_int) jo_none)) (jfs_cons (jf_bin ov_add jf_str (jf_sl (nv 3) (jo_some jf_int) jo_none)) (jfs_cons (jf_bin ov_add jf_str (jf_sl (nv 3) (jo_some jf_int) jo_none)) (jfs_cons (jf_bin ov_add (jf_sl (nv 3) (jo_some jf_int) jo_none) jf_str) (jfs_cons (jf_bin ov_add (jf_sl (nv 3) (jo_some jf_int) jo_none) jf_str) jfs_nil))))))))))))))
theorem ok_law_mix (D : Dt K mg "_law_mix" (top 29)) (b_int : mg "int" = none) : OkF P w K mg base "_law_mix" 2 1 false f_law_mix := by
  have S0 : FnScope ["number", "turn", "first", "second"] ["number", "turn"] (defScope (top 29)) := C8.fnScope_by (by decide +kernel)
  refine okf D S0 rfl rfl (by decide) (fun _ _ _ _ _ _ us hl => match us, hl with | [_, _], _ => rfl) fun f cdv A outer sh H E C => ?_
  have S := S0.nd
  exact (jss_cons (st S 2 (je_w (jf_bin ov_mod (fT cv_int b_int (jfs_cons (jf_bin ov_add (jf_bin ov_add (jf_bin ov_mul (jf_bin ov_mod (fT cv_int b_int (jfs_cons (nv 0) jfs_nil)) jf_int) jf_int) (jf_bin ov_mul (fT cv_int b_int (jfs_cons (nv 1) jfs_nil)) jf_int)) jf_int) jfs_nil)) jf_int)))
    (jss_cons (st S 3 (je_w (jf_bin ov_mod (fT cv_int b_int (jfs_cons (jf_bin ov_add (jf_bin ov_add (jf_bin ov_add (jf_bin ov_mul (nv 2) (nv 2)) (jf_bin ov_mul (nv 2) jf_int)) (jf_bin ov_mul (fT cv_int b_int (jfs_cons (nv 1) jfs_nil)) jf_int)) jf_int) jfs_nil)) jf_int)))
    (jss_one (js_ret (je_w (jf_bin ov_mod (fT cv_int b_int (jfs_cons (jf_bin ov_add (jf_bin ov_add (jf_bin ov_mul (nv 3) jf_int) (jf_bin ov_fdiv (nv 3) jf_int)) jf_int) jfs_nil)) jf_int))))))
theorem ok_law_power (D : Dt K mg "_law_power" (top 35)) (b_range : mg "range" = none) : OkF P w K mg base "_law_power" 2 1 false f_law_power := by
  have S0 : FnScope ["base", "count", "total", "k"] ["base", "count"] (defScope (top 35)) := C8.fnScope_by (by decide +kernel)
  refine okf D S0 rfl rfl (by decide) (fun _ _ _ _ _ _ us hl => match us, hl with | [_, _], _ => rfl) fun f cdv A outer sh H E C => ?_
  have S := S0.nd
  exact (jss_cons (st S 2 (je_w jf_int))
    (jss_cons (js_forS C (sr1 b_range (jas_cons (av 1) jas_nil)) (pn S 3) (jss_one (st S 2 (je_w (jf_bin ov_mul (nv 2) (nv 0))))))
    (jss_one (js_ret (mv 2)))))
theorem okis_letter (D : Dt K mg "is_letter" (top 22)) : OkF P w K mg base "is_letter" 1 1 false fis_letter := by
  have S0 : FnScope ["character"] ["character"] (defScope (top 22)) := C8.fnScope_by (by decide +kernel)
  refine okf D S0 rfl rfl (by decide) (fun _ _ _ _ _ _ us hl => match us, hl with | [_], _ => rfl) fun f cdv A outer sh H E C => ?_
  have S := S0.nd
  exact (jss_one (js_ret (je_w (jf_chain (ov_le C.ru) (ov_le C.ru) jf_str (nv 0) jf_str))))
end
end Z
set_option Elab.async false
set_option linter.all false
set_option maxRecDepth 100000
set_option maxHeartbeats 1000000
namespace Z
open PySem L2
section
variable {P : Program} {w : World} {K : PySem.W.Frag} {mg : Str → Option Value} {base : Heap}
theorem ok_law_bent_text (D : Dt K mg "_law_bent_text" (top 47)) (c_law_hit : OkF P w K mg base "_law_hit" 2 4 true f_law_hit) (c_law_pick : OkF P w K mg base "_law_pick" 2 4 true f_law_pick) (c_law_take : OkF P w K mg base "_law_take" 2 3 true f_law_take) (b_len : mg "len" = none) : OkF P w K mg base "_law_bent_text" 2 5 true f_law_bent_text := by
  have S0 : FnScope ["store", "text", "at"] ["store", "text"] (defScope (top 47)) := C8.fnScope_by (by decide +kernel)
  refine okf D S0 rfl rfl (by decide) (fun _ _ _ _ _ _ us hl => match us, hl with | [_, _], _ => rfl) fun f cdv A outer sh H E C => ?_
  have S := S0.nd
  exact (jss_cons (js_if (tV (kM C c_law_hit (pv' 0) (jas_cons (ja_e (je_w jf_int)) jas_nil))) (jss_one (js_ret (kM C c_law_pick (pv' 0) (jas_cons (ja_e (je_w (jf_lst (jfs_cons jf_str (jfs_cons jf_str (jfs_cons jf_str (jfs_cons jf_str (jfs_cons jf_str (jfs_cons jf_str (jfs_cons jf_str (jfs_cons jf_str (jfs_cons jf_str (jfs_cons jf_str (jfs_cons jf_str jfs_nil)))))))))))))) jas_nil)))) jss_nil)
    (jss_cons (st S 2 (kM C c_law_pick (pv' 0) (jas_cons (ja_e (je_lst (jas_cons (ja_e (je_w jf_int)) (jas_cons (ja_e (je_w (fB cv_len b_len (jfs_cons (nv 1) jfs_nil)))) (jas_cons (ja_e (kM C c_law_take (pv' 0) (jas_cons (ja_e (je_w (jf_bin ov_add (fB cv_len b_len (jfs_cons (nv 1) jfs_nil)) jf_int))) jas_nil))) (jas_cons (ja_e (kM C c_law_take (pv' 0) (jas_cons (ja_e (je_w (jf_bin ov_add (fB cv_len b_len (jfs_cons (nv 1) jfs_nil)) jf_int))) jas_nil))) jas_nil)))))) jas_nil)))
    (jss_cons (js_if (tV (kM C c_law_hit (pv' 0) (jas_cons (ja_e (je_w jf_int)) jas_nil))) (jss_one (js_ret (je_w (jf_bin ov_add (jf_sl (nv 1) jo_none (jo_some (nv 2))) (jf_sl (nv 1) (jo_some (jf_bin ov_add (nv 2) jf_int)) jo_none))))) jss_nil)
    (jss_one (js_ret (eBin ov_add (ja_e (eBin ov_add (ja_e (je_w (jf_sl (nv 1) jo_none (jo_some (nv 2))))) (ja_e (kM C c_law_pick (pv' 0) (jas_cons (ja_e (je_w (jf_lst (jfs_cons jf_str (jfs_cons jf_str (jfs_cons jf_str (jfs_cons jf_str (jfs_cons jf_str (jfs_cons jf_str (jfs_cons jf_str jfs_nil)))))))))) jas_nil))))) (ja_e (je_w (jf_sl (nv 1) (jo_some (nv 2)) jo_none)))))))))
theorem ok_law_number_holds {P0 : Addr} (D : DtL K mg base "_law_number_holds" (top 52) P0) (lt : LamAt P0 "_law_number_holds.<locals>.<lambda>") (c_law_is_number_word : OkF P w K mg base "_law_is_number_word" 1 1 false f_law_is_number_word) (c_law_value : OkF P w K mg base "_law_value" 1 1 false f_law_value) (cread_number : OkF P w K mg base "read_number" 1 3 false fread_number) (c_law_holds : OkT P w K mg base 4 "_law_holds" 3 15 f_law_holds) (par_law_holds : ∀ t r ds, f_law_holds t r (.p t :: ds) = f_law_holds .non r (.p .non :: ds)) : OkF P w K mg base "_law_number_holds" 1 16 false f_law_number_holds := by
  have S0 : FnScope ["word"] ["word"] (defScope (top 52)) := C8.fnScope_by (by decide +kernel)
  refine okfL D S0 rfl rfl (by decide) (fun _ _ _ _ _ _ us hl => match us, hl with | [_], _ => rfl) fun f c0 A outer sh H E TB C => ?_
  have S := S0.nd
  exact (jss_cons (js_if (tV (kO C c_law_is_number_word (jas_cons (av 0) jas_nil))) (jss_one (js_ret (kLm 1 C c_law_holds par_law_holds TB lt (by show LamX.lamSB (defScope (top 52)) _ = true; decide +kernel) (jas_cons (ja_e (je_w jf_non)) (jas_cons (ja_e (kO C c_law_value (jas_cons (av 0) jas_nil))) jas_nil)) (fun _ _ _ _ _ _ _ kq ek C => (kO C cread_number (jas_cons (av 0) jas_nil)))))) jss_nil)
    (jss_one (js_ret (kLm 1 C c_law_holds par_law_holds TB lt (by show LamX.lamSB (defScope (top 52)) _ = true; decide +kernel) (jas_cons (ja_e (je_w (jf_tup (jfs_cons jf_str (jfs_cons jf_str jfs_nil))))) (jas_cons (ja_e (je_w jf_non)) jas_nil)) (fun _ _ _ _ _ _ _ kq ek C => (kO C cread_number (jas_cons (av 0) jas_nil)))))))
theorem ok_law_store (D : Dt K mg "_law_store" (top 28)) (b_int : mg "int" = none) (b_list : mg "list" = none) : OkF P w K mg base "_law_store" 1 1 false f_law_store := by
  have S0 : FnScope ["script", "seed", "cell"] ["script"] (defScope (top 28)) := C8.fnScope_by (by decide +kernel)
  refine okf D S0 rfl rfl (by decide) (fun _ _ _ _ _ _ us hl => match us, hl with | [_], _ => rfl) fun f cdv A outer sh H E C => ?_
  have S := S0.nd
  exact (jss_cons (st S 1 (je_w jf_int))
    (jss_cons (js_forS C (ji_seq (je_w (nv 0))) (pn S 2) (jss_one (st S 1 (je_w (jf_bin ov_mod (fT cv_int b_int (jfs_cons (jf_bin ov_add (jf_bin ov_add (jf_bin ov_mul (nv 1) jf_int) (jf_bin ov_mod (fT cv_int b_int (jfs_cons (nv 2) jfs_nil)) jf_int)) jf_int) jfs_nil)) jf_int)))))
    (jss_one (js_ret (je_dict (qs := [.inr "cells", .inr "at", .inr "great", .inr "turn", .inr "seed"]) ⟨pe_str, ⟨pe_str, ⟨pe_str, ⟨pe_str, ⟨pe_str, trivial⟩⟩⟩⟩⟩ ⟨(ja_e (je_w (fT (cv_listA C) b_list (jfs_cons (nv 0) jfs_nil)))), ⟨(ja_e (je_w jf_int)), ⟨(ja_e (je_w jf_int)), ⟨(ja_e (je_w jf_int)), ⟨(av 1), trivial⟩⟩⟩⟩⟩)))))
theorem ok_law_pick (D : Dt K mg "_law_pick" (top 33)) (c_law_take : OkF P w K mg base "_law_take" 2 3 true f_law_take) (b_len : mg "len" = none) : OkF P w K mg base "_law_pick" 2 4 true f_law_pick := by
  have S0 : FnScope ["store", "items"] ["store", "items"] (defScope (top 33)) := C8.fnScope_by (by decide +kernel)
  refine okf D S0 rfl rfl (by decide) (fun _ _ _ _ _ _ us hl => match us, hl with | [_, _], _ => rfl) fun f cdv A outer sh H E C => ?_
  have S := S0.nd
  exact (jss_one (js_ret (je_ix C.ru (av 1) (ja_e (kM C c_law_take (pv' 0) (jas_cons (ja_e (je_w (fB cv_len b_len (jfs_cons (nv 1) jfs_nil)))) jas_nil))))))
theorem okis_digit (D : Dt K mg "is_digit" (top 21)) : OkF P w K mg base "is_digit" 1 1 false fis_digit := by
  have S0 : FnScope ["character"] ["character"] (defScope (top 21)) := C8.fnScope_by (by decide +kernel)
  refine okf D S0 rfl rfl (by decide) (fun _ _ _ _ _ _ us hl => match us, hl with | [_], _ => rfl) fun f cdv A outer sh H E C => ?_
  have S := S0.nd
  exact (jss_one (js_ret (je_w (jf_chain (ov_le C.ru) (ov_le C.ru) jf_str (nv 0) jf_str))))
end
end Z
set_option Elab.async false
set_option linter.all false
set_option maxRecDepth 100000
set_option maxHeartbeats 1000000
namespace Z
open PySem L2
section
variable {P : Program} {w : World} {K : PySem.W.Frag} {mg : Str → Option Value} {base : Heap}
theorem ok_law_number (D : Dt K mg "_law_number" (top 38)) (c_law_pick : OkF P w K mg base "_law_pick" 2 4 true f_law_pick) (c_law_power : OkF P w K mg base "_law_power" 2 1 false f_law_power) (c_law_span : OkF P w K mg base "_law_span" 3 4 true f_law_span) (c_law_take : OkF P w K mg base "_law_take" 2 3 true f_law_take) : OkF P w K mg base "_law_number" 1 5 true f_law_number := by
  have S0 : FnScope ["store", "edges", "choice", "size"] ["store"] (defScope (top 38)) := C8.fnScope_by (by decide +kernel)
  refine okf D S0 rfl rfl (by decide) (fun _ _ _ _ _ _ us hl => match us, hl with | [_], _ => rfl) fun f cdv A outer sh H E C => ?_
  have S := S0.nd
  exact (jss_cons (st S 1 (je_w (jf_lst (jfs_cons jf_int (jfs_cons jf_int (jfs_cons (jf_un uv_neg jf_int) (jfs_cons (jf_bin ov_sub (jf_bin ov_pow jf_int jf_int) jf_int) (jfs_cons (jf_bin ov_sub jf_int (jf_bin ov_pow jf_int jf_int)) (jfs_cons (jf_bin ov_pow jf_int jf_int) (jfs_cons (jf_bin ov_pow jf_int jf_int) (jfs_cons (jf_bin ov_add (jf_bin ov_pow jf_int jf_int) jf_int) (jfs_cons (jf_un uv_neg jf_int) (jfs_cons jf_int (jfs_cons jf_int (jfs_cons jf_int jfs_nil)))))))))))))))
    (jss_cons (st S 2 (kM C c_law_take (pv' 0) (jas_cons (ja_e (je_w jf_int)) jas_nil)))
    (jss_cons (js_if (tC2 (ov_eq C.ru) bl_eq (nv 2) jf_int) (jss_one (js_ret (kM C c_law_pick (pv' 0) (jas_cons (av 1) jas_nil)))) jss_nil)
    (jss_cons (js_if (tC2 (ov_eq C.ru) bl_eq (nv 2) jf_int) (jss_one (js_ret (kM C c_law_span (pv' 0) (jas_cons (ja_e (je_w (jf_un uv_neg jf_int))) (jas_cons (ja_e (je_w jf_int)) jas_nil))))) jss_nil)
    (jss_cons (st S 3 (kO C c_law_power (jas_cons (ja_e (je_w jf_int)) (jas_cons (ja_e (eBin ov_add (ja_e (je_w jf_int)) (ja_e (kM C c_law_take (pv' 0) (jas_cons (ja_e (je_w jf_int)) jas_nil))))) jas_nil))))
    (jss_one (js_ret (kM C c_law_span (pv' 0) (jas_cons (ja_e (je_w (jf_bin ov_sub jf_int (nv 3)))) (jas_cons (ja_e (je_w (jf_bin ov_sub (nv 3) jf_int))) jas_nil))))))))))
theorem ok_law_bad_number_word (D : Dt K mg "_law_bad_number_word" (top 44)) (c_law_pick : OkF P w K mg base "_law_pick" 2 4 true f_law_pick) : OkF P w K mg base "_law_bad_number_word" 2 5 true f_law_bad_number_word := by
  have S0 : FnScope ["store", "empty", "words"] ["store", "empty"] (defScope (top 44)) := C8.fnScope_by (by decide +kernel)
  refine okf D S0 rfl rfl (by decide) (fun _ _ _ _ _ _ us hl => match us, hl with | [_, _], _ => rfl) fun f cdv A outer sh H E C => ?_
  have S := S0.nd
  exact (jss_cons (st S 2 (je_lst (jas_cons (ja_e (je_w jf_str)) (jas_cons (ja_e (je_w jf_str)) (jas_cons (ja_e (je_w jf_str)) (jas_cons (ja_e (je_w jf_str)) (jas_cons (ja_e (je_w jf_str)) (jas_cons (ja_e (je_w jf_str)) (jas_cons (ja_e (je_w jf_str)) (jas_cons (ja_e (je_w jf_str)) (jas_cons (ja_e (je_w jf_str)) (jas_cons (ja_e (je_w jf_str)) (jas_cons (ja_e (je_w jf_str)) (jas_cons (ja_e (je_w jf_str)) (jas_cons (ja_e (je_w jf_str)) (jas_cons (ja_e (je_w jf_str)) (jas_cons (ja_e (je_w jf_str)) jas_nil)))))))))))))))))
    (jss_cons (st S 2 (je_bin oz_add (av 2) (ja_e (je_w (jf_lst (jfs_cons (jf_bin ov_add jf_str (jf_bin ov_mulS jf_str jf_int)) (jfs_cons (jf_bin ov_add jf_str (jf_bin ov_mulS jf_str jf_int)) (jfs_cons (jf_bin ov_mulS jf_str jf_int) (jfs_cons (jf_bin ov_add jf_str (jf_bin ov_mulS jf_str jf_int)) jfs_nil)))))))))
    (jss_cons (js_if (tV (je_w (nv 1))) (jss_one (js_expr (je_mt PySem.F.slot_list_append PySem.F.type_list_append mz_append (pv' 2) (jas_cons (ja_e (je_w jf_str)) jas_nil) rfl))) jss_nil)
    (jss_one (js_ret (kM C c_law_pick (pv' 0) (jas_cons (av 2) jas_nil)))))))
theorem ok_law_ask (D : Dt K mg "_law_ask" (top 49)) (c_law_refusal : OkE P w K mg base "_law_refusal" 1 1 f_law_refusal) (sx_Refused : SubX K mg "Refused" (subOf Anc "Refused")) (par_su_law_ask_0 : ∀ (a d c : Nat) (C : Str) (fs : List Str) (vs : List Z.P) (env : Env), wipeR 1 (su_law_ask_0 a d c (env.set 1 (.var (.p (.exc a d c C fs vs))))) = wipeR 1 (su_law_ask_0 0 0 0 (env.set 1 (.var (.p (.exc 0 0 0 C fs vs)))))) : OkT P w K mg base 4 "_law_ask" 1 5 f_law_ask := by
  have S0 : FnScope ["question", "error"] ["question"] (defScope (top 49)) := C8.fnScope_by (by decide +kernel)
  obtain ⟨v_Refused, m_Refused, s_Refused⟩ := sx_Refused
  refine okT D S0 rfl rfl (fun _ _ _ _ _ _ us hl => match us, hl with | [_], _ => rfl) fun tf tc tq tus txs tr g cdv A outer sh H E C T => ?_
  have S := S0.nd
  exact (jss_one (js_tryAs C S rfl rfl ⟨rfl, by decide, .inl m_Refused⟩ s_Refused rfl rfl (fun _ _ _ C => (jss_one (js_ret (je_tup (jas_cons (ja_e (je_w jf_str)) (jas_cons (ja_e (kTh 0 C T)) jas_nil)))))) (fun a d c _ _ C => (jss_one (js_ret (je_tup (jas_cons (ja_e (je_w jf_str)) (jas_cons (ja_e (kE C takes0 c_law_refusal (jas_cons (av 1) jas_nil))) jas_nil)))))) par_su_law_ask_0))
theorem ok_law_is_integer (D : Dt K mg "_law_is_integer" (top 36)) (b_bool : mg "bool" = none) (b_int : mg "int" = none) (b_isinstance : mg "isinstance" = none) : OkF P w K mg base "_law_is_integer" 1 1 false f_law_is_integer := by
  have S0 : FnScope ["actual"] ["actual"] (defScope (top 36)) := C8.fnScope_by (by decide +kernel)
  refine okf D S0 rfl rfl (by decide) (fun _ _ _ _ _ _ us hl => match us, hl with | [_], _ => rfl) fun f cdv A outer sh H E C => ?_
  have S := S0.nd
  exact (jss_one (js_ret (je_and (je_w (fB cv_isi b_isinstance (jfs_cons (nv 0) (jfs_cons (fTy b_int) jfs_nil)))) (je_one (je_w (jf_un uv_not (fB cv_isi b_isinstance (jfs_cons (nv 0) (jfs_cons (fTy b_bool) jfs_nil)))))))))
end
end Z
set_option Elab.async false
set_option linter.all false
set_option maxRecDepth 100000
set_option maxHeartbeats 2000000
namespace Z
open PySem L2
theorem par_law_ask : ∀ t r, f_law_ask t r [.p t] = f_law_ask .non r [.p .non] := by
  intro t r
  cases r with
  | ok x => simp [f_law_ask, F_law_ask, sTryAs, eTh, leave]
  | exc e =>
    simp only [f_law_ask, F_law_ask, sTryAs, q_mk]
    simp [eTh]
    cases h : subOf Anc (Str.ofString "Refused") e.C with
    | none => rfl
    | some b =>
      cases b with
      | false => rfl
      | true =>
        simp [su_law_ask_0]
        cases h2 : f_law_refusal 0 0 0 [D.p (P.exc 0 0 0 e.C e.fs e.vs)] <;> simp [wipeR] <;> rfl
  | stuck => simp [f_law_ask, F_law_ask, sTryAs, eTh, leave]
theorem par_law_holds : ∀ t r ds, f_law_holds t r (.p t :: ds) = f_law_holds .non r (.p .non :: ds) := by
  intro t r ds
  match ds with
  | [] => rfl
  | [_] => rfl
  | [b, c] =>
    have e := par_law_ask t r
    have e0 : pIs (vw b) .non = some (.bl (isNon (vw b))) := rfl
    simp only [f_law_holds, F_law_holds, q_mk]
    cases h : isNon (vw b)
    · cases h2 : f_law_ask .non r [.p .non] with
      | ok r1 f1 => simp [gTh, e, e0, h, h2]; cases f_law_same [r1, .p (.tup [.str "raised", vw b])] <;> rfl
      | exc e1 f1 => simp [gTh, e, e0, h, h2]
      | stuck => simp [gTh, e, e0, h, h2]
    · cases h2 : f_law_ask .non r [.p .non] with
      | ok r1 f1 => simp [gTh, e, e0, h, h2]; cases f_law_same [r1, .p (.tup [.str "gave", vw c])] <;> rfl
      | exc e1 f1 => simp [gTh, e, e0, h, h2]
      | stuck => simp [gTh, e, e0, h, h2]
  | _ :: _ :: _ :: _ => rfl
theorem par_law_refusal (a d c : Nat) (C : Str) (fs : List Str) (vs : List Z.P) : f_law_refusal a d c [.p (.exc a d c C fs vs)] = f_law_refusal 0 0 0 [.p (.exc 0 0 0 C fs vs)] := by
  simp only [f_law_refusal, F_law_refusal, q_mk]
  cases h : Anc.lookup C with
  | none => simp [Tab, subOf, h]
  | some l =>
    cases hle : l.isEmpty with
    | true => obtain rfl := List.isEmpty_iff.mp hle; simp [Tab, subOf, h]
    | false =>
    have T : ∀ X : Str, (X = "ValueError" ∨ (Anc.lookup X).isSome = true) → Tab X C = some (l.contains X) := fun X hX => by unfold Tab subOf; rw [if_pos hX, h]; show (if l.isEmpty then none else some (l.contains X)) = _; rw [hle]; rfl
    have t0 := T "ValueError" (by decide +kernel)
    have t1 := T "BadText" (by decide +kernel)
    have t2 := T "Malformed" (by decide +kernel)
    have t3 := T "BadOrder" (by decide +kernel)
    have t4 := T "Unknown" (by decide +kernel)
    have t5 := T "Empty" (by decide +kernel)
    have t6 := T "BadSize" (by decide +kernel)
    have t7 := T "BadCell" (by decide +kernel)
    have t8 := T "BadMove" (by decide +kernel)
    have t9 := T "BadPrice" (by decide +kernel)
    have t10 := T "Doubled" (by decide +kernel)
    have t11 := T "BadWalk" (by decide +kernel)
    have t12 := T "Free" (by decide +kernel)
    have t13 := T "TooMany" (by decide +kernel)
    have t14 := T "NotFan" (by decide +kernel)
    have t15 := T "NotYes" (by decide +kernel)
    have t16 := T "Stuck" (by decide +kernel)
    generalize l.contains "ValueError" = b0 at t0
    generalize l.contains "BadText" = b1 at t1
    generalize l.contains "Malformed" = b2 at t2
    generalize l.contains "BadOrder" = b3 at t3
    generalize l.contains "Unknown" = b4 at t4
    generalize l.contains "Empty" = b5 at t5
    generalize l.contains "BadSize" = b6 at t6
    generalize l.contains "BadCell" = b7 at t7
    generalize l.contains "BadMove" = b8 at t8
    generalize l.contains "BadPrice" = b9 at t9
    generalize l.contains "Doubled" = b10 at t10
    generalize l.contains "BadWalk" = b11 at t11
    generalize l.contains "Free" = b12 at t12
    generalize l.contains "TooMany" = b13 at t13
    generalize l.contains "NotFan" = b14 at t14
    generalize l.contains "NotYes" = b15 at t15
    generalize l.contains "Stuck" = b16 at t16
    simp [t0, t1, t2, t3, t4, t5, t6, t7, t8, t9, t10, t11, t12, t13, t14, t15, t16, pAdd, lineN, pIx, atZ, ixZ, pIsNot]
    have hs : ∃ n, bSumB [.lst [.bl b0, .bl b1, .bl b2, .bl b3, .bl b4, .bl b5, .bl b6, .bl b7, .bl b8, .bl b9, .bl b10, .bl b11, .bl b12, .bl b13, .bl b14, .bl b15, .bl b16]] = some (.int n) := by
      simp [bSumB, cntB, lineN]
    obtain ⟨n, hs⟩ := hs
    rw [hs]
    by_cases hn : n = 2 <;> cases b0 <;> cases b2 <;> simp [hn, isBl, t2] <;> (first | (cases (if Fld C (Str.ofString "what") = true then lkP (Str.ofString "what") (fs.zip vs).reverse else none) <;> simp; done))
theorem par_su_law_ask_0 : ∀ (a d c : Nat) (C : Str) (fs : List Str) (vs : List Z.P) (env : Env), wipeR 1 (su_law_ask_0 a d c (env.set 1 (.var (.p (.exc a d c C fs vs))))) = wipeR 1 (su_law_ask_0 0 0 0 (env.set 1 (.var (.p (.exc 0 0 0 C fs vs))))) := by
  intro a d c C fs vs env
  match env with
  | [] => simp [su_law_ask_0, wipeR]
  | [_] => simp [su_law_ask_0, wipeR]
  | x :: y :: r =>
    have e := par_law_refusal a d c C fs vs
    cases h : f_law_refusal 0 0 0 [.p (.exc 0 0 0 C fs vs)] <;> simp [su_law_ask_0, e, h, wipeR]
end Z
set_option Elab.async false
set_option linter.all false
set_option maxRecDepth 100000
set_option maxHeartbeats 4000000
namespace Z
open PySem L2 PySem.W
section
variable {b : Int} {d : D}
theorem mod_pos {a : Int} {m : Nat} (hm : 0 < m) : 0 ≤ a % (m : Int) ∧ a % (m : Int) < m := ⟨Int.emod_nonneg _ (by omega), Int.emod_lt_of_pos _ (by omega)⟩
theorem mix_ok (n t : Int) (ht : t.natAbs < 2 ^ 60) : ∃ r, f_law_mix [.p (.int n), .p (.int t)] = .ok (.p (.int r)) (.p .non) := by
  have h0 : 0 ≤ n % 2147483647 ∧ n % 2147483647 < 2147483647 := by omega
  have e1 : pMul (.int (n % 2147483647)) (.int 48271) = some (.int (n % 2147483647 * 48271)) := mul_ok (a := 40) (b := 40) (by omega) (by omega) (by omega) (by omega) (by omega)
  have e2 : pMul (.int t) (.int 69621) = some (.int (t * 69621)) := mul_ok (a := 60) (b := 40) ht (by omega) (by omega) (by omega) (by omega)
  have e3 : pMul (.int t) (.int 39373) = some (.int (t * 39373)) := mul_ok (a := 60) (b := 40) ht (by omega) (by omega) (by omega) (by omega)
  have h1 : ∃ f, (n % 2147483647 * 48271 + t * 69621 + 17) % 2147483647 = f ∧ 0 ≤ f ∧ f < 2147483647 := ⟨_, rfl, by omega⟩
  obtain ⟨f, ef, f0, f1⟩ := h1
  have e4 : pMul (.int f) (.int f) = some (.int (f * f)) := mul_ok (a := 40) (b := 40) (by omega) (by omega) (by omega) (by omega) (by omega)
  have e5 : pMul (.int f) (.int 16807) = some (.int (f * 16807)) := mul_ok (a := 40) (b := 40) (by omega) (by omega) (by omega) (by omega) (by omega)
  have h2 : ∃ s, (f * f + f * 16807 + t * 39373 + 5) % 2147483629 = s ∧ 0 ≤ s ∧ s < 2147483629 := ⟨_, rfl, Int.emod_nonneg _ (by omega), Int.emod_lt_of_pos _ (by omega)⟩
  obtain ⟨s, es, s0, s1⟩ := h2
  have e6 : pMul (.int s) (.int 40692) = some (.int (s * 40692)) := mul_ok (a := 40) (b := 40) (by omega) (by omega) (by omega) (by omega) (by omega)
  have e7 : Nat.log2 4096 < 9000 := by decide
  refine ⟨(s * 40692 + s / 4096 + 11) % 2147483587, ?_⟩
  simp [f_law_mix, F_law_mix, e1, e2, e3, ef, e4, e5, es, e6, e7]
theorem fits90 : fits62 90 = true := by decide
theorem mixed_loop (n t m : Int) (h0 : 0 ≤ t) (ht : t ≤ 1000000000000) : ∀ (ks : List Int) (j : Nat) (tot b : Int) (s : Slot), (∀ k ∈ ks, 0 ≤ k ∧ k < 90) → j + ks.length ≤ 90 → tot.natAbs < 2 ^ (20 * j + 1) → b.natAbs < 2 ^ (20 * j + 1) → Fr1 s →
    ∃ tot' b' s', forL (.n 5) B_law_mixed_0 (ks.map P.int) [.var (.p (.int n)), .var (.p (.int t)), .var (.p (.int m)), .var (.p (.int tot)), .var (.p (.int b)), s] = .nx [.var (.p (.int n)), .var (.p (.int t)), .var (.p (.int m)), .var (.p (.int tot')), .var (.p (.int b')), s']
  | [], j, tot, b, s, _, _, _, _, _ => ⟨tot, b, s, by simp⟩
  | k :: ks, j, tot, b, s, hk, hl, h1, h2, fr => by
    have k0 := hk k List.mem_cons_self
    obtain ⟨r, er⟩ := mix_ok n (t * 97 + k) (by omega)
    have hj : j ≤ 90 := by simp at hl; omega
    have e1 : pMul (.int tot) (.int 1000003) = some (.int (tot * 1000003)) := mul_ok (a := 20 * j + 1) (b := 40) h1 (by omega) (by omega) (by omega) (by omega)
    have e2 : pMul (.int b) (.int 1000003) = some (.int (b * 1000003)) := mul_ok (a := 20 * j + 1) (b := 40) h2 (by omega) (by omega) (by omega) (by omega)
    have e3 : pMul (.int t) (.int 97) = some (.int (t * 97)) := mul_ok (a := 60) (b := 40) (by omega) (by omega) (by omega) (by omega) (by omega)
    have hN : 2 ^ (20 * (j + 1) + 1) = 2 ^ (20 * j + 1) * 1048576 := by rw [show 20 * (j + 1) + 1 = (20 * j + 1) + 20 by omega, Nat.pow_add]
    generalize 2 ^ (20 * j + 1) = N at h1 h2 hN
    have ih := mixed_loop n t m h0 ht ks (j + 1) (tot * 1000003 + r % 1000003) (b * 1000003) (.var (.p (.int k))) (fun z hz => hk z (List.mem_cons_of_mem _ hz)) (by simp at hl; omega) (by rw [hN]; omega) (by rw [hN]; omega) (.va _)
    by_cases hb : m ≤ b
    · refine ⟨tot, b, .var (.p (.int k)), ?_⟩
      rw [List.map_cons, q_forc]
      cases fr <;> simp [B_law_mixed_0, hb]
    · obtain ⟨t1, b2, s2, e5⟩ := ih
      refine ⟨t1, b2, s2, ?_⟩
      rw [← e5, List.map_cons, q_forc]
      cases fr <;> simp [B_law_mixed_0, hb, e1, e2, e3, er]
theorem mixed_ok (n t m : Int) (h0 : 0 ≤ t) (ht : t ≤ 1000000000000) (hm : 0 < m) : ∃ r, f_law_mixed [.p (.int n), .p (.int t), .p (.int m)] = .ok (.p (.int r)) (.p .non) ∧ 0 ≤ r ∧ r < m := by
  obtain ⟨tot, b, s, e⟩ := mixed_loop n t m h0 ht ((List.range 90).map fun k : Nat => 0 + (k : Int)) 0 0 1 .no (fun k hk => by have := mem_rangeL hk; omega) (by simp) (by simp) (by simp) .no
  refine ⟨tot % m, ?_, Int.emod_nonneg _ (by omega), Int.emod_lt_of_pos _ hm⟩
  rw [← rangeL_eq] at e
  simp [f_law_mixed, F_law_mixed, fits90, e, hm]
def St (b : Int) (d : D) : Prop := ∃ (ns : List Int) (at_ gr tu sd : Int), d = .d [.str "cells", .str "at", .str "great", .str "turn", .str "seed"] [.p (.lst (ns.map P.int)), .p (.int at_), .p (.int gr), .p (.int tu), .p (.int sd)] ∧ 0 ≤ at_ ∧ 0 ≤ tu ∧ tu ≤ b
theorem St.mono {b c : Int} {d : D} (h : St b d) (hc : b ≤ c) : St c d := by
  obtain ⟨ns, a, g, t, s, e, h1, h2, h3⟩ := h
  exact ⟨ns, a, g, t, s, e, h1, h2, by omega⟩
@[simp] theorem st_cells {c a g t s : P} : pIx (.dct [.str "cells", .str "at", .str "great", .str "turn", .str "seed"] [c, a, g, t, s]) (.str "cells") = some c := rfl
@[simp] theorem st_at {c a g t s : P} : pIx (.dct [.str "cells", .str "at", .str "great", .str "turn", .str "seed"] [c, a, g, t, s]) (.str "at") = some a := rfl
@[simp] theorem st_great {c a g t s : P} : pIx (.dct [.str "cells", .str "at", .str "great", .str "turn", .str "seed"] [c, a, g, t, s]) (.str "great") = some g := rfl
@[simp] theorem st_turn {c a g t s : P} : pIx (.dct [.str "cells", .str "at", .str "great", .str "turn", .str "seed"] [c, a, g, t, s]) (.str "turn") = some t := rfl
@[simp] theorem st_seed {c a g t s : P} : pIx (.dct [.str "cells", .str "at", .str "great", .str "turn", .str "seed"] [c, a, g, t, s]) (.str "seed") = some s := rfl
@[simp] theorem ss_at {C A G T S V : D} : hSet [.d [.str "cells", .str "at", .str "great", .str "turn", .str "seed"] [C, A, G, T, S], V, .p (.str "at")] = .ok (.p .non) (.d [.str "cells", .str "at", .str "great", .str "turn", .str "seed"] [C, V, G, T, S]) := rfl
@[simp] theorem ss_great {C A G T S V : D} : hSet [.d [.str "cells", .str "at", .str "great", .str "turn", .str "seed"] [C, A, G, T, S], V, .p (.str "great")] = .ok (.p .non) (.d [.str "cells", .str "at", .str "great", .str "turn", .str "seed"] [C, A, V, T, S]) := rfl
@[simp] theorem ss_turn {C A G T S V : D} : hSet [.d [.str "cells", .str "at", .str "great", .str "turn", .str "seed"] [C, A, G, T, S], V, .p (.str "turn")] = .ok (.p .non) (.d [.str "cells", .str "at", .str "great", .str "turn", .str "seed"] [C, A, G, V, S]) := rfl
theorem pow18 : pPow (.int 10) (.int 18) = some (.int 1000000000000000000) := rfl
theorem take_ok {b : Int} {d : D} (h : St b d) (hb : b < 1000000000000) (m : Int) (hm : m < 10 ^ 40) : ∃ r d', f_law_take [d, .p (.int m)] = .ok (.p (.int r)) d' ∧ St (b + 1) d' ∧ (1 ≤ m → 0 ≤ r ∧ r < m) := by
  obtain ⟨ns, a, g, t, s, e, h1, h2, h3⟩ := h
  subst e
  by_cases m2 : m < 2
  · exact ⟨0, _, by simp [f_law_take, F_law_take, m2], ⟨ns, a, g, t, s, rfl, h1, h2, by omega⟩, fun _ => by omega⟩
  have hlog : m.natAbs.log2 < 9000 := by
    have : m.natAbs < 2 ^ 140 := by omega
    have := log2_lt this (by omega)
    omega
  by_cases c1 : g < 2
  · by_cases c2 : a < (ns.length : Nat)
    · obtain ⟨y, ey, my⟩ := at_in (l := ns.map P.int) h1 (by simpa using c2)
      obtain ⟨z, _, ez⟩ := List.mem_map.mp my
      subst ez
      by_cases c3 : (if z < 0 then -z else z) < 1000000000000000000
      · obtain ⟨r, er, r0, r1⟩ := mixed_ok z (t + 1) m (by omega) (by omega) (by omega)
        refine ⟨r, _, ?_, ⟨ns, a + 1, g, t + 1, s, rfl, by omega, by omega, by omega⟩, fun _ => ⟨r0, r1⟩⟩
        simp [f_law_take, F_law_take, m2, c1, c2, c3, ey, er, pow18]
      · refine ⟨(if z < 0 then -z else z) % m, _, ?_, ⟨ns, a + 1, (if z < 0 then -z else z) / m, t + 1, s, rfl, by omega, by omega, by omega⟩, fun _ => ⟨Int.emod_nonneg _ (by omega), Int.emod_lt_of_pos _ (by omega)⟩⟩
        have c4 : 1 < (if z < 0 then -z else z) := by omega
        have c5 : 0 < m := by omega
        simp [f_law_take, F_law_take, m2, c1, c2, c3, c4, c5, ey, hlog, pow18]
    · obtain ⟨r, er, r0, r1⟩ := mixed_ok s (t + 1) m (by omega) (by omega) (by omega)
      refine ⟨r, _, ?_, ⟨ns, a, g, t + 1, s, rfl, by omega, by omega, by omega⟩, fun _ => ⟨r0, r1⟩⟩
      have c4 : ¬ 1 < g := by omega
      simp [f_law_take, F_law_take, m2, c1, c2, c4, er]
  · have c4 : 1 < g := by omega
    have c5 : 0 < m := by omega
    refine ⟨g % m, _, ?_, ⟨ns, a, g / m, t + 1, s, rfl, by omega, by omega, by omega⟩, fun _ => ⟨Int.emod_nonneg _ (by omega), Int.emod_lt_of_pos _ (by omega)⟩⟩
    simp [f_law_take, F_law_take, m2, c1, c4, c5, hlog]
theorem hit_ok (h : St b d) (hb : b < 1000000000000) (m : Int) (hm : m < 10 ^ 40) : ∃ c d', f_law_hit [d, .p (.int m)] = .ok (.p (.bl c)) d' ∧ St (b + 1) d' := by
  obtain ⟨r, d', e, s, _⟩ := take_ok h hb m hm
  exact ⟨decide (r = 0), d', by simp [f_law_hit, F_law_hit, e], s⟩
theorem pick_ok (h : St b d) (hb : b < 1000000000000) (xs : List P) (h1 : 1 ≤ xs.length) (h2 : xs.length < 10 ^ 30) : ∃ x d', f_law_pick [d, .p (.lst xs)] = .ok (.p x) d' ∧ St (b + 1) d' ∧ x ∈ xs := by
  obtain ⟨r, d', e, s, hr⟩ := take_ok h hb (xs.length : Nat) (by omega)
  obtain ⟨r0, r1⟩ := hr (by omega)
  obtain ⟨x, ex, mx⟩ := at_in r0 r1
  exact ⟨x, d', by simp [f_law_pick, F_law_pick, e, ex], s, mx⟩
theorem pick_okT (h : St b d) (hb : b < 1000000000000) (xs : List P) (h1 : 1 ≤ xs.length) (h2 : xs.length < 10 ^ 30) : ∃ x d', f_law_pick [d, .p (.tup xs)] = .ok (.p x) d' ∧ St (b + 1) d' ∧ x ∈ xs := by
  obtain ⟨r, d', e, s, hr⟩ := take_ok h hb (xs.length : Nat) (by omega)
  obtain ⟨r0, r1⟩ := hr (by omega)
  obtain ⟨x, ex, mx⟩ := at_in r0 r1
  exact ⟨x, d', by simp [f_law_pick, F_law_pick, e, ex], s, mx⟩
theorem pick_okL (h : St b d) (hb : b < 1000000000000) (xs : List D) (h1 : 1 ≤ xs.length) (h2 : xs.length < 10 ^ 30) : ∃ x d', f_law_pick [d, .l xs] = .ok (.p x) d' ∧ St (b + 1) d' ∧ x ∈ vws xs := by
  have hl := vws_length xs
  obtain ⟨r, d', e, s, hr⟩ := take_ok h hb ((vws xs).length : Nat) (by omega)
  obtain ⟨r0, r1⟩ := hr (by omega)
  obtain ⟨x, ex, mx⟩ := at_in r0 r1
  refine ⟨x, d', ?_, s, mx⟩
  cases hc : clean x <;> simp [f_law_pick, F_law_pick, e, ex, hc]
theorem span_ok (h : St b d) (hb : b < 1000000000000) (lo hi : Int) (h1 : lo ≤ hi) (h2 : hi - lo + 1 < 10 ^ 40) : ∃ r d', f_law_span [d, .p (.int lo), .p (.int hi)] = .ok (.p (.int r)) d' ∧ St (b + 1) d' ∧ lo ≤ r ∧ r ≤ hi := by
  obtain ⟨r, d', e, s, hr⟩ := take_ok h hb (hi - lo + 1) h2
  have := hr (by omega)
  exact ⟨lo + r, d', by simp [f_law_span, F_law_span, e], s, by omega, by omega⟩
theorem power_loop (n : Int) : ∀ (ks : List Int) (j : Nat) (s : Slot), j + ks.length ≤ 40 → Fr1 s →
    ∃ s', forL (.n 3) B_law_power_0 (ks.map P.int) [.var (.p (.int 10)), .var (.p (.int n)), .var (.p (.int (10 ^ j))), s] = .nx [.var (.p (.int 10)), .var (.p (.int n)), .var (.p (.int (10 ^ (j + ks.length)))), s']
  | [], j, s, _, _ => ⟨s, by simp⟩
  | k :: ks, j, s, hl, fr => by
    have hj : j < 40 := by simp at hl; omega
    have hp : (10 : Nat) ^ j ≤ 10 ^ 40 := Nat.pow_le_pow_right (by omega) (by omega)
    have hz : ((10 : Int) ^ j).natAbs = 10 ^ j := by rw [Int.natAbs_pow]; rfl
    have e1 : pMul (.int (10 ^ j)) (.int 10) = some (.int (10 ^ j * 10)) := mul_ok (a := 200) (b := 40) (by rw [hz]; omega) (by omega) (by omega) (by omega) (by omega)
    obtain ⟨s', e⟩ := power_loop n ks (j + 1) (.var (.p (.int k))) (by simp at hl; omega) (.va _)
    refine ⟨s', ?_⟩
    rw [Int.pow_succ, show j + 1 + ks.length = j + (k :: ks).length by simp; omega] at e
    rw [← e, List.map_cons, q_forc]
    cases fr <;> simp [B_law_power_0, e1]
theorem power_ok (c : Int) (h0 : 0 ≤ c) (h1 : c ≤ 40) : f_law_power [.p (.int 10), .p (.int c)] = .ok (.p (.int (10 ^ c.toNat))) (.p .non) := by
  obtain ⟨s, e⟩ := power_loop c ((List.range c.toNat).map fun k : Nat => 0 + (k : Int)) 0 .no (by simp; omega) .no
  rw [← rangeL_eq] at e
  simp only [Int.pow_zero, List.length_map, List.length_range, Nat.zero_add] at e
  simp [f_law_power, F_law_power, fits_of (i := c) (by omega) (by omega), e]
theorem number_ok (h : St b d) (hb : b < 100000000000) : ∃ r d', f_law_number [d] = .ok (.p (.int r)) d' ∧ St (b + 3) d' ∧ Sm r := by
  obtain ⟨c, d1, e1, s1, hc⟩ := take_ok h (by omega) 3 (by omega)
  have hc := hc (by omega)
  by_cases c0 : c = 0
  · subst c0
    obtain ⟨x, d2, e2, s2, mx⟩ := pick_ok s1 (by omega) [.int 0, .int 1, .int (-1), .int (10 ^ 30 - 1), .int (1 - 10 ^ 30), .int (10 ^ 29), .int (10 ^ 9), .int (10 ^ 9 + 1), .int (-10), .int 999, .int 1000, .int 2] (by simp) (by simp)
    have hx : ∃ r, x = .int r ∧ Sm r := by
      simp only [List.mem_cons, List.not_mem_nil, or_false] at mx
      rcases mx with q | q | q | q | q | q | q | q | q | q | q | q <;> exact ⟨_, q, by unfold Sm; omega⟩
    obtain ⟨r, ex, sr⟩ := hx
    subst ex
    exact ⟨r, d2, by simp only [f_law_number, F_law_number]; simp [e1, pow30, pow29, pow9, lineN]; simp at e2; simp [e2], s2.mono (by omega), sr⟩
  · by_cases c1 : c = 1
    · subst c1
      obtain ⟨r, d2, e2, s2, r0, r1⟩ := span_ok s1 (by omega) (-9) 9 (by omega) (by omega)
      exact ⟨r, d2, by simp only [f_law_number, F_law_number]; simp [e1, pow30, pow29, pow9, lineN, e2], s2.mono (by omega), by unfold Sm; omega⟩
    · obtain ⟨k, d2, e2, s2, hk⟩ := take_ok s1 (by omega) 30 (by omega)
      have hk := hk (by omega)
      have e3 := power_ok (1 + k) (by omega) (by omega)
      have hp : (10 : Int) ^ (1 + k).toNat ≤ 10 ^ 30 := by
        have : (10 : Nat) ^ (1 + k).toNat ≤ 10 ^ 30 := Nat.pow_le_pow_right (by omega) (by omega)
        exact_mod_cast this
      have hp0 : (1 : Int) ≤ 10 ^ (1 + k).toNat := by
        have : (1 : Nat) ≤ 10 ^ (1 + k).toNat := Nat.one_le_pow _ _ (by omega)
        exact_mod_cast this
      generalize (10 : Int) ^ (1 + k).toNat = p at e3 hp hp0
      obtain ⟨r, d3, e4, s3, r0, r1⟩ := span_ok s2 (by omega) (1 - p) (p - 1) (by omega) (by omega)
      exact ⟨r, d3, by simp only [f_law_number, F_law_number]; simp [e1, pow30, pow29, pow9, lineN, c0, c1, e2, e3, e4], s3.mono (by omega), by unfold Sm; omega⟩
theorem store_loop (sc : D) : ∀ (ns : List Int) (sd : Int) (s : Slot), sd.natAbs < 2147483647 → Fr1 s → ∃ sd' s', forL (.n 2) B_law_store_0 (ns.map P.int) [.var sc, .var (.p (.int sd)), s] = .nx [.var sc, .var (.p (.int sd')), s'] ∧ sd'.natAbs < 2147483647
  | [], sd, s, h, _ => ⟨sd, s, by simp, h⟩
  | n :: ns, sd, s, h, fr => by
    have e1 : pMul (.int sd) (.int 31) = some (.int (sd * 31)) := mul_ok (a := 40) (b := 40) (by omega) (by omega) (by omega) (by omega) (by omega)
    obtain ⟨sd', s', e, h'⟩ := store_loop sc ns ((sd * 31 + n % 2147483647 + 1) % 2147483647) (.var (.p (.int n))) (by omega) (.va _)
    refine ⟨sd', s', ?_, h'⟩
    rw [← e, List.map_cons, q_forc]
    cases fr <;> simp [B_law_store_0, e1]
theorem store_ok (ns : List Int) : ∃ d, f_law_store [.p (.scr ns)] = .ok d (.p .non) ∧ St 0 d := by
  obtain ⟨sd, s, e, _⟩ := store_loop (.p (.scr ns)) ns 1618033 .no (by decide) .no
  refine ⟨_, ?_, ⟨ns, 0, 0, 0, sd, rfl, by omega, by omega, by omega⟩⟩
  have e2 : bListA [.scr ns] = some (.lst (ns.map P.int)) := rfl
  have e3 : ∀ sd : P, hDict [.str "cells", .str "at", .str "great", .str "turn", .str "seed"] [.d [] [], .p (.lst (ns.map P.int)), .p (.int 0), .p (.int 0), .p (.int 0), .p sd] = .ok (.d [.str "cells", .str "at", .str "great", .str "turn", .str "seed"] [.p (.lst (ns.map P.int)), .p (.int 0), .p (.int 0), .p (.int 0), .p sd]) (.p .non) := fun sd => rfl
  simp [f_law_store, F_law_store, e, e2, eNewD, kP, e3]
theorem same_loop (self : Fn) (xs : List P) (hs : ∀ x ∈ xs, self [.p x, .p x] = .ok (.p (.bl true)) (.p .non)) : ∀ (ks : List Int) (s : Slot), (∀ k ∈ ks, 0 ≤ k ∧ k < xs.length) → Fr1 s →
    ∃ s', forL (.n 2) (B_law_same_0 self) (ks.map P.int) [.var (.p (.tup xs)), .var (.p (.tup xs)), s] = .nx [.var (.p (.tup xs)), .var (.p (.tup xs)), s']
  | [], s, _, _ => ⟨s, by simp⟩
  | k :: ks, s, hk, fr => by
    have k0 := hk k List.mem_cons_self
    obtain ⟨x, ex, mx⟩ := at_in (l := xs) k0.1 k0.2
    obtain ⟨s', e⟩ := same_loop self xs hs ks (.var (.p (.int k))) (fun z hz => hk z (List.mem_cons_of_mem _ hz)) (.va _)
    refine ⟨s', ?_⟩
    rw [← e, List.map_cons, q_forc]
    cases fr <;> simp [B_law_same_0, ex, hs x mx]
theorem ts0 (xs : List P) : (sIf (tE (eW [1] (g2 pIs (gV 1) (gC .non)))) (sRet (eW [0] (g2 pIs (gV 0) (gC .non)))) (sNx)) [.var (.p (.tup xs)), .var (.p (.tup xs)), .no] = .nx [.var (.p (.tup xs)), .var (.p (.tup xs)), .no] := by
  simp [pIs, isNon, isBl, t_ti, t_ts, t_tt, t_tl]
theorem ts1 (xs : List P) : (sIf (tE (eW [1] (g2 pIs (gV 1) (gC (.bl true))))) (sRet (eW [0] (g2 pIs (gV 0) (gC (.bl true))))) (sNx)) [.var (.p (.tup xs)), .var (.p (.tup xs)), .no] = .nx [.var (.p (.tup xs)), .var (.p (.tup xs)), .no] := by
  simp [pIs, isNon, isBl, t_ti, t_ts, t_tt, t_tl]
theorem ts2 (xs : List P) : (sIf (tE (eW [1] (g2 pIs (gV 1) (gC (.bl false))))) (sRet (eW [0] (g2 pIs (gV 0) (gC (.bl false))))) (sNx)) [.var (.p (.tup xs)), .var (.p (.tup xs)), .no] = .nx [.var (.p (.tup xs)), .var (.p (.tup xs)), .no] := by
  simp [pIs, isNon, isBl, t_ti, t_ts, t_tt, t_tl]
theorem ts3 (xs : List P) : (sIf (tE (eW [1] (gN bIsTy [gV 1, gC (.ty "int")]))) (sRet (eAnd (eOp [.v 0] f_law_is_integer) (eW [0, 1] (g2 pEq (gV 0) (gV 1))))) (sNx)) [.var (.p (.tup xs)), .var (.p (.tup xs)), .no] = .nx [.var (.p (.tup xs)), .var (.p (.tup xs)), .no] := by
  simp [pIs, isNon, isBl, t_ti, t_ts, t_tt, t_tl]
theorem ts4 (xs : List P) : (sIf (tE (eW [1] (gN bIsTy [gV 1, gC (.ty "str")]))) (sRet (eAnd (eW [0] (gN bIsTy [gV 0, gC (.ty "str")])) (eW [0, 1] (g2 pEq (gV 0) (gV 1))))) (sNx)) [.var (.p (.tup xs)), .var (.p (.tup xs)), .no] = .nx [.var (.p (.tup xs)), .var (.p (.tup xs)), .no] := by
  simp [pIs, isNon, isBl, t_ti, t_ts, t_tt, t_tl]
theorem ts5 (xs : List P) : (sIf (tAnd (tE (eW [1] (gN bIsTy [gV 1, gC (.ty "tuple")]))) (tNot (tE (eW [0] (gN bIsTy [gV 0, gC (.ty "tuple")]))))) (sRet (eW [] (gC (.bl false)))) (sNx)) [.var (.p (.tup xs)), .var (.p (.tup xs)), .no] = .nx [.var (.p (.tup xs)), .var (.p (.tup xs)), .no] := by
  simp [pIs, isNon, isBl, t_ti, t_ts, t_tt, t_tl]
theorem ts6 (xs : List P) : (sIf (tAnd (tE (eW [1] (gN bIsTy [gV 1, gC (.ty "list")]))) (tNot (tE (eW [0] (gN bIsTy [gV 0, gC (.ty "list")]))))) (sRet (eW [] (gC (.bl false)))) (sNx)) [.var (.p (.tup xs)), .var (.p (.tup xs)), .no] = .nx [.var (.p (.tup xs)), .var (.p (.tup xs)), .no] := by
  simp [pIs, isNon, isBl, t_ti, t_ts, t_tt, t_tl]
theorem ts7 (xs : List P) : (sIf (tE (eW [0, 1] (g2 pNe (gN bLen [gV 0]) (gN bLen [gV 1])))) (sRet (eW [] (gC (.bl false)))) (sNx)) [.var (.p (.tup xs)), .var (.p (.tup xs)), .no] = .nx [.var (.p (.tup xs)), .var (.p (.tup xs)), .no] := by
  simp [pIs, isNon, isBl, t_ti, t_ts, t_tt, t_tl]
theorem ts8 (self : Fn) (xs : List P) (j : Int) (hj : bLen [.tup xs] = some (.int j)) (f : fits62 j = true) {s' : Slot} (e : forL (.n 2) (B_law_same_0 self) (rangeL 0 j.toNat) [.var (.p (.tup xs)), .var (.p (.tup xs)), .no] = .nx [.var (.p (.tup xs)), .var (.p (.tup xs)), s']) :
    sForS (.n 2) (oRg [.e (eW [1] (gN bLen [gV 1]))]) (B_law_same_0 self) [.var (.p (.tup xs)), .var (.p (.tup xs)), .no] = .nx [.var (.p (.tup xs)), .var (.p (.tup xs)), s'] := by
  have e1 : oRg [.e (eW [1] (gN bLen [gV 1]))] [.var (.p (.tup xs)), .var (.p (.tup xs)), .no] = .ok (rangeL 0 j.toNat) [.var (.p (.tup xs)), .var (.p (.tup xs)), .no] := by simp [-q_lenT, hj, f]
  rw [q_forS, e1]
  exact e
theorem same_int (n : Nat) (i : Int) : r_law_same (n + 1) [.p (.int i), .p (.int i)] = .ok (.p (.bl true)) (.p .non) := by
  simp [r_law_same, G_law_same, pIs, isNon, isBl, t_ii, t_ib, f_law_is_integer, F_law_is_integer, pNot]
theorem same_str (n : Nat) (s : Str) (h : (s.cps.all (· < 0x110000)) = true) : r_law_same (n + 1) [.p (.str s), .p (.str s)] = .ok (.p (.bl true)) (.p .non) := by
  have e := eq_str h
  simp [r_law_same, G_law_same, pIs, isNon, isBl, t_si, t_ss, e]
theorem same_tup (n : Nat) (xs : List P) (hl : xs.length ≤ 1000000) (hx : ∀ x ∈ xs, r_law_same n [.p x, .p x] = .ok (.p (.bl true)) (.p .non)) : r_law_same (n + 1) [.p (.tup xs), .p (.tup xs)] = .ok (.p (.bl true)) (.p .non) := by
  obtain ⟨s', e⟩ := same_loop (r_law_same n) xs hx ((List.range xs.length).map fun k : Nat => 0 + (k : Int)) .no (fun k hk => by have := mem_rangeL hk; omega) .no
  rw [← rangeL_eq] at e
  obtain ⟨j, ej, hj, f⟩ : ∃ j : Int, j.toNat = xs.length ∧ bLen [.tup xs] = some (.int j) ∧ fits62 j = true := ⟨_, Int.toNat_natCast _, rfl, fits_of (by omega) (by omega)⟩
  rw [← ej] at e
  have g : G_law_same (r_law_same n) [.var (.p (.tup xs)), .var (.p (.tup xs)), .no] = .rt (.p (.bl true)) [.var (.p (.tup xs)), .var (.p (.tup xs)), s'] := by
    unfold G_law_same
    rw [seq_nx (ts0 xs), seq_nx (ts1 xs), seq_nx (ts2 xs), seq_nx (ts3 xs), seq_nx (ts4 xs), seq_nx (ts5 xs), seq_nx (ts6 xs), seq_nx (ts7 xs), seq_nx (ts8 _ xs j hj f e)]
    rfl
  rw [r_law_same, q_mk, if_pos (show [_, _].length = 2 from rfl), q_enterF]
  have e0 : (Slot.var (.p (.tup xs)) :: (List.map Slot.var [D.p (.tup xs)] ++ List.replicate (3 - ([D.p (.tup xs)].length + 1)) .no)) = [.var (.p (.tup xs)), .var (.p (.tup xs)), .no] := rfl
  rw [e0, g]; rfl
theorem same_loopL (self : Fn) (xs : List P) (hs : ∀ x ∈ xs, self [.p x, .p x] = .ok (.p (.bl true)) (.p .non)) : ∀ (ks : List Int) (s : Slot), (∀ k ∈ ks, 0 ≤ k ∧ k < xs.length) → Fr1 s →
    ∃ s', forL (.n 2) (B_law_same_0 self) (ks.map P.int) [.var (.p (.lst xs)), .var (.p (.lst xs)), s] = .nx [.var (.p (.lst xs)), .var (.p (.lst xs)), s']
  | [], s, _, _ => ⟨s, by simp⟩
  | k :: ks, s, hk, fr => by
    have k0 := hk k List.mem_cons_self
    obtain ⟨x, ex, mx⟩ := at_in (l := xs) k0.1 k0.2
    obtain ⟨s', e⟩ := same_loopL self xs hs ks (.var (.p (.int k))) (fun z hz => hk z (List.mem_cons_of_mem _ hz)) (.va _)
    refine ⟨s', ?_⟩
    rw [← e, List.map_cons, q_forc]
    cases fr <;> simp [B_law_same_0, ex, hs x mx]
theorem ts0L (xs : List P) : (sIf (tE (eW [1] (g2 pIs (gV 1) (gC .non)))) (sRet (eW [0] (g2 pIs (gV 0) (gC .non)))) (sNx)) [.var (.p (.lst xs)), .var (.p (.lst xs)), .no] = .nx [.var (.p (.lst xs)), .var (.p (.lst xs)), .no] := by
  simp [pIs, isNon, isBl, t_tiL, t_tsL, t_ttL, t_tlL]
theorem ts1L (xs : List P) : (sIf (tE (eW [1] (g2 pIs (gV 1) (gC (.bl true))))) (sRet (eW [0] (g2 pIs (gV 0) (gC (.bl true))))) (sNx)) [.var (.p (.lst xs)), .var (.p (.lst xs)), .no] = .nx [.var (.p (.lst xs)), .var (.p (.lst xs)), .no] := by
  simp [pIs, isNon, isBl, t_tiL, t_tsL, t_ttL, t_tlL]
theorem ts2L (xs : List P) : (sIf (tE (eW [1] (g2 pIs (gV 1) (gC (.bl false))))) (sRet (eW [0] (g2 pIs (gV 0) (gC (.bl false))))) (sNx)) [.var (.p (.lst xs)), .var (.p (.lst xs)), .no] = .nx [.var (.p (.lst xs)), .var (.p (.lst xs)), .no] := by
  simp [pIs, isNon, isBl, t_tiL, t_tsL, t_ttL, t_tlL]
theorem ts3L (xs : List P) : (sIf (tE (eW [1] (gN bIsTy [gV 1, gC (.ty "int")]))) (sRet (eAnd (eOp [.v 0] f_law_is_integer) (eW [0, 1] (g2 pEq (gV 0) (gV 1))))) (sNx)) [.var (.p (.lst xs)), .var (.p (.lst xs)), .no] = .nx [.var (.p (.lst xs)), .var (.p (.lst xs)), .no] := by
  simp [pIs, isNon, isBl, t_tiL, t_tsL, t_ttL, t_tlL]
theorem ts4L (xs : List P) : (sIf (tE (eW [1] (gN bIsTy [gV 1, gC (.ty "str")]))) (sRet (eAnd (eW [0] (gN bIsTy [gV 0, gC (.ty "str")])) (eW [0, 1] (g2 pEq (gV 0) (gV 1))))) (sNx)) [.var (.p (.lst xs)), .var (.p (.lst xs)), .no] = .nx [.var (.p (.lst xs)), .var (.p (.lst xs)), .no] := by
  simp [pIs, isNon, isBl, t_tiL, t_tsL, t_ttL, t_tlL]
theorem ts5L (xs : List P) : (sIf (tAnd (tE (eW [1] (gN bIsTy [gV 1, gC (.ty "tuple")]))) (tNot (tE (eW [0] (gN bIsTy [gV 0, gC (.ty "tuple")]))))) (sRet (eW [] (gC (.bl false)))) (sNx)) [.var (.p (.lst xs)), .var (.p (.lst xs)), .no] = .nx [.var (.p (.lst xs)), .var (.p (.lst xs)), .no] := by
  simp [pIs, isNon, isBl, t_tiL, t_tsL, t_ttL, t_tlL]
theorem ts6L (xs : List P) : (sIf (tAnd (tE (eW [1] (gN bIsTy [gV 1, gC (.ty "list")]))) (tNot (tE (eW [0] (gN bIsTy [gV 0, gC (.ty "list")]))))) (sRet (eW [] (gC (.bl false)))) (sNx)) [.var (.p (.lst xs)), .var (.p (.lst xs)), .no] = .nx [.var (.p (.lst xs)), .var (.p (.lst xs)), .no] := by
  simp [pIs, isNon, isBl, t_tiL, t_tsL, t_ttL, t_tlL]
theorem ts7L (xs : List P) : (sIf (tE (eW [0, 1] (g2 pNe (gN bLen [gV 0]) (gN bLen [gV 1])))) (sRet (eW [] (gC (.bl false)))) (sNx)) [.var (.p (.lst xs)), .var (.p (.lst xs)), .no] = .nx [.var (.p (.lst xs)), .var (.p (.lst xs)), .no] := by
  simp [pIs, isNon, isBl, t_tiL, t_tsL, t_ttL, t_tlL]
theorem ts8L (self : Fn) (xs : List P) (j : Int) (hj : bLen [.lst xs] = some (.int j)) (f : fits62 j = true) {s' : Slot} (e : forL (.n 2) (B_law_same_0 self) (rangeL 0 j.toNat) [.var (.p (.lst xs)), .var (.p (.lst xs)), .no] = .nx [.var (.p (.lst xs)), .var (.p (.lst xs)), s']) :
    sForS (.n 2) (oRg [.e (eW [1] (gN bLen [gV 1]))]) (B_law_same_0 self) [.var (.p (.lst xs)), .var (.p (.lst xs)), .no] = .nx [.var (.p (.lst xs)), .var (.p (.lst xs)), s'] := by
  have e1 : oRg [.e (eW [1] (gN bLen [gV 1]))] [.var (.p (.lst xs)), .var (.p (.lst xs)), .no] = .ok (rangeL 0 j.toNat) [.var (.p (.lst xs)), .var (.p (.lst xs)), .no] := by simp [-q_lenL, hj, f]
  rw [q_forS, e1]
  exact e
theorem same_tupL (n : Nat) (xs : List P) (hl : xs.length ≤ 1000000) (hx : ∀ x ∈ xs, r_law_same n [.p x, .p x] = .ok (.p (.bl true)) (.p .non)) : r_law_same (n + 1) [.p (.lst xs), .p (.lst xs)] = .ok (.p (.bl true)) (.p .non) := by
  obtain ⟨s', e⟩ := same_loopL (r_law_same n) xs hx ((List.range xs.length).map fun k : Nat => 0 + (k : Int)) .no (fun k hk => by have := mem_rangeL hk; omega) .no
  rw [← rangeL_eq] at e
  obtain ⟨j, ej, hj, f⟩ : ∃ j : Int, j.toNat = xs.length ∧ bLen [.lst xs] = some (.int j) ∧ fits62 j = true := ⟨_, Int.toNat_natCast _, rfl, fits_of (by omega) (by omega)⟩
  rw [← ej] at e
  have g : G_law_same (r_law_same n) [.var (.p (.lst xs)), .var (.p (.lst xs)), .no] = .rt (.p (.bl true)) [.var (.p (.lst xs)), .var (.p (.lst xs)), s'] := by
    unfold G_law_same
    rw [seq_nx (ts0L xs), seq_nx (ts1L xs), seq_nx (ts2L xs), seq_nx (ts3L xs), seq_nx (ts4L xs), seq_nx (ts5L xs), seq_nx (ts6L xs), seq_nx (ts7L xs), seq_nx (ts8L _ xs j hj f e)]
    rfl
  rw [r_law_same, q_mk, if_pos (show [_, _].length = 2 from rfl), q_enterF]
  have e0 : (Slot.var (.p (.lst xs)) :: (List.map Slot.var [D.p (.lst xs)] ++ List.replicate (3 - ([D.p (.lst xs)].length + 1)) .no)) = [.var (.p (.lst xs)), .var (.p (.lst xs)), .no] := rfl
  rw [e0, g]; rfl
inductive Pl : Nat → P → Prop where
  | int {n : Nat} (i : Int) : Pl (n + 1) (.int i)
  | str {n : Nat} (s : Str) : (s.cps.all (· < 0x110000)) = true → Pl (n + 1) (.str s)
  | tup {n : Nat} (xs : List P) : xs.length ≤ 1000000 → (∀ x ∈ xs, Pl n x) → Pl (n + 1) (.tup xs)
  | lst {n : Nat} (xs : List P) : xs.length ≤ 1000000 → (∀ x ∈ xs, Pl n x) → Pl (n + 1) (.lst xs)
  | non {n : Nat} : Pl (n + 1) .non
theorem same_non (n : Nat) : r_law_same (n + 1) [.p .non, .p .non] = .ok (.p (.bl true)) (.p .non) := by
  simp [r_law_same, G_law_same, pIs, isNon, isBl]
theorem same_rec : ∀ (n : Nat) (x : P), Pl n x → r_law_same n [.p x, .p x] = .ok (.p (.bl true)) (.p .non) := by
  intro n
  induction n with
  | zero => intro x h; cases h
  | succ n ih =>
    intro x h
    cases h with
    | int i => exact same_int n i
    | str s h => exact same_str n s h
    | tup xs hl hx => exact same_tup n xs hl fun x m => ih x (hx x m)
    | lst xs hl hx => exact same_tupL n xs hl fun x m => ih x (hx x m)
    | non => exact same_non n
theorem same_ok {x : P} (h : Pl 12 x) : f_law_same [.p x, .p x] = .ok (.p (.bl true)) (.p .non) := same_rec 12 x h

end
end Z
set_option Elab.async false
set_option linter.all false
set_option maxRecDepth 100000
set_option maxHeartbeats 4000000
namespace Z
open PySem L2 PySem.W
/-- one sign -/
abbrev ch (c : Nat) : P := .str ⟨#[c]⟩
def okC (L : List Nat) : Prop := ∀ c ∈ L, c < 128
theorem okC.at {L : List Nat} (h : okC L) {c : Nat} (m : c ∈ L) : c < 1114112 := by have := h c m; omega
@[simp] theorem q_chain {h h' : P → P → Option P} {a b c : VF} {env : Env} : gChain h h' a b c env = (a env).bind fun x => (b env).bind fun y => match h x y with
  | some (.bl true) => (c env).bind fun z => h' y z
  | some (.bl false) => some (.bl false)
  | _ => none := rfl
theorem le_ch {a c : Nat} (ha : a < 1114112) (hc : c < 1114112) : pLe (ch a) (ch c) = some (.bl (decide (a ≤ c))) := by
  have h1 : okCmp (ch a) (ch c) = true := by
    unfold okCmp
    simp [okO, cmbN, ha, hc]
  unfold pLe
  rw [h1]
  have l1 : ∀ a c : Nat, decide ([a] < [c]) = decide (a < c) := fun a c => by
    by_cases h : a < c
    · rw [decide_eq_true h, decide_eq_true (show [a] < [c] from List.Lex.rel h)]
    · refine (decide_eq_false ?_).trans (decide_eq_false h).symm
      intro z
      cases z with
      | rel q => exact h q
      | cons q => cases q
  simp only [if_true, cmpP, cmpS, ltS, l1]
  by_cases h : a < c
  · simp [h, Nat.le_of_lt h]
  · by_cases h2 : c < a
    · simp [h, h2, Nat.not_le_of_gt h2]
    · have : a = c := by omega
      subst this
      simp
theorem s0 : ("0" : Str) = ⟨#[48]⟩ := rfl
theorem s9 : ("9" : Str) = ⟨#[57]⟩ := rfl
theorem sa : ("a" : Str) = ⟨#[97]⟩ := rfl
theorem sz : ("z" : Str) = ⟨#[122]⟩ := rfl
theorem sm : ("-" : Str) = ⟨#[45]⟩ := rfl
def dg (c : Nat) : Bool := decide (48 ≤ c) && decide (c ≤ 57)
def lw (c : Nat) : Bool := decide (97 ≤ c) && decide (c ≤ 122)
theorem chain_d {c : Nat} (hc : c < 1114112) {g : VF} {env : Env} (e : g env = some (ch c)) : gChain pLe pLe (gC (.str "0")) g (gC (.str "9")) env = some (.bl (dg c)) := by
  have e1 : pLe (.str "0") (ch c) = some (.bl (decide (48 ≤ c))) := le_ch (a := 48) (by omega) hc
  have e2 : pLe (ch c) (.str "9") = some (.bl (decide (c ≤ 57))) := le_ch (c := 57) hc (by omega)
  simp only [q_chain, q_gC, Option.bind_some, e, e1]
  unfold dg
  by_cases h : 48 ≤ c <;> simp [h, e2]
theorem chain_l {c : Nat} (hc : c < 1114112) {g : VF} {env : Env} (e : g env = some (ch c)) : gChain pLe pLe (gC (.str "a")) g (gC (.str "z")) env = some (.bl (lw c)) := by
  have e1 : pLe (.str "a") (ch c) = some (.bl (decide (97 ≤ c))) := le_ch (a := 97) (by omega) hc
  have e2 : pLe (ch c) (.str "z") = some (.bl (decide (c ≤ 122))) := le_ch (c := 122) hc (by omega)
  simp only [q_chain, q_gC, Option.bind_some, e, e1]
  unfold lw
  by_cases h : 97 ≤ c <;> simp [h, e2]
theorem digit_ok {c : Nat} (hc : c < 1114112) : fis_digit [.p (ch c)] = .ok (.p (.bl (dg c))) (.p .non) := by
  have e := chain_d hc (g := gV 0) (env := [.var (.p (ch c))]) (by simp)
  simp [fis_digit, Fis_digit, -q_chain, e]
theorem letter_ok {c : Nat} (hc : c < 1114112) : fis_letter [.p (ch c)] = .ok (.p (.bl (lw c))) (.p .non) := by
  have e := chain_l hc (g := gV 0) (env := [.var (.p (ch c))]) (by simp)
  simp [fis_letter, Fis_letter, -q_chain, e]
theorem lenS {L : List Nat} (hl : L.length ≤ 1000000) : bLen [.str ⟨L.toArray⟩] = some (.int (L.length : Nat)) := by
  have h : (⟨L.toArray⟩ : Str).length = L.length := by simp [Str.length]
  unfold bLen
  simp only [h]
  rw [if_pos (by unfold lineN; omega)]
theorem ixS {c : Nat} {L : List Nat} (hl : (c :: L).length ≤ 1000000) : pIx (.str ⟨(c :: L).toArray⟩) (.int 0) = some (ch c) := by
  have h : (⟨(c :: L).toArray⟩ : Str).length = (c :: L).length := by simp [Str.length]
  unfold pIx
  simp only [h]
  rw [if_pos (by unfold lineN; omega)]
  have : atZ (c :: L) 0 = some c := at_nat (n := 0) (l := c :: L) rfl
  show (atZ (c :: L) 0).map _ = _
  rw [this]; rfl
theorem str_L (s : Str) : s = ⟨s.cps.toList.toArray⟩ := by cases s; simp
theorem bls_map (B : List Nat) (f : Nat → Bool) : blsOf (B.map fun c => P.bl (f c)) = some (B.map f) := by
  induction B with
  | nil => rfl
  | cons c B ih => simp only [List.map_cons, blsOf, ih]; rfl
/-- all signs do -/
theorem all_signs (L : List Nat) (f : Nat → Bool) (g : EF) (s0 : Slot) (hl : L.length ≤ 1000000) (hg : ∀ c ∈ L, g [s0, .var (.p (ch c))] = .ok (.p (.bl (f c))) [s0, .var (.p (ch c))]) :
    compL [1] (.n 1) tYesF g (L.map ch) [s0, .no] [] = .ok (.l ((L.map fun c => P.bl (f c)).map D.p)) [s0, .no] := by
  have e := comp_all [1] (.n 1) g [s0, .no] ch (fun c => P.bl (f c)) L [] (by simpa using hl) fun c m => ⟨[s0, .var (.p (ch c))], [s0, .var (.p (ch c))], by simp, hg c m, by simp [wipeE], by simp [wipeE]⟩
  simpa using e
theorem all_all (L : List Nat) (f : Nat → Bool) : (L.map f).all id = L.all f := by simp [List.all_map]
def hd (L : List Nat) : Bool := decide (1 ≤ L.length) && decide (L.length ≤ 30) && !decide (L.head? = some 48) && L.all dg
theorem eqC {a c : Nat} (ha : a < 1114112) (hc : c < 1114112) : pEq (ch a) (ch c) = some (.bl (decide (a = c))) := by
  unfold pEq okP
  simp only [okN]
  simp [ha, hc, eqP]
  by_cases h : a = c <;> simp [h]
theorem itS (L : List Nat) : itemsS (.p (.str ⟨L.toArray⟩)) = some (L.map ch) := by simp [itemsS]
theorem hasd_ok (L : List Nat) (ho : okC L) (hl : L.length ≤ 1000000) : fhas_digits [.p (.str ⟨L.toArray⟩)] = .ok (.p (.bl (hd L))) (.p .non) := by
  have e0 := lenS hl
  by_cases h1 : 1 ≤ (L.length : Int) ∧ (L.length : Int) ≤ 30
  · obtain ⟨c, M, rfl⟩ : ∃ c M, L = c :: M := by
      cases L with
      | nil => simp at h1
      | cons c M => exact ⟨c, M, rfl⟩
    have e1 := ixS hl
    have hc := ho.at List.mem_cons_self
    have e2 : pEq (ch c) (.str "0") = some (.bl (decide (c = 48))) := eqC (c := 48) hc (by omega)
    have e3 := all_signs (c :: M) dg (eOp [.v 1] fis_digit) (.var (.p (.str ⟨(c :: M).toArray⟩))) hl fun x m => by simp [digit_ok (ho.at m)]
    have e4 : bAll [.lst ((c :: M).map fun c => P.bl (dg c))] = some (.bl ((c :: M).all dg)) := by
      show (blsOf ((c :: M).map fun c => P.bl (dg c))).map _ = _
      rw [bls_map]
      simp only [Option.map_some, all_all]
    have e5 := itS (c :: M)
    have hh : hd (c :: M) = (!decide (c = 48) && (c :: M).all dg) := by
      unfold hd
      rw [decide_eq_true (show 1 ≤ (c :: M).length by omega), decide_eq_true (show (c :: M).length ≤ 30 by omega)]
      simp
    rw [hh]
    generalize (c :: M).all dg = bb at *
    generalize ((c :: M).length : Nat) = n at *
    generalize (⟨(c :: M).toArray⟩ : Str) = z at *
    generalize (c :: M).map ch = xs at *
    generalize (c :: M).map (fun c => P.bl (dg c)) = ys at *
    obtain ⟨h1, h2⟩ := h1
    have n0 : ((n : Nat) : Int) = n := rfl
    by_cases c0 : c = 48
    · subst c0
      simp [fhas_digits, Fhas_digits, e0, h1, h2, e1, e2]
    · simp [fhas_digits, Fhas_digits, e0, h1, h2, e1, e2, c0, eComp, wipeE, e5, e3, e4]
  · have hh : hd L = false := by
      unfold hd
      by_cases h2 : 1 ≤ L.length
      · rw [decide_eq_false (show ¬ L.length ≤ 30 by omega)]; simp
      · rw [decide_eq_false h2]; simp
    rw [hh]
    generalize (L.length : Nat) = n at *
    by_cases h2 : (1 : Int) ≤ n
    · have h3 : ¬ (n : Int) ≤ 30 := fun z => h1 ⟨h2, z⟩
      simp [fhas_digits, Fhas_digits, e0, h2, h3]
    · simp [fhas_digits, Fhas_digits, e0, h2]
end Z
set_option Elab.async false
set_option linter.all false
set_option maxRecDepth 100000
set_option maxHeartbeats 4000000
namespace Z
open PySem L2 PySem.W
theorem loop_all {i : Nat} {body : SF} (E : Slot → Env) (f : Nat → Bool) (hE : ∀ s x, Fr1 s → assignP (E s) (.n i) x = some (E (.var (.p x)))) : ∀ (L : List Nat) (hb : ∀ c ∈ L, body (E (.var (.p (ch c)))) = if f c then .nx (E (.var (.p (ch c)))) else .rt (.p (.bl false)) (E (.var (.p (ch c))))) (s : Slot), Fr1 s →
    ∃ s', forL (.n i) body (L.map ch) (E s) = if L.all f then .nx (E s') else .rt (.p (.bl false)) (E s')
  | [], _, s, _ => ⟨s, by simp⟩
  | c :: L, hb, s, fr => by
    have h1 := hb c List.mem_cons_self
    obtain ⟨s', e⟩ := loop_all E f hE L (fun x m => hb x (List.mem_cons_of_mem _ m)) (.var (.p (ch c))) (.va _)
    rw [List.map_cons, q_forc, hE s _ fr]
    simp only [h1]
    cases hc : f c with
    | true => exact ⟨s', by simp [e, hc]⟩
    | false => exact ⟨.var (.p (ch c)), by simp [hc]⟩
theorem int_le {a c : Int} : pLe (.int a) (.int c) = some (.bl (decide (a ≤ c))) := by simp
def nmB (L : List Nat) : Bool := decide (1 ≤ L.length) && decide (L.length ≤ 12) && (match L.head? with | some c => lw c | none => false) && L.all fun c => lw c || dg c
theorem isname_ok (L : List Nat) (ho : okC L) (hl : L.length ≤ 1000000) : fis_name [.p (.str ⟨L.toArray⟩)] = .ok (.p (.bl (nmB L))) (.p .non) := by
  have e0 := lenS hl
  by_cases h1 : 1 ≤ (L.length : Int) ∧ (L.length : Int) ≤ 12
  · obtain ⟨c, M, rfl⟩ : ∃ c M, L = c :: M := by
      cases L with
      | nil => simp at h1
      | cons c M => exact ⟨c, M, rfl⟩
    have e1 := ixS hl
    have hc := ho.at List.mem_cons_self
    have e2 := letter_ok hc
    have e3 := all_signs (c :: M) (fun c => lw c || dg c) (eOr (eOp [.v 1] fis_letter) (eOp [.v 1] fis_digit)) (.var (.p (.str ⟨(c :: M).toArray⟩))) hl fun x m => by
      cases h : lw x <;> simp [digit_ok (ho.at m), letter_ok (ho.at m), h]
    have e4 : bAll [.lst ((c :: M).map fun c => P.bl (lw c || dg c))] = some (.bl ((c :: M).all fun c => lw c || dg c)) := by
      show (blsOf ((c :: M).map fun c => P.bl ((fun c => lw c || dg c) c))).map _ = _
      rw [bls_map]
      simp only [Option.map_some, all_all]
    have e5 := itS (c :: M)
    have hh : nmB (c :: M) = (lw c && (c :: M).all fun c => lw c || dg c) := by
      unfold nmB
      rw [decide_eq_true (show 1 ≤ (c :: M).length by omega), decide_eq_true (show (c :: M).length ≤ 12 by omega)]
      simp
    rw [hh]
    generalize ((c :: M).all fun c => lw c || dg c) = bb at *
    generalize ((c :: M).length : Nat) = n at *
    generalize (⟨(c :: M).toArray⟩ : Str) = z at *
    generalize (c :: M).map ch = xs at *
    generalize (c :: M).map (fun c => P.bl (lw c || dg c)) = ys at *
    obtain ⟨h1, h2⟩ := h1
    cases hb : lw c with
    | false => simp [fis_name, Fis_name, e0, h1, h2, e1, e2, hb]
    | true => simp [fis_name, Fis_name, e0, h1, h2, e1, e2, hb, eComp, wipeE, e5, e3, e4]
  · have hh : nmB L = false := by
      unfold nmB
      by_cases h2 : 1 ≤ L.length
      · rw [decide_eq_false (show ¬ L.length ≤ 12 by omega)]; simp
      · rw [decide_eq_false h2]; simp
    rw [hh]
    generalize (L.length : Nat) = n at *
    by_cases h2 : (1 : Int) ≤ n
    · have h3 : ¬ (n : Int) ≤ 12 := fun z => h1 ⟨h2, z⟩
      simp [fis_name, Fis_name, e0, h2, h3]
    · simp [fis_name, Fis_name, e0, h2]
theorem chainV_d {c : Nat} (hc : c < 1114112) {i : Nat} {env : Env} (e : env[i]? = some (.var (.p (ch c)))) : gChain pLe pLe (gC (.str "0")) (gV i) (gC (.str "9")) env = some (.bl (dg c)) := chain_d hc (by simp [e])
theorem chainV_l {c : Nat} (hc : c < 1114112) {i : Nat} {env : Env} (e : env[i]? = some (.var (.p (ch c)))) : gChain pLe pLe (gC (.str "a")) (gV i) (gC (.str "z")) env = some (.bl (lw c)) := chain_l hc (by simp [e])
theorem lawname_ok (L : List Nat) (ho : okC L) (hl : L.length ≤ 1000000) : f_law_is_name [.p (.str ⟨L.toArray⟩)] = .ok (.p (.bl (nmB L))) (.p .non) := by
  have e0 := lenS hl
  by_cases h1 : 1 ≤ (L.length : Int) ∧ (L.length : Int) ≤ 12
  · obtain ⟨c, M, rfl⟩ : ∃ c M, L = c :: M := by
      cases L with
      | nil => simp at h1
      | cons c M => exact ⟨c, M, rfl⟩
    have e1 := ixS hl
    have hc := ho.at List.mem_cons_self
    have hh : nmB (c :: M) = (lw c && (c :: M).all fun c => lw c || dg c) := by
      unfold nmB
      rw [decide_eq_true (show 1 ≤ (c :: M).length by omega), decide_eq_true (show (c :: M).length ≤ 12 by omega)]
      simp
    obtain ⟨s', e3⟩ := loop_all (i := 1) (body := B_law_is_name_0) (fun s => [.var (.p (.str ⟨(c :: M).toArray⟩)), s]) (fun c => lw c || dg c) (fun s x fr => by cases fr <;> simp) (c :: M) (fun x m => by
      have k1 := chainV_l (ho.at m) (i := 1) (env := [.var (.p (.str ⟨(c :: M).toArray⟩)), .var (.p (ch x))]) rfl
      have k2 := chainV_d (ho.at m) (i := 1) (env := [.var (.p (.str ⟨(c :: M).toArray⟩)), .var (.p (ch x))]) rfl
      cases h1 : lw x <;> cases h2 : dg x <;> simp [B_law_is_name_0, -q_chain, k1, k2, h1, h2]) .no .no
    have e2 := chain_l hc (g := g2 pIx (gV 0) (gC (.int 0))) (env := [.var (.p (.str ⟨(c :: M).toArray⟩)), .no]) (by simp only [q_g2, q_gV, q_gC, List.getElem?_cons_zero, q_sdv, Option.map_some, q_vwp, Option.bind_some]; exact e1)
    have e5 := itS (c :: M)
    rw [hh]
    generalize ((c :: M).all fun c => lw c || dg c) = bb at *
    generalize ((c :: M).length : Nat) = n at *
    generalize (⟨(c :: M).toArray⟩ : Str) = z at *
    generalize (c :: M).map ch = xs at *
    obtain ⟨h1, h2⟩ := h1
    have h1' : ¬ (n : Int) < 1 := by omega
    have h2' : ¬ (12 : Int) < n := by omega
    cases hb : lw c with
    | false => simp [f_law_is_name, F_law_is_name, e0, h1', h2', -q_chain, e2, hb]
    | true =>
      cases bb <;> simp [f_law_is_name, F_law_is_name, e0, h1', h2', -q_chain, e2, hb, e5, e3]
  · have hh : nmB L = false := by
      unfold nmB
      by_cases h2 : 1 ≤ L.length
      · rw [decide_eq_false (show ¬ L.length ≤ 12 by omega)]; simp
      · rw [decide_eq_false h2]; simp
    rw [hh]
    generalize (L.length : Nat) = n at *
    by_cases h2 : (n : Int) < 1
    · simp [f_law_is_name, F_law_is_name, e0, h2]
    · have h3 : (12 : Int) < n := by omega
      simp [f_law_is_name, F_law_is_name, e0, h2, h3]
def body (L : List Nat) : List Nat := if L.head? = some 45 then L.tail else L
def nwB (L : List Nat) : Bool := decide (L = [48]) || hd (body L)
theorem sw_ok (L : List Nat) : hSw (.str ⟨L.toArray⟩) [.str "-"] = some (.bl (decide (L.head? = some 45))) := by
  show some (P.bl (Txt.startswith ⟨L.toArray⟩ ⟨#[45]⟩)) = _
  unfold Txt.startswith Builtin.Str.subAt
  cases L with
  | nil => rfl
  | cons c M =>
    have h : ((c :: M).toArray.extract 0 (0 + (⟨#[45]⟩ : Str).length)) = #[c] := by
      show (c :: M).toArray.extract 0 1 = _
      simp
    simp only [h]
    have : (0 + (⟨#[45]⟩ : Str).length ≤ (⟨(c :: M).toArray⟩ : Str).length) = True := by simp [Str.length]
    by_cases hc : c = 45 <;> simp [Str.length, hc]
theorem sl1 (L : List Nat) (hl : L.length ≤ 1000000) : pSl (.str ⟨L.toArray⟩) (some 1) none = some (.str ⟨L.tail.toArray⟩) := by
  have h : (⟨L.toArray⟩ : Str).length = L.length := by simp [Str.length]
  unfold pSl
  simp only [h]
  rw [if_pos (by unfold lineN; omega)]
  have : cutZ L (some 1) none = L.tail := by
    unfold cutZ sIx
    cases L with
    | nil => simp
    | cons c M => simp
  show some (P.str ⟨(cutZ L (some 1) none).toArray⟩) = _
  rw [this]
theorem sl01 (L : List Nat) (hl : L.length ≤ 1000000) : pSl (.str ⟨L.toArray⟩) none (some 1) = some (.str ⟨(L.take 1).toArray⟩) := by
  have h : (⟨L.toArray⟩ : Str).length = L.length := by simp [Str.length]
  unfold pSl
  simp only [h]
  rw [if_pos (by unfold lineN; omega)]
  have : cutZ L none (some 1) = L.take 1 := by
    unfold cutZ sIx
    cases L with
    | nil => simp
    | cons c M => simp
  show some (P.str ⟨(cutZ L none (some 1)).toArray⟩) = _
  rw [this]
theorem okS {L : List Nat} (ho : okC L) : okP (.str ⟨L.toArray⟩) = true := by
  unfold okP
  rw [okN]
  simp only [Array.all_eq_true']
  intro c m
  exact decide_eq_true (ho.at (by simpa using m))
theorem eqS {L M : List Nat} (h1 : okC L) (h2 : okC M) : pEq (.str ⟨L.toArray⟩) (.str ⟨M.toArray⟩) = some (.bl (decide (L = M))) := by
  unfold pEq
  rw [okS h1, okS h2]
  have : eqP (.str ⟨L.toArray⟩) (.str ⟨M.toArray⟩) = decide (L = M) := by
    rw [eqP]
    by_cases h : L = M
    · subst h; simp
    · rw [decide_eq_false h]
      refine beq_eq_false_iff_ne.mpr fun z => h ?_
      have := congrArg Str.cps z
      simpa using this
  rw [this]; rfl
theorem neS {L M : List Nat} (h1 : okC L) (h2 : okC M) : pNe (.str ⟨L.toArray⟩) (.str ⟨M.toArray⟩) = some (.bl (!decide (L = M))) := by
  have := eqS h1 h2
  unfold pEq at this
  unfold pNe
  rw [okS h1, okS h2] at this ⊢
  simp only [Bool.and_self, if_true, Option.some.injEq, P.bl.injEq] at this ⊢
  rw [this]
theorem body_len (L : List Nat) : (body L).length ≤ L.length := by
  unfold body
  split
  · simp
  · exact Nat.le_refl _
theorem bodyC {L : List Nat} (ho : okC L) : okC (body L) := by
  unfold body
  split
  · exact fun c m => ho c (List.mem_of_mem_tail m)
  · exact ho
theorem lawnum_ok (L : List Nat) (ho : okC L) (hl : L.length ≤ 1000000) : f_law_is_number_word [.p (.str ⟨L.toArray⟩)] = .ok (.p (.bl (nwB L))) (.p .non) := by
  have e0 : pEq (.str ⟨L.toArray⟩) (.str "0") = some (.bl (decide (L = [48]))) := eqS (M := [48]) ho (fun c m => by simp at m; omega)
  by_cases h0 : L = [48]
  · subst h0
    simp [f_law_is_number_word, F_law_is_number_word, e0, nwB]
  have e1 := sl01 L hl
  have e2 : pEq (.str ⟨(L.take 1).toArray⟩) (.str "-") = some (.bl (decide (L.head? = some 45))) := by
    refine (eqS (L := L.take 1) (M := [45]) (fun c m => ho c (List.mem_of_mem_take m)) (fun c m => by simp at m; omega)).trans ?_
    cases L with
    | nil => rfl
    | cons c M => simp
  have e3 := sl1 L hl
  have hB : nwB L = hd (body L) := by unfold nwB; rw [decide_eq_false h0]; rfl
  have bl := body_len L
  have bo := bodyC ho
  have key : ∃ s, (sSeq (sIf (tOr (tE (eW [1] (g2 pLt (gN bLen [gV 1]) (gC (.int 1))))) (tOr (tE (eW [1] (g2 pGt (gN bLen [gV 1]) (gC (.int 30))))) (tE (eW [1] (g2 pEq (g2 pIx (gV 1) (gC (.int 0))) (gC (.str "0"))))))) (sRet (eW [] (gC (.bl false)))) (sNx))
        (sSeq (sForS (.n 2) (oSeq (eW [1] (gV 1))) (B_law_is_number_word_0)) (sRet (eW [] (gC (.bl true)))))) [.var (.p (.str ⟨L.toArray⟩)), .var (.p (.str ⟨(body L).toArray⟩)), .no] = .rt (.p (.bl (hd (body L)))) [.var (.p (.str ⟨L.toArray⟩)), .var (.p (.str ⟨(body L).toArray⟩)), s] := by
    generalize body L = M at *
    have k0 := lenS (L := M) (by omega)
    generalize (⟨L.toArray⟩ : Str) = zL
    by_cases h1 : 1 ≤ (M.length : Int) ∧ (M.length : Int) ≤ 30
    · obtain ⟨c, N, rfl⟩ : ∃ c N, M = c :: N := by
        cases M with
        | nil => simp at h1
        | cons c N => exact ⟨c, N, rfl⟩
      have k1 := ixS (c := c) (L := N) (by omega)
      have hc := bo.at List.mem_cons_self
      have k2 : pEq (ch c) (.str "0") = some (.bl (decide (c = 48))) := eqC (c := 48) hc (by omega)
      obtain ⟨s', k3⟩ := loop_all (i := 2) (body := B_law_is_number_word_0) (fun s => [.var (.p (.str zL)), .var (.p (.str ⟨(c :: N).toArray⟩)), s]) dg (fun s x fr => by cases fr <;> simp) (c :: N) (fun x m => by
        have k2 := chainV_d (bo.at m) (i := 2) (env := [.var (.p (.str zL)), .var (.p (.str ⟨(c :: N).toArray⟩)), .var (.p (ch x))]) rfl
        cases h2 : dg x <;> simp [B_law_is_number_word_0, -q_chain, k2, h2]) .no .no
      have k5 := itS (c :: N)
      have hh : hd (c :: N) = (!decide (c = 48) && (c :: N).all dg) := by
        unfold hd
        rw [decide_eq_true (show 1 ≤ (c :: N).length by omega), decide_eq_true (show (c :: N).length ≤ 30 by omega)]
        simp
      rw [hh]
      generalize (c :: N).all dg = bb at *
      generalize ((c :: N).length : Nat) = n at *
      generalize (⟨(c :: N).toArray⟩ : Str) = z at *
      generalize (c :: N).map ch = xs at *
      obtain ⟨h1, h2⟩ := h1
      have h1' : ¬ (n : Int) < 1 := by omega
      have h2' : ¬ (30 : Int) < n := by omega
      by_cases c0 : c = 48
      · subst c0
        exact ⟨.no, by simp [k0, h1', h2', k1, k2]⟩
      · refine ⟨s', ?_⟩
        cases bb <;> simp [k0, h1', h2', k1, k2, c0, k5, k3]
    · have hh : hd M = false := by
        unfold hd
        by_cases h2 : 1 ≤ M.length
        · rw [decide_eq_false (show ¬ M.length ≤ 30 by omega)]; simp
        · rw [decide_eq_false h2]; simp
      rw [hh]
      generalize (M.length : Nat) = n at *
      refine ⟨.no, ?_⟩
      by_cases h2 : (n : Int) < 1
      · simp [k0, h2]
      · have h3 : (30 : Int) < n := by omega
        simp [k0, h2, h3]
  rw [hB]
  obtain ⟨s, k⟩ := key
  have a1 : (sIf (tE (eW [0] (g2 pEq (gV 0) (gC (.str "0"))))) (sRet (eW [] (gC (.bl true)))) (sNx)) [.var (.p (.str ⟨L.toArray⟩)), .no, .no] = .nx [.var (.p (.str ⟨L.toArray⟩)), .no, .no] := by simp [e0, h0]
  have a2 : (sAsg 1 (eV 0)) [.var (.p (.str ⟨L.toArray⟩)), .no, .no] = .nx [.var (.p (.str ⟨L.toArray⟩)), .var (.p (.str ⟨L.toArray⟩)), .no] := by simp
  have a3 : (sIf (tE (eW [0] (g2 pEq (gSl (gV 0) none (some (gC (.int 1)))) (gC (.str "-"))))) (sAsg 1 (eW [0] (gSl (gV 0) (some (gC (.int 1))) none))) (sNx)) [.var (.p (.str ⟨L.toArray⟩)), .var (.p (.str ⟨L.toArray⟩)), .no] = .nx [.var (.p (.str ⟨L.toArray⟩)), .var (.p (.str ⟨(body L).toArray⟩)), .no] := by
    by_cases h45 : L.head? = some 45
    · have eb : body L = L.tail := by unfold body; rw [if_pos h45]
      rw [eb]
      simp [gSl, gPart, e1, e2, h45, e3]
    · have eb : body L = L := by unfold body; rw [if_neg h45]
      rw [eb]
      simp [gSl, gPart, e1, e2, h45]
  simp only [f_law_is_number_word, F_law_is_number_word, q_mk, q_enterF, List.length_cons, List.length_nil, Nat.zero_add, if_true, List.map_nil, List.nil_append]
  rw [show List.replicate (3 - 1) Slot.no = [.no, .no] from rfl, seq_nx a1, seq_nx a2, seq_nx a3, k]
  rfl
end Z
set_option Elab.async false
set_option linter.all false
set_option maxRecDepth 100000
set_option maxHeartbeats 4000000
namespace Z
open PySem L2 PySem.W NumText
theorem find_d : ∀ k : Nat, k < 10 → Txt.find ("0123456789" : Str) ⟨#[48 + k]⟩ = (k : Int) := by decide +kernel
def Dg (M : List Nat) : Prop := AllDigits M ∧ M ≠ [] ∧ M.length ≤ 30
theorem dg_iff {c : Nat} : dg c = true ↔ 48 ≤ c ∧ c ≤ 57 := by unfold dg; simp
theorem hd_dg {L : List Nat} (h : hd L = true) : Dg L := by
  unfold hd at h
  simp only [Bool.and_eq_true, decide_eq_true_eq, List.all_eq_true] at h
  obtain ⟨⟨⟨h1, h2⟩, _⟩, h4⟩ := h
  refine ⟨fun c m => dg_iff.mp (h4 c m), fun z => by subst z; simp at h1, h2⟩
theorem nw_cases {L : List Nat} (h : nwB L = true) : (∃ M, L = 45 :: M ∧ Dg M) ∨ Dg L := by
  unfold nwB at h
  simp only [Bool.or_eq_true, decide_eq_true_eq] at h
  rcases h with h | h
  · subst h
    exact .inr ⟨fun c m => by simp at m; omega, by simp, by simp⟩
  · unfold body at h
    cases L with
    | nil => exact .inr (hd_dg (by simpa using h))
    | cons c M =>
      by_cases e : c = 45
      · subst e
        exact .inl ⟨M, rfl, hd_dg (by simpa using h)⟩
      · have : ¬ (c :: M).head? = some 45 := by simpa using e
        rw [if_neg this] at h
        exact .inr (hd_dg h)
def valB (L : List Nat) : Int := if L.head? = some 45 then 0 - ((digitsVal L.tail : Nat) : Int) else ((digitsVal L : Nat) : Int)
theorem neC {a c : Nat} (ha : a < 128) (hc : c < 128) : pNe (ch a) (ch c) = some (.bl (!decide (a = c))) := by
  have := neS (L := [a]) (M := [c]) (fun x m => by simp at m; omega) (fun x m => by simp at m; omega)
  refine this.trans ?_
  by_cases h : a = c <;> simp [h]
theorem value_loop (s0 : Slot) : ∀ (M : List Nat) (t j : Nat) (s : Slot), AllDigits M → t < 10 ^ j → j + M.length ≤ 31 → Fr1 s →
    ∃ s', forL (.n 2) B_law_value_0 (M.map ch) [s0, .var (.p (.int (t : Nat))), s] = .nx [s0, .var (.p (.int ((M.foldl (fun acc c => acc * 10 + (c - 48)) t : Nat) : Int))), s']
  | [], t, j, s, _, _, _, _ => ⟨s, by simp⟩
  | c :: M, t, j, s, hd, ht, hj, fr => by
    have hc := hd c List.mem_cons_self
    simp only [List.length_cons] at hj
    have p10 : 10 ^ (j + 1) = 10 ^ j * 10 := Nat.pow_succ ..
    have hb : 10 ^ j ≤ 10 ^ 31 := Nat.pow_le_pow_right (by omega) (by omega)
    obtain ⟨s', e⟩ := value_loop s0 M (t * 10 + (c - 48)) (j + 1) (.var (.p (ch c))) (fun x m => hd x (List.mem_cons_of_mem _ m)) (by omega) (by omega) (.va _)
    refine ⟨s', ?_⟩
    rw [List.foldl_cons, ← e, List.map_cons, q_forc]
    have e1 : pNe (ch c) (.str "-") = some (.bl (!decide (c = 45))) := neC (c := 45) (by omega) (by omega)
    have n45 : ¬ c = 45 := by omega
    have e2 : pMul (.int (t : Nat)) (.int 10) = some (.int ((t : Nat) * 10)) := mul_ok (a := 200) (b := 40) (by simp; omega) (by omega) (by omega) (by omega) (by omega)
    have e3 : hFind (.str "0123456789") [ch c] = some (.int ((c - 48 : Nat) : Int)) := by
      show some (P.int (Txt.find _ _)) = _
      have := find_d (c - 48) (by omega)
      rw [show 48 + (c - 48) = c by omega] at this
      rw [this]
    have e4 : ((t * 10 + (c - 48) : Nat) : Int) = (t : Nat) * 10 + ((c - 48 : Nat) : Int) := by omega
    rw [e4]
    generalize ((c - 48 : Nat) : Int) = z at *
    cases fr <;> simp [B_law_value_0, e1, n45, e2, gMt, e3]
theorem value_ok {L : List Nat} (h : nwB L = true) : f_law_value [.p (.str ⟨L.toArray⟩)] = .ok (.p (.int (valB L))) (.p .non) := by
  have eI := itS L
  rcases nw_cases h with ⟨M, eL, hM⟩ | hL
  · subst eL
    have e1 : pNe (ch 45) (.str "-") = some (.bl false) := neC (a := 45) (c := 45) (by omega) (by omega)
    have e3 := ixS (c := 45) (L := M) (by have := hM.2.2; simp; omega)
    have e4 : pEq (ch 45) (.str "-") = some (.bl true) := eqC (a := 45) (c := 45) (by omega) (by omega)
    generalize (⟨(45 :: M).toArray⟩ : Str) = z at *
    obtain ⟨s', e2⟩ := value_loop (.var (.p (.str z))) M 0 0 (.var (.p (ch 45))) hM.1 (by omega) (by have := hM.2.2; omega) (.va _)
    have e5 : valB (45 :: M) = 0 - ((M.foldl (fun acc c => acc * 10 + (c - 48)) 0 : Nat) : Int) := rfl
    rw [e5]
    generalize ((M.foldl (fun acc c => acc * 10 + (c - 48)) 0 : Nat) : Int) = v at *
    have e6 : forL (.n 2) B_law_value_0 ((45 :: M).map ch) [.var (.p (.str z)), .var (.p (.int 0)), .no] = .nx [.var (.p (.str z)), .var (.p (.int v)), s'] := by
      rw [← e2, List.map_cons, q_forc]
      simp [B_law_value_0, e1]
    generalize (45 :: M).map ch = xs at *
    simp [f_law_value, F_law_value, eI, e6, e3, e4]
  · obtain ⟨c, M, rfl⟩ : ∃ c M, L = c :: M := by
      cases L with
      | nil => exact absurd rfl hL.2.1
      | cons c M => exact ⟨c, M, rfl⟩
    have hc := hL.1 c List.mem_cons_self
    have n45 : ¬ c = 45 := by omega
    have e3 := ixS (c := c) (L := M) (by have := hL.2.2; omega)
    have e4 : pEq (ch c) (.str "-") = some (.bl (decide (c = 45))) := eqC (c := 45) (by omega) (by omega)
    have e5 : valB (c :: M) = (((c :: M).foldl (fun acc c => acc * 10 + (c - 48)) 0 : Nat) : Int) := by
      unfold valB
      rw [if_neg (by simpa using n45)]
      rfl
    generalize (⟨(c :: M).toArray⟩ : Str) = z at *
    obtain ⟨s', e2⟩ := value_loop (.var (.p (.str z))) (c :: M) 0 0 .no hL.1 (by omega) (by have := hL.2.2; omega) .no
    rw [e5]
    generalize (((c :: M).foldl (fun acc c => acc * 10 + (c - 48)) 0 : Nat) : Int) = v at *
    generalize (c :: M).map ch = xs at *
    have e2 : forL (.n 2) B_law_value_0 xs [.var (.p (.str z)), .var (.p (.int 0)), .no] = .nx [.var (.p (.str z)), .var (.p (.int v)), s'] := e2
    simp [f_law_value, F_law_value, eI, e2, e3, e4, n45]
theorem int_ok {L : List Nat} (h : nwB L = true) : bIntA [.str ⟨L.toArray⟩] = some (.int (valB L)) := by
  have hlen : (⟨L.toArray⟩ : Str).length = L.length := by simp [Str.length]
  unfold bIntA
  simp only [hlen]
  rcases nw_cases h with ⟨M, eL, hM⟩ | hL
  · subst eL
    have := hM.2.2
    have e := intText_neg (x := ⟨(45 :: M).toArray⟩) (cs := M) (by simp) hM.1 hM.2.1 (by rw [hlen]; simp; omega)
    rw [if_pos (by simp; omega), e]
    show some (P.int _) = _
    unfold valB
    rw [if_pos (by simp)]
    simp
  · have := hL.2.2
    have e := intText_digits (x := ⟨L.toArray⟩) (by simpa using hL.1) (by simpa using hL.2.1) (by rw [hlen]; omega)
    rw [if_pos (by omega), e]
    obtain ⟨c, M, rfl⟩ : ∃ c M, L = c :: M := by
      cases L with
      | nil => exact absurd rfl hL.2.1
      | cons c M => exact ⟨c, M, rfl⟩
    have hc := hL.1 c List.mem_cons_self
    show some (P.int _) = _
    unfold valB
    rw [if_neg (by simp; omega)]
theorem rnum_ok (L : List Nat) (ho : okC L) (hl : L.length ≤ 1000000) : fread_number [.p (.str ⟨L.toArray⟩)] = if nwB L then .ok (.p (.int (valB L))) (.p .non) else .exc ⟨"Malformed", ["what"], [.str "number"]⟩ (.p .non) := by
  have e1 := sw_ok L
  have e2 := sl1 L hl
  have e3 : pNe (.str ⟨L.toArray⟩) (.str "0") = some (.bl (!decide (L = [48]))) := neS (M := [48]) ho (fun c m => by simp at m; omega)
  have e4 := hasd_ok (body L) (bodyC ho) (by have := body_len L; omega)
  have a1 : (sAsg 1 (eIf (tE (eW [0] (gMt hSw (gV 0) [gC (.str "-")]))) (eW [0] (gSl (gV 0) (some (gC (.int 1))) none)) (eW [0] (gV 0)))) [.var (.p (.str ⟨L.toArray⟩)), .no] = .nx [.var (.p (.str ⟨L.toArray⟩)), .var (.p (.str ⟨(body L).toArray⟩))] := by
    by_cases h45 : L.head? = some 45
    · have eb : body L = L.tail := by unfold body; rw [if_pos h45]
      rw [eb]
      simp [eIf, gMt, e1, h45, gSl, gPart, e2]
    · have eb : body L = L := by unfold body; rw [if_neg h45]
      rw [eb]
      simp [eIf, gMt, e1, h45]
  cases hn : nwB L with
  | true =>
    have e5 := int_ok hn
    have a2 : (sIf (tAnd (tE (eW [0] (g2 pNe (gV 0) (gC (.str "0"))))) (tNot (tE (eOp [.v 1] fhas_digits)))) (sRaise "Malformed" ["what"] [.e (eW [] (gC (.str "number")))]) (sNx)) [.var (.p (.str ⟨L.toArray⟩)), .var (.p (.str ⟨(body L).toArray⟩))] = .nx [.var (.p (.str ⟨L.toArray⟩)), .var (.p (.str ⟨(body L).toArray⟩))] := by
      by_cases h0 : L = [48]
      · rw [decide_eq_true h0] at e3
        simp [e3]
      · have : hd (body L) = true := by unfold nwB at hn; rw [decide_eq_false h0] at hn; simpa using hn
        simp [e3, h0, e4, this]
    simp only [fread_number, Fread_number, q_mk, q_enterF, List.length_cons, List.length_nil, Nat.zero_add, if_true, List.map_nil, List.nil_append]
    rw [show List.replicate (2 - 1) Slot.no = [.no] from rfl, seq_nx a1, seq_nx a2]
    simp [e5]
  | false =>
    have h0 : ¬ L = [48] := fun z => by unfold nwB at hn; rw [decide_eq_true z] at hn; simp at hn
    have : hd (body L) = false := by unfold nwB at hn; rw [decide_eq_false h0] at hn; simpa using hn
    simp only [fread_number, Fread_number, q_mk, q_enterF, List.length_cons, List.length_nil, Nat.zero_add, if_true, List.map_nil, List.nil_append]
    rw [show List.replicate (2 - 1) Slot.no = [.no] from rfl, seq_nx a1]
    simp [e3, h0, e4, this]
theorem rname_ok (L : List Nat) (ho : okC L) (hl : L.length ≤ 1000000) : fread_name [.p (.str ⟨L.toArray⟩)] = if nmB L then .ok (.p (.str ⟨L.toArray⟩)) (.p .non) else .exc ⟨"Malformed", ["what"], [.str "name"]⟩ (.p .non) := by
  have e := isname_ok L ho hl
  cases hn : nmB L <;> simp [fread_name, Fread_name, e, hn]
theorem refusalM {z : Str} : f_law_refusal 0 0 0 [.p (.exc 0 0 0 "Malformed" ["what"] [.str z])] = .ok (.p (.tup [.str "Malformed", .str z])) (.p .non) := by kernel_rfl
theorem holds_exc {z : Str} (p2 : Pl 10 (.str z)) : f_law_holds .non (.exc ⟨"Malformed", ["what"], [.str z]⟩) [.p .non, .p (.tup [.str "Malformed", .str z]), .p .non] = .ok (.p (.bl true)) (.p .non) := by
  have s : subOf Anc (Str.ofString "Refused") "Malformed" = some true := by decide +kernel
  have e1 : f_law_ask .non (.exc ⟨"Malformed", ["what"], [.str z]⟩) [.p .non] = .ok (.p (.tup [.str "raised", .tup [.str "Malformed", .str z]])) (.p .non) := by
    simp only [f_law_ask, F_law_ask, sTryAs, q_mk]
    simp [eTh, s, su_law_ask_0, refusalM, wipeR]
  have e2 : Pl 12 (.tup [.str "raised", .tup [.str "Malformed", .str z]]) := .tup _ (by simp) fun x hx => by
    simp only [List.mem_cons, List.not_mem_nil, or_false] at hx
    rcases hx with q | q <;> subst q
    · exact .str _ (by decide +kernel)
    · refine .tup _ (by simp) fun x hx => ?_
      simp only [List.mem_cons, List.not_mem_nil, or_false] at hx
      rcases hx with q | q <;> subst q
      · exact .str _ (by decide +kernel)
      · exact p2
  have e2 := same_ok e2
  have e3 : pIs (.tup [.str "Malformed", .str z]) .non = some (.bl false) := rfl
  simp [f_law_holds, F_law_holds, gTh, e1, e2, e3]
theorem holds_ok {x : P} (p : Pl 11 x) : f_law_holds .non (.ok x) [.p .non, .p .non, .p x] = .ok (.p (.bl true)) (.p .non) := by
  have e1 : f_law_ask .non (.ok x) [.p .non] = .ok (.p (.tup [.str "gave", x])) (.p .non) := by
    simp only [f_law_ask, F_law_ask, sTryAs, q_mk]
    simp [eTh]
  have e2 : Pl 12 (.tup [.str "gave", x]) := .tup _ (by simp) fun y hy => by
    simp only [List.mem_cons, List.not_mem_nil, or_false] at hy
    rcases hy with q | q <;> subst q
    · exact .str _ (by decide +kernel)
    · exact p
  have e2 := same_ok e2
  have e3 : pIs .non .non = some (.bl true) := rfl
  simp [f_law_holds, F_law_holds, gTh, e1, e2, e3]
theorem pl_str {L : List Nat} (ho : okC L) (n : Nat) : Pl (n + 1) (.str ⟨L.toArray⟩) := .str _ (by have := okS ho; unfold okP at this; rw [okN] at this; exact this)
theorem en0 (a : P) : envL [0] [a] 1 = [.var (.p a)] := rfl
theorem numholds_ok (L : List Nat) (ho : okC L) (hl : L.length ≤ 1000000) : f_law_number_holds [.p (.str ⟨L.toArray⟩)] = .ok (.p (.bl true)) (.p .non) := by
  have e1 := lawnum_ok L ho hl
  have e2 := rnum_ok L ho hl
  cases hn : nwB L with
  | true =>
    have e3 := value_ok hn
    have e4 := holds_ok (x := .int (valB L)) (.int _)
    rw [hn] at e1 e2
    simp [f_law_number_holds, F_law_number_holds, e1, eLam, capt, thkOut, en0, e2, e3, e4]
  | false =>
    have e4 := holds_exc (z := "number") (.str _ (by decide +kernel))
    rw [hn] at e1 e2
    simp [f_law_number_holds, F_law_number_holds, e1, eLam, capt, thkOut, en0, e2, e4]
theorem namholds_ok (L : List Nat) (ho : okC L) (hl : L.length ≤ 1000000) : f_law_name_holds [.p (.str ⟨L.toArray⟩)] = .ok (.p (.bl true)) (.p .non) := by
  have e1 := lawname_ok L ho hl
  have e2 := rname_ok L ho hl
  cases hn : nmB L with
  | true =>
    have e4 := holds_ok (pl_str ho 10)
    rw [hn] at e1 e2
    simp [f_law_name_holds, F_law_name_holds, e1, eLam, capt, thkOut, en0, e2, e4]
  | false =>
    have e4 := holds_exc (z := "name") (.str _ (by decide +kernel))
    rw [hn] at e1 e2
    simp [f_law_name_holds, F_law_name_holds, e1, eLam, capt, thkOut, en0, e2, e4]
end Z
set_option Elab.async false
set_option linter.all false
set_option maxRecDepth 100000
set_option maxHeartbeats 4000000
namespace Z
open PySem L2 PySem.W NumText
def Tx (n : Nat) (x : P) : Prop := ∃ L, x = .str ⟨L.toArray⟩ ∧ okC L ∧ L.length ≤ n
theorem Tx.mono {n m : Nat} {x : P} (h : Tx n x) (hm : n ≤ m) : Tx m x := by
  obtain ⟨L, e, o, l⟩ := h
  exact ⟨L, e, o, by omega⟩
theorem tx_of {s : String} {n : Nat} (h : s.toList.length ≤ n ∧ ∀ k ∈ s.toList, k.toNat < 128) : Tx n (.str (Str.ofString s)) := by
  refine ⟨s.toList.map Char.toNat, ?_, fun c m => ?_, by simpa using h.1⟩
  · have := PyProof.Rows.signs_ofString s
    rw [str_L (Str.ofString s), this]
  · obtain ⟨k, mk, e⟩ := List.mem_map.mp m
    subst e
    exact h.2 k mk
theorem tx_ch {c : Nat} (h : c < 128) : Tx 1 (ch c) := ⟨[c], rfl, fun x m => by simp at m; omega, by simp⟩
theorem tx_add {n m : Nat} {x y : P} (hx : Tx n x) (hy : Tx m y) (h : n + m ≤ 1000000) : ∃ z, pAdd x y = some (.str z) ∧ Tx (n + m) (.str z) := by
  obtain ⟨L, rfl, o1, l1⟩ := hx
  obtain ⟨M, rfl, o2, l2⟩ := hy
  refine ⟨⟨(L ++ M).toArray⟩, ?_, L ++ M, rfl, fun c mc => ?_, by simp; omega⟩
  · have h1 : (⟨L.toArray⟩ : Str).length = L.length := by simp [Str.length]
    have h2 : (⟨M.toArray⟩ : Str).length = M.length := by simp [Str.length]
    show (if (⟨L.toArray⟩ : Str).length + (⟨M.toArray⟩ : Str).length ≤ lineN then some (P.str ((⟨L.toArray⟩ : Str) ++ ⟨M.toArray⟩)) else none) = _
    rw [h1, h2, if_pos (by unfold lineN; omega)]
    have : ((⟨L.toArray⟩ : Str) ++ ⟨M.toArray⟩) = ⟨(L ++ M).toArray⟩ := by
      show Str.mk (L.toArray ++ M.toArray) = _
      simp
    rw [this]
  · rcases List.mem_append.mp mc with q | q
    · exact o1 c q
    · exact o2 c q
theorem tx_sl {n : Nat} {x : P} (hx : Tx n x) (hn : n ≤ 1000000) (lo hi : Option Int) : ∃ z, pSl x lo hi = some (.str z) ∧ Tx n (.str z) := by
  obtain ⟨L, rfl, o, l⟩ := hx
  refine ⟨⟨(cutZ L lo hi).toArray⟩, ?_, cutZ L lo hi, rfl, fun c mc => o c ?_, ?_⟩
  · have h : (⟨L.toArray⟩ : Str).length = L.length := by simp [Str.length]
    unfold pSl
    simp only [h]
    rw [if_pos (by unfold lineN; omega)]
  · unfold cutZ at mc
    exact List.mem_of_mem_drop (List.mem_of_mem_take mc)
  · unfold cutZ
    rw [List.length_take, List.length_drop]
    omega
def Tn (n : Nat) (x : P) : Prop := ∃ L, x = .str ⟨L.toArray⟩ ∧ okC L ∧ L.length ≤ n ∧ 1 ≤ L.length
theorem Tn.tx {n : Nat} {x : P} (h : Tn n x) : Tx n x := by
  obtain ⟨L, e, o, l, _⟩ := h
  exact ⟨L, e, o, l⟩
theorem tn_of {s : String} {n : Nat} (h : (s.toList.length ≤ n ∧ ∀ k ∈ s.toList, k.toNat < 128) ∧ 1 ≤ s.toList.length) : Tn n (.str (Str.ofString s)) := by
  obtain ⟨L, e, o, l⟩ := tx_of h.1
  refine ⟨L, e, o, l, ?_⟩
  have := PyProof.Rows.signs_ofString s
  have e2 : (Str.ofString s).cps.toList = L := by
    have := congrArg (fun x => match x with | P.str s => s.cps.toList | _ => []) e
    simpa using this
  rw [e2] at this
  rw [this, List.length_map]
  exact h.2
theorem tn_add {n m : Nat} {x y : P} (hx : Tn n x) (hy : Tx m y) (h : n + m ≤ 1000000) : ∃ z, pAdd x y = some (.str z) ∧ Tn (n + m) (.str z) := by
  obtain ⟨L, rfl, o1, l1, l0⟩ := hx
  obtain ⟨M, rfl, o2, l2⟩ := hy
  refine ⟨⟨(L ++ M).toArray⟩, ?_, L ++ M, rfl, fun c mc => ?_, by simp; omega, by simp; omega⟩
  · have h1 : (⟨L.toArray⟩ : Str).length = L.length := by simp [Str.length]
    have h2 : (⟨M.toArray⟩ : Str).length = M.length := by simp [Str.length]
    show (if (⟨L.toArray⟩ : Str).length + (⟨M.toArray⟩ : Str).length ≤ lineN then some (P.str ((⟨L.toArray⟩ : Str) ++ ⟨M.toArray⟩)) else none) = _
    rw [h1, h2, if_pos (by unfold lineN; omega)]
    have : ((⟨L.toArray⟩ : Str) ++ ⟨M.toArray⟩) = ⟨(L ++ M).toArray⟩ := by
      show Str.mk (L.toArray ++ M.toArray) = _
      simp
    rw [this]
  · rcases List.mem_append.mp mc with q | q
    · exact o1 c q
    · exact o2 c q
section
variable {b : Int} {d : D}
theorem pick_okS (h : St b d) (hb : b < 1000000000000) {n : Nat} {x : P} (hx : Tn n x) (hn : n ≤ 1000000) : ∃ z d', f_law_pick [d, .p x] = .ok (.p (.str z)) d' ∧ St (b + 1) d' ∧ Tx 1 (.str z) := by
  obtain ⟨L, rfl, o, l, h1⟩ := hx
  obtain ⟨r, d', e, s, hr⟩ := take_ok h hb (L.length : Nat) (by omega)
  obtain ⟨r0, r1⟩ := hr (by omega)
  obtain ⟨c, ec, mc⟩ := at_in (l := L) r0 r1
  have el := lenS (L := L) (by omega)
  have ei : pIx (.str ⟨L.toArray⟩) (.int r) = some (ch c) := by
    have h : (⟨L.toArray⟩ : Str).length = L.length := by simp [Str.length]
    unfold pIx
    simp only [h]
    rw [if_pos (by unfold lineN; omega)]
    show (atZ L r).map _ = _
    rw [ec]; rfl
  refine ⟨⟨#[c]⟩, d', ?_, s, tx_ch (o c mc)⟩
  generalize ((L.length : Nat) : Int) = len at *
  simp [f_law_pick, F_law_pick, el, e, ei]
theorem signs_ok : ∃ z, f_law_signs [] = .ok (.p (.str z)) (.p .non) ∧ Tn 100 (.str z) := by
  have t1 : Tn 70 (.str "!\"#$&'()*+,-./0123456789:;<=>?@ABCDEFGHIJKLMNOPQRSTUVWXYZ[\\]^_`") := tn_of (by decide)
  have t2 : Tx 30 (.str "abcdefghijklmnopqrstuvwxyz{|}~") := tx_of (by decide)
  obtain ⟨z, e, t⟩ := tn_add t1 t2 (by omega)
  exact ⟨z, by simp [f_law_signs, F_law_signs, e], t⟩
end
theorem nlen {n : Nat} (h : n < 10 ^ 40) : (toString n).toList.length ≤ 40 ∧ ∀ k ∈ (toString n).toList, k.toNat < 128 := by
  have e := TL.tl_num n
  have e2 := PyProof.Rows.signs_ofString (toString ((n : Nat) : Int))
  have l := TL.numL_len (k := 40) (by omega) h
  have dd := TL.numL_digits n
  have e3 : (Str.ofString (toString ((n : Nat) : Int))).cps.toList = TL.numL n := e
  have e4 : (toString n).toList.map Char.toNat = TL.numL n := by
    have : (toString ((n : Nat) : Int)).toList.map Char.toNat = TL.numL n := by rw [← e2]; exact e3
    exact this
  have l2 := congrArg List.length e4
  rw [List.length_map] at l2
  refine ⟨by omega, fun k m => ?_⟩
  have m2 : k.toNat ∈ TL.numL n := by rw [← e4]; exact List.mem_map.mpr ⟨k, m, rfl⟩
  have := dd _ m2
  omega
theorem str_ok {i : Int} (h : Sm i) : ∃ z, bStr [.int i] = some (.str z) ∧ Tx 50 (.str z) := by
  have hl : i.natAbs.log2 < 1920 := by
    have : i.natAbs < 2 ^ 140 := by unfold Sm at h; omega
    have := log2_lt this (by omega)
    omega
  refine ⟨Str.ofString (toString i), ?_, tx_of ?_⟩
  · show (if i.natAbs.log2 < 1920 then _ else _) = _
    rw [if_pos hl]
  · unfold Sm at h
    cases i with
    | ofNat n =>
      have := nlen (n := n) (by simp at h; omega)
      show (toString n).toList.length ≤ 50 ∧ ∀ k ∈ (toString n).toList, k.toNat < 128
      exact ⟨by omega, this.2⟩
    | negSucc n =>
      have := nlen (n := n + 1) (by omega)
      have e : toString (Int.negSucc n) = "-" ++ toString (n + 1) := rfl
      rw [e, String.toList_append, List.length_append]
      have l1 : "-".toList.length = 1 := rfl
      refine ⟨by omega, fun k m => ?_⟩
      rcases List.mem_append.mp m with q | q
      · have : k = '-' := by simpa using q
        subst this
        decide
      · exact this.2 k q
section
variable {b : Int} {d : D}
theorem nword_ok (h : St b d) (hb : b < 100000000000) : ∃ z d', f_law_number_word [d] = .ok (.p (.str z)) d' ∧ St (b + 3) d' ∧ Tx 50 (.str z) := by
  obtain ⟨r, d1, e1, s1, sm⟩ := number_ok h hb
  obtain ⟨z, e2, t⟩ := str_ok sm
  exact ⟨z, d1, by simp [f_law_number_word, F_law_number_word, e1, e2], s1, t⟩
end
end Z
set_option Elab.async false
set_option linter.all false
set_option maxRecDepth 100000
set_option maxHeartbeats 4000000
namespace Z
open PySem L2 PySem.W NumText
section
variable {b : Int} {d : D}
theorem tx_cl {n : Nat} {x : P} (h : Tx n x) : clean x = true := by obtain ⟨L, rfl, _⟩ := h; simp
/-- one of some texts -/
theorem pick_tx (h : St b d) (hb : b < 1000000000000) {n : Nat} (xs : List P) (h1 : 1 ≤ xs.length) (h2 : xs.length < 10 ^ 30) (ht : ∀ x ∈ xs, Tx n x) : ∃ z d', f_law_pick [d, .p (.lst xs)] = .ok (.p (.str z)) d' ∧ St (b + 1) d' ∧ Tx n (.str z) := by
  obtain ⟨x, d', e, s, m⟩ := pick_ok h hb xs h1 h2
  obtain ⟨L, rfl, o, l⟩ := ht x m
  exact ⟨_, d', e, s, L, rfl, o, l⟩
/-- a number of some -/
theorem pick_int (h : St b d) (hb : b < 1000000000000) (lo hi : Int) (xs : List P) (h1 : 1 ≤ xs.length) (h2 : xs.length < 10 ^ 30) (ht : ∀ x ∈ xs, ∃ i, x = .int i ∧ lo ≤ i ∧ i ≤ hi) : ∃ i d', f_law_pick [d, .p (.lst xs)] = .ok (.p (.int i)) d' ∧ St (b + 1) d' ∧ lo ≤ i ∧ i ≤ hi := by
  obtain ⟨x, d', e, s, m⟩ := pick_ok h hb xs h1 h2
  obtain ⟨i, rfl, l1, l2⟩ := ht x m
  exact ⟨i, d', e, s, l1, l2⟩
theorem pick_intL (h : St b d) (hb : b < 1000000000000) (lo hi : Int) (xs : List D) (h1 : 1 ≤ xs.length) (h2 : xs.length < 10 ^ 30) (ht : ∀ x ∈ vws xs, ∃ i, x = .int i ∧ lo ≤ i ∧ i ≤ hi) : ∃ i d', f_law_pick [d, .l xs] = .ok (.p (.int i)) d' ∧ St (b + 1) d' ∧ lo ≤ i ∧ i ≤ hi := by
  obtain ⟨x, d', e, s, m⟩ := pick_okL h hb xs h1 h2
  obtain ⟨i, rfl, l1, l2⟩ := ht x m
  exact ⟨i, d', e, s, l1, l2⟩
theorem pick_txL (h : St b d) (hb : b < 1000000000000) {n : Nat} (xs : List D) (h1 : 1 ≤ xs.length) (h2 : xs.length < 10 ^ 30) (ht : ∀ x ∈ vws xs, Tx n x) : ∃ z d', f_law_pick [d, .l xs] = .ok (.p (.str z)) d' ∧ St (b + 1) d' ∧ Tx n (.str z) := by
  obtain ⟨x, d', e, s, m⟩ := pick_okL h hb xs h1 h2
  obtain ⟨L, rfl, o, l⟩ := ht x m
  exact ⟨_, d', e, s, L, rfl, o, l⟩
theorem name_loop (s2 : Slot) (c : Bool) : ∀ (ks : List Int) (n : Nat) (z : Str) (b : Int) (d : D) (s : Slot), St b d → b + ks.length < 100000000000 → n + ks.length ≤ 1000 → Tx n (.str z) → Fr1 s →
    ∃ d' z' s', forL (.n 5) B_law_name_0 (ks.map P.int) [.fix d, .var (.p (.str "abcdefghijklmnopqrstuvwxyz")), s2, .var (.p (.bl c)), .var (.p (.str z)), s, .no, .no] = .nx [.fix d', .var (.p (.str "abcdefghijklmnopqrstuvwxyz")), s2, .var (.p (.bl c)), .var (.p (.str z')), s', .no, .no] ∧ St (b + ks.length) d' ∧ Tx (n + ks.length) (.str z')
  | [], n, z, b, d, s, st, _, _, tz, _ => ⟨d, z, s, by simp, by simpa using st, by simpa using tz⟩
  | k :: ks, n, z, b, d, s, st, hb, hn, tz, fr => by
    simp only [List.length_cons] at hb hn
    cases c with
    | true =>
      obtain ⟨z1, e1, t1⟩ := tx_add tz (y := .str "a") (m := 1) (tx_of (by decide)) (by omega)
      obtain ⟨d', z', s', e, s2', t2⟩ := name_loop s2 true ks (n + 1) z1 (b + 1) d (.var (.p (.int k))) (st.mono (by omega)) (by omega) (by omega) t1 (.va _)
      refine ⟨d', z', s', ?_, by simp only [List.length_cons]; exact s2'.mono (by omega), t2.mono (by simp; omega)⟩
      rw [← e, List.map_cons, q_forc]
      cases fr <;> simp [B_law_name_0, e1]
    | false =>
      obtain ⟨z0, e0, t0⟩ := tn_add (x := .str "abcdefghijklmnopqrstuvwxyz") (n := 26) (y := .str "0123456789") (m := 10) (tn_of (by decide)) (tx_of (by decide)) (by omega)
      obtain ⟨y, d1, e2, s1, ty⟩ := pick_okS st (by omega) t0 (by omega)
      obtain ⟨z1, e1, t1⟩ := tx_add tz ty (by omega)
      obtain ⟨d', z', s', e, s2', t2⟩ := name_loop s2 false ks (n + 1) z1 (b + 1) d1 (.var (.p (.int k))) s1 (by omega) (by omega) t1 (.va _)
      refine ⟨d', z', s', ?_, by simp only [List.length_cons]; exact s2'.mono (by omega), t2.mono (by simp; omega)⟩
      rw [← e, List.map_cons, q_forc]
      cases fr <;> simp [B_law_name_0, e0, e1, e2]
theorem name_ok (h : St b d) (hb : b < 10000000000) : ∃ z d', f_law_name [d] = .ok (.p (.str z)) d' ∧ St (b + 30) d' ∧ Tx 100 (.str z) := by
  obtain ⟨r1, d1, e1, s1, h1⟩ := take_ok h (by omega) 12 (by omega)
  have h1 := h1 (by omega)
  obtain ⟨r2, d2, e2, s2, h2⟩ := take_ok s1 (by omega) 6 (by omega)
  have h2 := h2 (by omega)
  obtain ⟨sz, d3, e3, s3, l1, l2⟩ := pick_intL s2 (by omega) 1 13 [.p (.int 1), .p (.int 12), .p (.int 2), .p (.int 3), .p (.int (1 + r1)), .p (.int (2 + r2))] (by simp) (by simp) (fun x m => by
    simp only [vws, vw, List.mem_cons, List.not_mem_nil, or_false] at m
    rcases m with q | q | q | q | q | q <;> exact ⟨_, q, by omega, by omega⟩)
  obtain ⟨c, d4, e4, s4⟩ := hit_ok s3 (by omega) 2 (by omega)
  have tA : Tn 26 (.str "abcdefghijklmnopqrstuvwxyz") := tn_of (by decide)
  obtain ⟨w, d5, e5, s5, tw⟩ := pick_okS s4 (by omega) tA (by omega)
  obtain ⟨d6, w2, s', e6, s6, t6⟩ := name_loop (.var (.p (.int sz))) c ((List.range (sz - 1).toNat).map fun k : Nat => 0 + (k : Int)) 1 w (b + 1 + 1 + 1 + 1 + 1) d5 .no s5 (by simp; omega) (by simp; omega) tw .no
  rw [← rangeL_eq] at e6
  simp only [List.length_map, List.length_range] at s6 t6
  have t6 : Tx 20 (.str w2) := t6.mono (by omega)
  have s6 : St (b + 20) d6 := s6.mono (by omega)
  have f1 := fits_of (i := sz - 1) (by omega) (by omega)
  have hd : (sForS (.n 5) (oRg [.e (eW [2] (g2 pSub (gV 2) (gC (.int 1))))]) (B_law_name_0)) [.fix d5, .var (.p (.str "abcdefghijklmnopqrstuvwxyz")), .var (.p (.int sz)), .var (.p (.bl c)), .var (.p (.str w)), .no, .no, .no] = .nx [.fix d6, .var (.p (.str "abcdefghijklmnopqrstuvwxyz")), .var (.p (.int sz)), .var (.p (.bl c)), .var (.p (.str w2)), s', .no, .no] := by
    simp [f1, -Int.pred_toNat, e6]
  have a1 : (sAsg 1 (eW [] (gC (.str "abcdefghijklmnopqrstuvwxyz")))) [.fix d, .no, .no, .no, .no, .no, .no, .no] = .nx [.fix d, .var (.p (.str "abcdefghijklmnopqrstuvwxyz")), .no, .no, .no, .no, .no, .no] := by simp
  have a2 : (sAsg 2 (eOpM 0 [.e (eOp [.e (eW [] (gC (.int 1))), .e (eW [] (gC (.int 12))), .e (eW [] (gC (.int 2))), .e (eW [] (gC (.int 3))), .e (eOp [.e (eW [] (gC (.int 1))), .e (eOpM 0 [.e (eW [] (gC (.int 12)))] f_law_take)] (lift2 pAdd)), .e (eOp [.e (eW [] (gC (.int 2))), .e (eOpM 0 [.e (eW [] (gC (.int 6)))] f_law_take)] (lift2 pAdd))] hList)] f_law_pick)) [.fix d, .var (.p (.str "abcdefghijklmnopqrstuvwxyz")), .no, .no, .no, .no, .no, .no] = .nx [.fix d3, .var (.p (.str "abcdefghijklmnopqrstuvwxyz")), .var (.p (.int sz)), .no, .no, .no, .no, .no] := by
    simp [e1, e2, lineN, e3]
  have a3 : (sAsg 3 (eOpM 0 [.e (eW [] (gC (.int 2)))] f_law_hit)) [.fix d3, .var (.p (.str "abcdefghijklmnopqrstuvwxyz")), .var (.p (.int sz)), .no, .no, .no, .no, .no] = .nx [.fix d4, .var (.p (.str "abcdefghijklmnopqrstuvwxyz")), .var (.p (.int sz)), .var (.p (.bl c)), .no, .no, .no, .no] := by simp [e4]
  have a4 : (sAsg 4 (eOpM 0 [.v 1] f_law_pick)) [.fix d4, .var (.p (.str "abcdefghijklmnopqrstuvwxyz")), .var (.p (.int sz)), .var (.p (.bl c)), .no, .no, .no, .no] = .nx [.fix d5, .var (.p (.str "abcdefghijklmnopqrstuvwxyz")), .var (.p (.int sz)), .var (.p (.bl c)), .var (.p (.str w)), .no, .no, .no] := by simp [e5]
  have fin : ∃ z d' env, (sSeq (sIf (tAnd (tE (eW [3] (gV 3))) (tE (eW [2] (g2 pGt (gV 2) (gC (.int 1)))))) (sSeq (sAsg 6 (eOpM 0 [.v 2] f_law_take))
      (sSeq (sAsg 7 (eOpM 0 [.v 1] f_law_pick))
      (sSeq (sIf (tE (eW [6] (g2 pGt (gV 6) (gC (.int 0))))) (sAsg 7 (eOpM 0 [.e (eW [1] (g2 pAdd (gV 1) (gC (.str "0123456789"))))] f_law_pick)) (sNx))
      (sAsg 4 (eW [4, 6, 7, 4, 6] (g2 pAdd (g2 pAdd (gSl (gV 4) none (some (gV 6))) (gV 7)) (gSl (gV 4) (some (g2 pAdd (gV 6) (gC (.int 1)))) none))))))) (sNx)) (sRet (eM 4))) [.fix d6, .var (.p (.str "abcdefghijklmnopqrstuvwxyz")), .var (.p (.int sz)), .var (.p (.bl c)), .var (.p (.str w2)), s', .no, .no] = .rt (.p (.str z)) (.fix d' :: env) ∧ St (b + 30) d' ∧ Tx 100 (.str z) := by
    by_cases hc : c = true ∧ 1 < sz
    · obtain ⟨hc, hs⟩ := hc
      subst hc
      obtain ⟨r, d7, e7, s7, h7⟩ := take_ok s6 (by omega) sz (by omega)
      obtain ⟨y, d8, e8, s8, t8⟩ := pick_okS s7 (by omega) tA (by omega)
      obtain ⟨z1, e10, t10⟩ := tx_sl t6 (by omega) none (some r)
      obtain ⟨z2, e11, t11⟩ := tx_sl t6 (by omega) (some (r + 1)) none
      by_cases h0 : 0 < r
      · obtain ⟨z0, e0, t0⟩ := tn_add (x := .str "abcdefghijklmnopqrstuvwxyz") (n := 26) (y := .str "0123456789") (m := 10) tA (tx_of (by decide)) (by omega)
        obtain ⟨y2, d9, e9, s9, t9⟩ := pick_okS s8 (by omega) t0 (by omega)
        obtain ⟨z3, e12, t12⟩ := tx_add t10 t9 (by omega)
        obtain ⟨z4, e13, t13⟩ := tx_add t12 t11 (by omega)
        refine ⟨z4, d9, _, by simp [hs, e7, e8, h0, e0, e9, gSl, gPart, e10, e11, e12, e13]; rfl, s9.mono (by omega), t13.mono (by omega)⟩
      · obtain ⟨z3, e12, t12⟩ := tx_add t10 t8 (by omega)
        obtain ⟨z4, e13, t13⟩ := tx_add t12 t11 (by omega)
        refine ⟨z4, d8, _, by simp [hs, e7, e8, h0, gSl, gPart, e10, e11, e12, e13]; rfl, s8.mono (by omega), t13.mono (by omega)⟩
    · have : c = false ∨ ¬ 1 < sz := by cases c <;> simp at hc ⊢; exact hc
      rcases this with q | q
      · subst q
        exact ⟨w2, d6, _, by simp; rfl, s6.mono (by omega), t6.mono (by omega)⟩
      · cases c
        · exact ⟨w2, d6, _, by simp; rfl, s6.mono (by omega), t6.mono (by omega)⟩
        · exact ⟨w2, d6, _, by simp [q]; rfl, s6.mono (by omega), t6.mono (by omega)⟩
  obtain ⟨z, d', env, ef, sf, tf⟩ := fin
  refine ⟨z, d', ?_, sf, tf⟩
  simp only [f_law_name, F_law_name, q_mkM, q_enterM, List.length_cons, List.length_nil, Nat.zero_add, if_true, List.map_nil, List.nil_append]
  rw [show List.replicate (8 - 1) Slot.no = [.no, .no, .no, .no, .no, .no, .no] from rfl, seq_nx a1, seq_nx a2, seq_nx a3, seq_nx a4, seq_nx hd, ef]
  rfl
end
end Z
set_option Elab.async false
set_option linter.all false
set_option maxRecDepth 100000
set_option maxHeartbeats 4000000
namespace Z
open PySem L2 PySem.W NumText Builtin.Str
theorem up_ascii : ∀ c : Nat, c < 128 → ∀ k ∈ Unicode.upperOf c, k < 128 := by decide +kernel
theorem tx_up {n : Nat} {x : P} (h : Tx n x) (hn : n ≤ 1000000) : ∃ z, hUp x [] = some (.str z) ∧ Tx (3 * n) (.str z) := by
  obtain ⟨L, rfl, o, l⟩ := h
  have hl : (⟨L.toArray⟩ : Str).length = L.length := by simp [Str.length]
  refine ⟨Txt.upper ⟨L.toArray⟩, ?_, (Txt.upper ⟨L.toArray⟩).cps.toList, by rw [← str_L], fun c m => ?_, ?_⟩
  · show (if (⟨L.toArray⟩ : Str).length ≤ 5592405 then some (P.str (Txt.upper ⟨L.toArray⟩)) else none) = _
    rw [hl, if_pos (by omega)]
  · unfold Txt.upper placed at m
    simp only [Array.mem_toList_iff, Array.mem_flatten, Array.mem_mapIdx] at m
    obtain ⟨ys, ⟨i, hi, e⟩, m2⟩ := m
    subst e
    simp only [List.mem_toArray] at m2
    refine up_ascii _ (o _ ?_) c m2
    simp
  · have := PyProof.Rows.len_upper ⟨L.toArray⟩
    rw [hl] at this
    have e : (Txt.upper ⟨L.toArray⟩).cps.toList.length = (Txt.upper ⟨L.toArray⟩).length := by simp [Str.length]
    omega
theorem tx_len {n : Nat} {x : P} (h : Tx n x) (hn : n ≤ 1000000) : ∃ k : Int, bLen [x] = some (.int k) ∧ 0 ≤ k ∧ k ≤ n := by
  obtain ⟨L, rfl, o, l⟩ := h
  exact ⟨_, lenS (by omega), by omega, by omega⟩
section
variable {b : Int} {d : D}
theorem bent_ok (h : St b d) (hb : b < 10000000000) {n : Nat} {s : Str} (tx : Tx n (.str s)) (hn : n ≤ 400000) : ∃ z d', f_law_bent_text [d, .p (.str s)] = .ok (.p (.str z)) d' ∧ St (b + 10) d' ∧ Tx (2 * n + 5) (.str z) := by
  obtain ⟨c, d1, e1, s1⟩ := hit_ok h (by omega) 16 (by omega)
  cases c with
  | true =>
    obtain ⟨z, d2, e2, s2, t2⟩ := pick_tx (n := 5) s1 (by omega) [.str "", .str "\n", .str " ", .str "\n\n", .str "a\n\n", .str " a", .str "a \nb", .str "a\n b", .str "a  b", .str "\t", .str "a  \t"] (by simp) (by simp) (fun x m => by
      simp only [List.mem_cons, List.not_mem_nil, or_false] at m
      rcases m with q | q | q | q | q | q | q | q | q | q | q <;> subst q <;> exact tx_of (by decide))
    exact ⟨z, d2, by simp [f_law_bent_text, F_law_bent_text, e1, lineN, e2], s2.mono (by omega), t2.mono (by omega)⟩
  | false =>
    obtain ⟨k, ek, k0, k1⟩ := tx_len tx (by omega)
    obtain ⟨r1, d2, e2, s2, h2⟩ := take_ok s1 (by omega) (k + 1) (by omega)
    have h2 := h2 (by omega)
    obtain ⟨r2, d3, e3, s3, h3⟩ := take_ok s2 (by omega) (k + 1) (by omega)
    have h3 := h3 (by omega)
    obtain ⟨at_, d4, e4, s4, l1, l2⟩ := pick_intL s3 (by omega) 0 n [.p (.int 0), .p (.int k), .p (.int r1), .p (.int r2)] (by simp) (by simp) (fun x m => by
      simp only [vws, vw, List.mem_cons, List.not_mem_nil, or_false] at m
      rcases m with q | q | q | q <;> exact ⟨_, q, by omega, by omega⟩)
    obtain ⟨c2, d5, e5, s5⟩ := hit_ok s4 (by omega) 3 (by omega)
    obtain ⟨z1, f1, t1⟩ := tx_sl tx (by omega) none (some at_)
    cases c2 with
    | true =>
      obtain ⟨z2, f2, t2⟩ := tx_sl tx (by omega) (some (at_ + 1)) none
      obtain ⟨z, ez, tz⟩ := tx_add t1 t2 (by omega)
      exact ⟨z, d5, by simp [f_law_bent_text, F_law_bent_text, e1, ek, e2, e3, lineN, e4, e5, gSl, gPart, f1, f2, ez], s5.mono (by omega), tz.mono (by omega)⟩
    | false =>
      obtain ⟨y, d6, e6, s6, t6⟩ := pick_tx (n := 2) s5 (by omega) [.str "\t", .str " ", .str "\n", .str "\n\n", .str "  ", .str "\n ", .str " \n"] (by simp) (by simp) (fun x m => by
        simp only [List.mem_cons, List.not_mem_nil, or_false] at m
        rcases m with q | q | q | q | q | q | q <;> subst q <;> exact tx_of (by decide))
      obtain ⟨z2, f2, t2⟩ := tx_sl tx (by omega) (some at_) none
      obtain ⟨y1, ey, ty1⟩ := tx_add t1 t6 (by omega)
      obtain ⟨z, ez, tz⟩ := tx_add ty1 t2 (by omega)
      exact ⟨z, d6, by simp [f_law_bent_text, F_law_bent_text, e1, ek, e2, e3, lineN, e4, e5, gSl, gPart, f1, f2, e6, ey, ez], s6.mono (by omega), tz.mono (by omega)⟩
theorem sign_loop (sw : Slot) {zs : Str} (tz : Tn 100 (.str zs)) : ∀ (ks : List Int) (n : Nat) (z : Str) (b : Int) (d : D) (s : Slot), St b d → b + ks.length < 100000000000 → n + ks.length ≤ 1000 → Tx n (.str z) → Fr1 s →
    ∃ d' z' s', forL (.n 4) B_law_sign_word_0 (ks.map P.int) [.fix d, sw, .var (.p (.str zs)), .var (.p (.str z)), s] = .nx [.fix d', sw, .var (.p (.str zs)), .var (.p (.str z')), s'] ∧ St (b + ks.length) d' ∧ Tx (n + ks.length) (.str z')
  | [], n, z, b, d, s, st, _, _, t, _ => ⟨d, z, s, by simp, by simpa using st, by simpa using t⟩
  | k :: ks, n, z, b, d, s, st, hb, hn, t, fr => by
    simp only [List.length_cons] at hb hn
    obtain ⟨y, d1, e2, s1, ty⟩ := pick_okS st (by omega) tz (by omega)
    obtain ⟨z1, e1, t1⟩ := tx_add t ty (by omega)
    obtain ⟨d', z', s', e, s2', t2⟩ := sign_loop sw tz ks (n + 1) z1 (b + 1) d1 (.var (.p (.int k))) s1 (by omega) (by omega) t1 (.va _)
    refine ⟨d', z', s', ?_, by simp only [List.length_cons]; exact s2'.mono (by omega), t2.mono (by simp; omega)⟩
    rw [← e, List.map_cons, q_forc]
    cases fr <;> simp [B_law_sign_word_0, e1, e2]
theorem sign_ok (h : St b d) (hb : b < 10000000000) (m : Int) (hm : 1 ≤ m ∧ m ≤ 100) : ∃ z d', f_law_sign_word [d, .p (.int m)] = .ok (.p (.str z)) d' ∧ St (b + 110) d' ∧ Tx 200 (.str z) := by
  obtain ⟨zs, e0, t0⟩ := signs_ok
  obtain ⟨r, d1, e1, s1, h1⟩ := take_ok h (by omega) m (by omega)
  have h1 := h1 (by omega)
  obtain ⟨d2, z, s', e2, s2, t2⟩ := sign_loop (.var (.p (.int m))) t0 ((List.range (1 + r).toNat).map fun k : Nat => 0 + (k : Int)) 0 "" (b + 1) d1 .no s1 (by simp; omega) (by simp; omega) (tx_of (by decide)) .no
  rw [← rangeL_eq] at e2
  simp only [List.length_map, List.length_range] at s2 t2
  have f1 := fits_of (i := 1 + r) (by omega) (by omega)
  refine ⟨z, d2, ?_, s2.mono (by omega), t2.mono (by omega)⟩
  have hk : rangeL 0 (1 + r).toNat = rangeL 0 (1 + r).toNat := rfl
  have e4 : (sForS (.n 4) (oRg [.e (eOp [.e (eW [] (gC (.int 1))), .e (eOpM 0 [.v 1] f_law_take)] (lift2 pAdd))]) (B_law_sign_word_0)) [.fix d, .var (.p (.int m)), .var (.p (.str zs)), .var (.p (.str "")), .no] = .nx [.fix d2, .var (.p (.int m)), .var (.p (.str zs)), .var (.p (.str z)), s'] := by
    have e5 : (oRg [.e (eOp [.e (eW [] (gC (.int 1))), .e (eOpM 0 [.v 1] f_law_take)] (lift2 pAdd))]) [.fix d, .var (.p (.int m)), .var (.p (.str zs)), .var (.p (.str "")), .no] = .ok (rangeL 0 (1 + r).toNat) [.fix d1, .var (.p (.int m)), .var (.p (.str zs)), .var (.p (.str "")), .no] := by
      simp [e1, f1]
    rw [q_forS, e5]
    exact e2
  have a1 : (sAsg 2 (eOp [] f_law_signs)) [.fix d, .var (.p (.int m)), .no, .no, .no] = .nx [.fix d, .var (.p (.int m)), .var (.p (.str zs)), .no, .no] := by simp [e0]
  have a2 : (sAsg 3 (eW [] (gC (.str "")))) [.fix d, .var (.p (.int m)), .var (.p (.str zs)), .no, .no] = .nx [.fix d, .var (.p (.int m)), .var (.p (.str zs)), .var (.p (.str "")), .no] := by simp
  simp only [f_law_sign_word, F_law_sign_word, q_mkM, q_enterM, List.length_cons, List.length_nil, Nat.zero_add, if_true, List.map_nil, List.nil_append, List.map_cons, List.cons_append]
  rw [show List.replicate (5 - (1 + 1)) Slot.no = [.no, .no, .no] from rfl, seq_nx a1, seq_nx a2, seq_nx e4]
  simp
end
end Z
set_option Elab.async false
set_option linter.all false
set_option maxRecDepth 100000
set_option maxHeartbeats 4000000
namespace Z
open PySem L2 PySem.W NumText Builtin.Str
section
variable {b : Int} {d : D}
def Txs (n : Nat) (xs : List P) : Prop := ∀ x ∈ xs, Tx n x
theorem Txs.app {n : Nat} {xs ys : List P} (h : Txs n xs) (h2 : Txs n ys) : Txs n (xs ++ ys) := fun x m => (List.mem_append.mp m).elim (h x) (h2 x)
theorem Txs.mono {n m : Nat} {xs : List P} (h : Txs n xs) (hm : n ≤ m) : Txs m xs := fun x mx => (h x mx).mono hm
theorem Txs.one {n : Nat} {z : Str} (h : Tx n (.str z)) : Txs n [.str z] := fun x m => by rw [List.mem_singleton.mp m]; exact h
theorem near_loop (s0 s1 : Slot) {sh : Str} (th : Tx 11 (.str sh)) (at_ : Int) : ∀ (L : List Nat) (ys : List P) (s : Slot), okC L → ys.length + L.length ≤ 1000 → Txs 40 ys → Fr1 s →
    ∃ ys' s', forL (.n 5) B_law_near_words_0 (L.map ch) [s0, s1, .var (.p (.str sh)), .var (.p (.int at_)), .var (.l (ys.map D.p)), s] = .nx [s0, s1, .var (.p (.str sh)), .var (.p (.int at_)), .var (.l (List.map D.p ys')), s'] ∧ Txs 40 ys' ∧ ys'.length = ys.length + L.length
  | [], ys, s, _, _, h, _ => ⟨ys, s, by simp, h, by simp⟩
  | c :: L, ys, s, o, hl, h, fr => by
    simp only [List.length_cons] at hl
    obtain ⟨z1, f1, t1⟩ := tx_sl th (by omega) none (some at_)
    obtain ⟨z2, f2, t2⟩ := tx_sl th (by omega) (some at_) none
    obtain ⟨y1, g1, u1⟩ := tx_add t1 (tx_ch (o c List.mem_cons_self)) (by omega)
    obtain ⟨y2, g2', u2⟩ := tx_add u1 t2 (by omega)
    obtain ⟨ys', s', e, h', l'⟩ := near_loop s0 s1 th at_ L (ys ++ [.str y2]) (.var (.p (ch c))) (fun x m => o x (List.mem_cons_of_mem _ m)) (by simp; omega) (h.app (Txs.one (u2.mono (by omega)))) (.va _)
    refine ⟨ys', s', ?_, h', by rw [l']; simp; omega⟩
    rw [← e, List.map_cons, q_forc]
    have hz : ys.length < lineN := by unfold lineN; omega
    cases fr <;> simp [B_law_near_words_0, gSl, gPart, f1, f2, g1, g2', hz]
theorem near_ok (h : St b d) (hb : b < 10000000000) {n : Nat} {w : Str} (tw : Tx n (.str w)) (hn : n ≤ 1000) : ∃ ys d', f_law_near_words [d, .p (.str w)] = .ok (.l (ys.map D.p)) d' ∧ St (b + 10) d' ∧ Txs 40 ys ∧ ys.length ≤ 200 := by
  obtain ⟨L0, eL0, o0, l0⟩ := id tw
  have f0 : ∃ sh, pSl (.str w) none (some 11) = some (.str sh) ∧ Tx 11 (.str sh) := by
    cases eL0
    refine ⟨⟨(L0.take 11).toArray⟩, ?_, L0.take 11, rfl, fun c m => o0 c (List.mem_of_mem_take m), by rw [List.length_take]; omega⟩
    have h : (⟨L0.toArray⟩ : Str).length = L0.length := by simp [Str.length]
    unfold pSl
    simp only [h]
    rw [if_pos (by unfold lineN; omega)]
    have c1 : cutZ L0 none (some 11) = L0.take 11 := by
      unfold cutZ sIx
      simp only [List.drop_zero, Nat.sub_zero]
      rw [if_neg (by omega)]
      rw [Nat.min_def]
      split
      · rfl
      · rw [List.take_of_length_le (Nat.le_refl _), List.take_of_length_le (by omega)]
    show some (P.str ⟨(cutZ L0 none (some 11)).toArray⟩) = _
    rw [c1]
  obtain ⟨sh, f0, th⟩ := f0
  obtain ⟨k, ek, k0, k1⟩ := tx_len th (by omega)
  obtain ⟨r, d1, e1, s1, h1⟩ := take_ok h (by omega) (k + 1) (by omega)
  obtain ⟨zs, e0, t0⟩ := signs_ok
  obtain ⟨z2, e2, t2⟩ := tx_add t0.tx (y := .str " \n\t") (m := 3) (tx_of (by decide)) (by omega)
  obtain ⟨L, eL, oL, lL⟩ := t2
  obtain ⟨ys, s', e3, h3, l3⟩ := near_loop (.fix d1) (.var (.p (.str w))) th r L [] .no oL (by simp; omega) (fun x m => by cases m) .no
  have itL := itS L
  rw [← eL] at itL
  refine ⟨ys, d1, ?_, s1.mono (by omega), h3, by rw [l3]; simp; omega⟩
  have cc : cleanDs (ys.map D.p) = true := cleanDs_all fun x m => tx_cl (h3 x m)
  simp only [List.map_nil] at e3
  simp [f_law_near_words, F_law_near_words, gSl, gPart, f0, ek, e1, e0, e2, itL, e3]
theorem badname_ok (h : St b d) (hb : b < 1000000000) (c : Bool) : ∃ z d', f_law_bad_name [d, .p (.bl c)] = .ok (.p (.str z)) d' ∧ St (b + 50) d' ∧ Tx 400 (.str z) := by
  obtain ⟨w, d1, e1, s1, t1⟩ := name_ok h (by omega)
  obtain ⟨r, d2, e2, s2, h2⟩ := take_ok s1 (by omega) 6 (by omega)
  by_cases q0 : r = 0 ∧ c = true
  · obtain ⟨q0, qc⟩ := q0
    subst q0; subst qc
    exact ⟨"", d2, by simp [f_law_bad_name, F_law_bad_name, e1, e2], s2.mono (by omega), tx_of (by decide)⟩
  have a3 : (sIf (tAnd (tE (eW [3] (g2 pEq (gV 3) (gC (.int 0))))) (tE (eW [1] (gV 1)))) (sRet (eW [] (gC (.str "")))) (sNx)) [.fix d2, .var (.p (.bl c)), .var (.p (.str w)), .var (.p (.int r)), .no] = .nx [.fix d2, .var (.p (.bl c)), .var (.p (.str w)), .var (.p (.int r)), .no] := by
    by_cases q : r = 0
    · cases c
      · simp [q]
      · exact absurd ⟨q, rfl⟩ q0
    · simp [q]
  have a1 : (sAsg 2 (eOpM 0 [] f_law_name)) [.fix d, .var (.p (.bl c)), .no, .no, .no] = .nx [.fix d1, .var (.p (.bl c)), .var (.p (.str w)), .no, .no] := by simp [e1]
  have a2 : (sAsg 3 (eOpM 0 [.e (eW [] (gC (.int 6)))] f_law_take)) [.fix d1, .var (.p (.bl c)), .var (.p (.str w)), .no, .no] = .nx [.fix d2, .var (.p (.bl c)), .var (.p (.str w)), .var (.p (.int r)), .no] := by simp [e2]
  have go : ∀ {z : Str} {d' : D} {env : Env} {B : SF}, B [.fix d2, .var (.p (.bl c)), .var (.p (.str w)), .var (.p (.int r)), .no] = .rt (.p (.str z)) (.fix d' :: env) → F_law_bad_name = sSeq (sAsg 2 (eOpM 0 [] f_law_name)) (sSeq (sAsg 3 (eOpM 0 [.e (eW [] (gC (.int 6)))] f_law_take)) (sSeq (sIf (tAnd (tE (eW [3] (g2 pEq (gV 3) (gC (.int 0))))) (tE (eW [1] (gV 1)))) (sRet (eW [] (gC (.str "")))) (sNx)) B)) → f_law_bad_name [d, .p (.bl c)] = .ok (.p (.str z)) d' := by
    intro z d' env B hB hF
    simp only [f_law_bad_name, hF, q_mkM, q_enterM, List.length_cons, List.length_nil, Nat.zero_add, if_true, List.map_nil, List.nil_append, List.map_cons, List.cons_append]
    rw [show List.replicate (5 - (1 + 1)) Slot.no = [.no, .no, .no] from rfl, seq_nx a1, seq_nx a2, seq_nx a3, hB]
    rfl
  by_cases q1 : r = 1
  · obtain ⟨y, d3, e3, s3, t3⟩ := pick_okS s2 (by omega) (x := .str "0123456789") (n := 10) (tn_of (by decide)) (by omega)
    obtain ⟨z1, f1, u1⟩ := tx_sl t1 (by omega) none (some 11)
    obtain ⟨z, f2, u2⟩ := tx_add t3 u1 (by omega)
    exact ⟨z, d3, go (by simp [q1, e3, gSl, gPart, f1, f2]; rfl) rfl, s3.mono (by omega), u2.mono (by omega)⟩
  by_cases q2 : r = 2
  · obtain ⟨z1, f1, u1⟩ := tx_add t1 (y := .str "aaaaaaaaaaaa") (m := 12) (tx_of (by decide)) (by omega)
    obtain ⟨z, f2, u2⟩ := tx_sl u1 (by omega) none (some 13)
    exact ⟨z, d2, go (by simp [q2, gSl, gPart, f1, f2]; rfl) rfl, s2.mono (by omega), u2.mono (by omega)⟩
  by_cases q3 : r = 3
  · obtain ⟨z, f2, u2⟩ := tx_up t1 (by omega)
    exact ⟨z, d2, go (by simp [q3, gMt, f2]; rfl) rfl, s2.mono (by omega), u2.mono (by omega)⟩
  by_cases q4 : r = 4
  · obtain ⟨z, d3, e3, s3, t3⟩ := pick_tx (n := 5) s2 (by omega) [.str "0", .str "9", .str "-1", .str "#", .str ".", .str "A", .str "_a", .str "-"] (by simp) (by simp) (fun x m => by
      simp only [List.mem_cons, List.not_mem_nil, or_false] at m
      rcases m with q | q | q | q | q | q | q | q <;> subst q <;> exact tx_of (by decide))
    exact ⟨z, d3, go (by simp [q4, lineN, e3]; rfl) rfl, s3.mono (by omega), t3.mono (by omega)⟩
  · obtain ⟨k, ek, k0, k1⟩ := tx_len t1 (by omega)
    obtain ⟨at_, d3, e3, s3, _⟩ := take_ok s2 (by omega) (k + 1) (by omega)
    obtain ⟨y, d4, e4, s4, t4⟩ := pick_okS s3 (by omega) (x := .str "AZ_-.,~!") (n := 10) (tn_of (by decide)) (by omega)
    obtain ⟨z1, f1, u1⟩ := tx_sl t1 (by omega) none (some at_)
    obtain ⟨z2, f2, u2⟩ := tx_sl t1 (by omega) (some at_) none
    obtain ⟨z3, f3, u3⟩ := tx_add u1 t4 (by omega)
    obtain ⟨z, f4, u4⟩ := tx_add u3 u2 (by omega)
    exact ⟨z, d4, go (by simp [q1, q2, q3, q4, ek, e3, e4, gSl, gPart, f1, f2, f3, f4]; rfl) rfl, s4.mono (by omega), u4.mono (by omega)⟩
theorem rep_tx {n : Nat} {s : Str} (h : Tx 1 (.str s)) (k : Int) (h0 : 0 ≤ k) (h1 : k ≤ 100000) : ∃ z, pMulS (.str s) (.int k) = some (.str z) ∧ Tx 100000 (.str z) := by
  obtain ⟨L, e, o, l⟩ := h
  cases e
  have hl : (⟨L.toArray⟩ : Str).length = L.length := by simp [Str.length]
  refine ⟨repS ⟨L.toArray⟩ k, ?_, (repS ⟨L.toArray⟩ k).cps.toList, by rw [← str_L], ?_⟩
  · show (if -(2 ^ 62) ≤ k ∧ k < 2 ^ 62 ∧ (⟨L.toArray⟩ : Str).length * k.toNat ≤ lineN then some (P.str (repS ⟨L.toArray⟩ k)) else none) = _
    rw [hl]
    have hk : k.toNat ≤ 100000 := by omega
    have : L.length * k.toNat ≤ 1 * 100000 := Nat.mul_le_mul l hk
    rw [if_pos ⟨by omega, by omega, by unfold lineN; omega⟩]
  · unfold repS
    split
    · exact ⟨fun c m => by simp [Str.empty] at m, by simp [Str.empty]⟩
    · split
      · exact ⟨by simpa using o, by simp; omega⟩
      · constructor
        · have : ∀ (n : Nat) (acc : Array Nat), (∀ c ∈ acc, c < 128) → ∀ c ∈ (List.replicate n L.toArray).foldl (· ++ ·) acc, c < 128 := by
            intro n
            induction n with
            | zero => intro acc ha c m; exact ha c (by simpa using m)
            | succ n ih =>
              intro acc ha c m
              rw [List.replicate_succ, List.foldl_cons] at m
              refine ih _ (fun x mx => ?_) c m
              rcases Array.mem_append.mp mx with q | q
              · exact ha x q
              · exact o x (by simpa using q)
          intro c m
          exact this _ #[] (fun x mx => by simp at mx) c (by simpa using m)
        · have := rep_size L.toArray k.toNat #[]
          rw [Array.length_toList]
          show ((List.replicate k.toNat L.toArray).foldl (· ++ ·) #[]).size ≤ _
          rw [this]
          have : L.length * k.toNat ≤ 1 * 100000 := Nat.mul_le_mul l (by omega)
          simp
          omega
theorem badnum_ok (h : St b d) (hb : b < 1000000000) : ∃ z d', f_law_bad_number_word [d, .p (.bl true)] = .ok (.p (.str z)) d' ∧ St (b + 1) d' ∧ Tx 200000 (.str z) := by
  obtain ⟨z1, g1, v1⟩ := rep_tx (n := 0) (s := "0") (tx_of (by decide)) 30 (by omega) (by omega)
  obtain ⟨z2, g2', v2⟩ := rep_tx (n := 0) (s := "9") (tx_of (by decide)) 31 (by omega) (by omega)
  obtain ⟨z3, g3, v3⟩ := rep_tx (n := 0) (s := "1") (tx_of (by decide)) 31 (by omega) (by omega)
  obtain ⟨z4, g4, v4⟩ := rep_tx (n := 0) (s := "1") (tx_of (by decide)) 30 (by omega) (by omega)
  obtain ⟨y1, i1, w1⟩ := tx_add (x := .str "1") (n := 1) (tx_of (by decide)) v1 (by omega)
  obtain ⟨y2, i2, w2⟩ := tx_add (x := .str "-") (n := 1) (tx_of (by decide)) v2 (by omega)
  obtain ⟨y4, i4, w4⟩ := tx_add (x := .str "0") (n := 1) (tx_of (by decide)) v4 (by omega)
  obtain ⟨z, d1, e1, s1, t1⟩ := pick_tx (n := 200000) h (by omega) [.str "-", .str "-0", .str "00", .str "007", .str "+1", .str "1a", .str "--1", .str "1-", .str "-01", .str "0x1", .str "1_0", .str "a", .str ".", .str "#", .str "1,0", .str y1, .str y2, .str z3, .str y4, .str ""] (by simp) (by simp) (fun x m => by
    simp only [List.mem_cons, List.not_mem_nil, or_false] at m
    rcases m with q | q | q | q | q | q | q | q | q | q | q | q | q | q | q | q | q | q | q | q <;> subst q <;> first | exact tx_of (by decide) | exact w1.mono (by omega) | exact w2.mono (by omega) | exact v3.mono (by omega) | exact w4.mono (by omega))
  refine ⟨z, d1, ?_, s1, t1⟩
  by_cases hc : cleanD d1 = true <;> simp [f_law_bad_number_word, F_law_bad_number_word, lineN, hAdd, hAddL, seqL, g1, g2', g3, g4, i1, i2, i4, e1, hc]
theorem long_ok (h : St b d) (hb : b < 1000000000) : ∃ ys d', f_law_long_words [d] = .ok (.p (.lst ys)) d' ∧ St (b + 2) d' ∧ Txs 200000 ys ∧ ys.length = 7 := by
  obtain ⟨y, d1, e1, s1, t1⟩ := pick_okS h (by omega) (x := .str "0123456789az") (n := 12) (tn_of (by decide)) (by omega)
  obtain ⟨k, d2, e2, s2, k0, k1⟩ := pick_int s1 (by omega) 0 100000 [.int 11, .int 12, .int 13, .int 29, .int 30, .int 31, .int 32, .int 4299, .int 4300, .int 4301, .int 4302, .int 20000] (by simp) (by simp) (fun x m => by
    simp only [List.mem_cons, List.not_mem_nil, or_false] at m
    rcases m with q | q | q | q | q | q | q | q | q | q | q | q <;> exact ⟨_, q, by omega, by omega⟩)
  obtain ⟨z, g1, v1⟩ := rep_tx (n := 0) t1 k k0 k1
  obtain ⟨a1, f1, u1⟩ := tx_sl v1 (by omega) (some 1) none
  obtain ⟨a2, f2, u2⟩ := tx_sl v1 (by omega) (some 2) none
  obtain ⟨y1, i1, w1⟩ := tx_add (x := .str "-") (n := 1) (tx_of (by decide)) u1 (by omega)
  obtain ⟨y2, i2, w2⟩ := tx_add (x := .str "7") (n := 1) (tx_of (by decide)) u1 (by omega)
  obtain ⟨y3, i3, w3⟩ := tx_add (x := .str "-1") (n := 2) (tx_of (by decide)) u2 (by omega)
  obtain ⟨y4, i4, w4⟩ := tx_add (x := .str "a") (n := 1) (tx_of (by decide)) u1 (by omega)
  obtain ⟨y5, i5, w5⟩ := tx_add u1 (y := .str "-") (m := 1) (tx_of (by decide)) (by omega)
  obtain ⟨y6, i6, w6⟩ := tx_add u1 (y := .str "A") (m := 1) (tx_of (by decide)) (by omega)
  refine ⟨[.str z, .str y1, .str y2, .str y3, .str y4, .str y5, .str y6], d2, ?_, s2.mono (by omega), fun x m => ?_, rfl⟩
  · simp [f_law_long_words, F_law_long_words, e1, lineN, e2, g1, gSl, gPart, f1, f2, i1, i2, i3, i4, i5, i6]
  · simp only [List.mem_cons, List.not_mem_nil, or_false] at m
    rcases m with q | q | q | q | q | q | q <;> subst q
    · exact v1.mono (by omega)
    · exact w1.mono (by omega)
    · exact w2.mono (by omega)
    · exact w3.mono (by omega)
    · exact w4.mono (by omega)
    · exact w5.mono (by omega)
    · exact w6.mono (by omega)
end
end Z
set_option Elab.async false
set_option linter.all false
set_option maxRecDepth 100000
set_option maxHeartbeats 4000000
namespace Z
open PySem L2 PySem.W NumText Builtin.Str
section
variable {b : Int} {d : D}
theorem law_loop0 (s0 : Slot) {g0 g1 g2 g3 : Str} (t0 : Tx 100 (.str g0)) (t1 : Tx 100 (.str g1)) (t2 : Tx 100 (.str g2)) (t3 : Tx 100 (.str g3)) : ∀ (ks : List Int) (ws : List P) (b : Int) (d : D) (s : Slot), St b d → b + 200 * ks.length < 1000000 → (∀ k ∈ ks, 0 ≤ k ∧ k < 4) → ws.length + 4 * ks.length ≤ 1000 → Txs 200000 ws → Fr1 s →
    ∃ d' ws' s', forL (.n 4) Blaw_0 (ks.map P.int) [s0, .var d, .var (.l [.p (.str g0), .p (.str g1), .p (.str g2), .p (.str g3)]), .var (.l (ws.map D.p)), s, .no] = .nx [s0, .var d', .var (.l [.p (.str g0), .p (.str g1), .p (.str g2), .p (.str g3)]), .var (.l (List.map D.p ws')), s', .no] ∧ St (b + 200 * ks.length) d' ∧ Txs 200000 ws' ∧ ws'.length = ws.length + 4 * ks.length
  | [], ws, b, d, s, st, _, _, _, h, _ => ⟨d, ws, s, by simp, by simpa using st, h, by simp⟩
  | k :: ks, ws, b, d, s, st, hb, hk, hl, h, fr => by
    simp only [List.length_cons] at hb hl
    have k0 := hk k List.mem_cons_self
    obtain ⟨g, eg, tg⟩ : ∃ g : Str, atZ [P.str g0, .str g1, .str g2, .str g3] k = some (.str g) ∧ Tx 100 (.str g) := by
      obtain ⟨x, ex, mx⟩ := at_in (l := [P.str g0, .str g1, .str g2, .str g3]) k0.1 (by simpa using k0.2)
      simp only [List.mem_cons, List.not_mem_nil, or_false] at mx
      rcases mx with q | q | q | q <;> subst q <;> exact ⟨_, ex, by assumption⟩
    obtain ⟨z1, d1, e1, s1, u1⟩ := bent_ok st (by omega) tg (by omega)
    obtain ⟨z2, d2, e2, s2, u2⟩ := badnum_ok s1 (by omega)
    obtain ⟨z3, d3, e3, s3, u3⟩ := badname_ok s2 (by omega) true
    obtain ⟨z4, d4, e4, s4, u4⟩ := sign_ok s3 (by omega) 14 (by omega)
    obtain ⟨d', ws', s', e, st', h', l'⟩ := law_loop0 s0 t0 t1 t2 t3 ks (ws ++ [.str z1, .str z2, .str z3, .str z4]) (b + 200) d4 (.var (.p (.int k))) (s4.mono (by omega)) (by omega) (fun x m => hk x (List.mem_cons_of_mem _ m)) (by simp; omega)
      (h.app fun x m => by
        simp only [List.mem_cons, List.not_mem_nil, or_false] at m
        rcases m with q | q | q | q <;> subst q
        · exact u1.mono (by omega)
        · exact u2
        · exact u3.mono (by omega)
        · exact u4.mono (by omega)) (.va _)
    refine ⟨d', ws', s', ?_, st'.mono (by simp; omega), h', by rw [l']; simp; omega⟩
    rw [← e, List.map_cons, q_forc]
    have z0 : ws.length < lineN := by unfold lineN; omega
    have z1' : ws.length + 1 < lineN := by unfold lineN; omega
    have z2' : ws.length + 1 + 1 < lineN := by unfold lineN; omega
    have z3' : ws.length + 1 + 1 + 1 < lineN := by unfold lineN; omega
    cases fr <;> simp [Blaw_0, eg, e1, e2, e3, e4, z0, z1', z2', z3']
theorem law_loop1 (s0 s1 s2 s3 s4 : Slot) : ∀ (ws : List P) (s : Slot), Txs 1000000 ws → Fr1 s →
    ∃ s', forL (.n 5) Blaw_1 ws [s0, s1, s2, s3, s4, s] = .nx [s0, s1, s2, s3, s4, s']
  | [], s, _, _ => ⟨s, by simp⟩
  | w :: ws, s, h, fr => by
    obtain ⟨L, e, o, l⟩ := h w List.mem_cons_self
    subst e
    obtain ⟨s', e⟩ := law_loop1 s0 s1 s2 s3 s4 ws (.var (.p (.str ⟨L.toArray⟩))) (fun x m => h x (List.mem_cons_of_mem _ m)) (.va _)
    refine ⟨s', ?_⟩
    have e1 := numholds_ok L o l
    have e2 := namholds_ok L o l
    rw [← e, q_forc]
    cases fr <;> simp [Blaw_1, e1, e2]
end
theorem plain : Plain flaw := by
  intro ns _ _
  obtain ⟨d0, e0, st0⟩ := store_ok ns
  obtain ⟨w0, d1, e1, st1, t0⟩ := nword_ok st0 (by omega)
  obtain ⟨w1, d2, e2, st2, t1⟩ := name_ok st1 (by omega)
  obtain ⟨w2, d3, e3, st3, t2⟩ := nword_ok st2 (by omega)
  obtain ⟨w3, d4, e4, st4, t3⟩ := name_ok st3 (by omega)
  have gl : Txs 200000 [.str w0, .str w1, .str w2, .str w3] := fun x m => by
    simp only [List.mem_cons, List.not_mem_nil, or_false] at m
    rcases m with q | q | q | q <;> subst q
    · exact t0.mono (by omega)
    · exact t1.mono (by omega)
    · exact t2.mono (by omega)
    · exact t3.mono (by omega)
  obtain ⟨d5, ws, s4, e5, st5, h5, l5⟩ := law_loop0 (.var (.p (.scr ns))) (t0.mono (by omega)) t1 (t2.mono (by omega)) t3 ((List.range 4).map fun k : Nat => 0 + (k : Int)) [.str w0, .str w1, .str w2, .str w3] (0 + 3 + 30 + 3 + 30) d4 .no st4 (by simp) (fun k hk => by have := mem_rangeL hk; omega) (by simp) gl .no
  rw [← rangeL_eq] at e5
  simp only [List.map_cons, List.map_nil, List.length_map, List.length_range, List.length_cons, List.length_nil] at e5 st5 l5
  obtain ⟨y1, d6, e6, st6, h6, l6⟩ := near_ok st5 (by omega) t0 (by omega)
  obtain ⟨y2, d7, e7, st7, h7, l7⟩ := near_ok st6 (by omega) t1 (by omega)
  obtain ⟨c, d8, e8, st8⟩ := hit_ok st7 (by omega) 8 (by omega)
  have a0 : (sAsg 1 (eOp [.v 0] f_law_store)) [.var (.p (.scr ns)), .no, .no, .no, .no, .no] = .nx [.var (.p (.scr ns)), .var d0, .no, .no, .no, .no] := by simp [e0]
  have a1 : (sAsg 2 (eOp [.e (eOpM 1 [] f_law_number_word), .e (eOpM 1 [] f_law_name), .e (eOpM 1 [] f_law_number_word), .e (eOpM 1 [] f_law_name)] hList)) [.var (.p (.scr ns)), .var d0, .no, .no, .no, .no] = .nx [.var (.p (.scr ns)), .var d4, .var (.l [.p (.str w0), .p (.str w1), .p (.str w2), .p (.str w3)]), .no, .no, .no] := by simp [e1, e2, e3, e4, lineN]
  have a2 : (sAsg 3 (eOp [.v 2] hListOf)) [.var (.p (.scr ns)), .var d4, .var (.l [.p (.str w0), .p (.str w1), .p (.str w2), .p (.str w3)]), .no, .no, .no] = .nx [.var (.p (.scr ns)), .var d4, .var (.l [.p (.str w0), .p (.str w1), .p (.str w2), .p (.str w3)]), .var (.l [.p (.str w0), .p (.str w1), .p (.str w2), .p (.str w3)]), .no, .no] := by simp
  have a3 : (sForS (.n 4) (oRg [.e (eW [] (gC (.int 4)))]) (Blaw_0)) [.var (.p (.scr ns)), .var d4, .var (.l [.p (.str w0), .p (.str w1), .p (.str w2), .p (.str w3)]), .var (.l [.p (.str w0), .p (.str w1), .p (.str w2), .p (.str w3)]), .no, .no] = .nx [.var (.p (.scr ns)), .var d5, .var (.l [.p (.str w0), .p (.str w1), .p (.str w2), .p (.str w3)]), .var (.l (List.map D.p ws)), s4, .no] := by
    have f4 : fits62 4 = true := by decide
    have r4 : rgItems [.p (.int 4)] = some (rangeL 0 4) := rfl
    simp [-q_rg1, r4, e5]
  have q2 : vws (ws.map D.p) = ws := vws_p ws
  have q3 : vws (y1.map D.p) = y1 := vws_p y1
  have q4 : vws (y2.map D.p) = y2 := vws_p y2
  have p1 : pAdd (.lst ws) (.lst y1) = some (.lst (ws ++ y1)) := by
    show (if ws.length + y1.length ≤ lineN then _ else _) = _
    rw [if_pos (by unfold lineN; omega)]
  have p2 : hAdd [.p (.lst (ws ++ y1)), .l (y2.map D.p)] = .ok (.l ((ws ++ y1 ++ y2).map D.p)) (.p .non) := by
    have hh : (ws ++ y1).length + y2.length ≤ lineN := by unfold lineN; rw [List.length_append]; omega
    simp only [hAdd, hAddL, seqL, List.length_map]
    rw [if_pos hh]
    simp
  have a4 : (sAsg 3 (eOp [.e (eOp [.v 3, .e (eOpM 1 [.e (eW [2] (g2 pIx (gV 2) (gC (.int 0))))] f_law_near_words)] (lift2 pAdd)), .e (eOpM 1 [.e (eW [2] (g2 pIx (gV 2) (gC (.int 1))))] f_law_near_words)] hAdd)) [.var (.p (.scr ns)), .var d5, .var (.l [.p (.str w0), .p (.str w1), .p (.str w2), .p (.str w3)]), .var (.l (List.map D.p ws)), s4, .no] = .nx [.var (.p (.scr ns)), .var d7, .var (.l [.p (.str w0), .p (.str w1), .p (.str w2), .p (.str w3)]), .var (.l ((ws ++ y1 ++ y2).map D.p)), s4, .no] := by
    have i0 : pIx (.lst [.str w0, .str w1, .str w2, .str w3]) (.int 0) = some (.str w0) := by simp
    have i1 : pIx (.lst [.str w0, .str w1, .str w2, .str w3]) (.int 1) = some (.str w1) := by simp
    have c0 : cleanD (.p (.lst (ws ++ y1))) = false := by simp
    simp [e6, e7, p1, p2, i0, i1]
  have wl : Txs 200000 (ws ++ y1 ++ y2) := (h5.app (h6.mono (by omega))).app (h7.mono (by omega))
  have wlen : (ws ++ y1 ++ y2).length ≤ 2000 := by rw [List.length_append, List.length_append]; omega
  generalize ws ++ y1 ++ y2 = us at *
  have q5 : vws (us.map D.p) = us := vws_p us
  obtain ⟨vs, d9, ev, hv, lv⟩ : ∃ (vs : List P) (d9 : D), (sIf (tE (eOpM 1 [.e (eW [] (gC (.int 8)))] f_law_hit)) (sAsg 3 (eOp [.v 3, .e (eOpM 1 [] f_law_long_words)] hAdd)) (sNx)) [.var (.p (.scr ns)), .var d7, .var (.l [.p (.str w0), .p (.str w1), .p (.str w2), .p (.str w3)]), .var (.l (us.map D.p)), s4, .no] = .nx [.var (.p (.scr ns)), .var d9, .var (.l [.p (.str w0), .p (.str w1), .p (.str w2), .p (.str w3)]), .var (.l (vs.map D.p)), s4, .no] ∧ Txs 200000 vs ∧ vs.length ≤ 3000 := by
    cases c with
    | false => exact ⟨us, d8, by simp [e8], wl, by omega⟩
    | true =>
      obtain ⟨ys, d9, e9, _, h9, l9⟩ := long_ok st8 (by omega)
      have p3 : hAdd [.p (.lst us), .p (.lst ys)] = .ok (.l ((us ++ ys).map D.p)) (.p .non) := by
        have hh : us.length + ys.length ≤ lineN := by unfold lineN; omega
        simp only [hAdd, hAddL, seqL, List.length_map]
        rw [if_pos hh]
        simp
      refine ⟨us ++ ys, d9, ?_, wl.app h9, by rw [List.length_append]; omega⟩
      by_cases hc : cleanDs ((us ++ ys).map D.p) = true
      · simp only [List.map_append] at hc p3
        simp [e8, e9, p3, hc]
      · simp only [List.map_append] at hc p3
        simp [e8, e9, p3, hc]
  have q6 : vws (vs.map D.p) = vs := vws_p vs
  have p4 : pAdd (.lst [.str ""]) (.lst vs) = some (.lst ([.str ""] ++ vs)) := by
    show (if [P.str ""].length + vs.length ≤ lineN then _ else _) = _
    rw [if_pos (by unfold lineN; simp; omega)]
  have p5 : pAdd (.lst ([.str ""] ++ vs)) (.lst [.str w0, .str w1, .str w2, .str w3]) = some (.lst (([.str ""] ++ vs) ++ [.str w0, .str w1, .str w2, .str w3])) := by
    show (if ([P.str ""] ++ vs).length + [P.str w0, .str w1, .str w2, .str w3].length ≤ lineN then _ else _) = _
    rw [if_pos (by unfold lineN; simp; omega)]
  have fin : Txs 1000000 (([.str ""] ++ vs) ++ [.str w0, .str w1, .str w2, .str w3]) := ((Txs.one (tx_of (by decide))).app (hv.mono (by omega))).app (gl.mono (by omega))
  generalize [P.str ""] ++ vs = us1 at *
  generalize hz : us1 ++ [P.str w0, .str w1, .str w2, .str w3] = us2 at *
  obtain ⟨s5, e10⟩ := law_loop1 (.var (.p (.scr ns))) (.var d9) (.var (.p (.lst [.str w0, .str w1, .str w2, .str w3]))) (.var (.p (.lst vs))) s4 us2 .no fin .no
  have a6 : (sForS (.n 5) (oSeq (eW [3, 2] (g2 pAdd (g2 pAdd (gLs [gC (.str "")]) (gV 3)) (gV 2)))) (Blaw_1)) [.var (.p (.scr ns)), .var d9, .var (.l [.p (.str w0), .p (.str w1), .p (.str w2), .p (.str w3)]), .var (.l (vs.map D.p)), s4, .no] = .nx [.var (.p (.scr ns)), .var d9, .var (.p (.lst [.str w0, .str w1, .str w2, .str w3])), .var (.p (.lst vs)), s4, s5] := by
    simp [p4, p5, e10]
  have g : Flaw [.var (.p (.scr ns)), .no, .no, .no, .no, .no] = .rt (.p (.bl true)) [.var (.p (.scr ns)), .var d9, .var (.p (.lst [.str w0, .str w1, .str w2, .str w3])), .var (.p (.lst vs)), s4, s5] := by
    unfold Flaw
    rw [seq_nx a0, seq_nx a1, seq_nx a2, seq_nx a3, seq_nx a4, seq_nx ev, seq_nx a6]
    simp
  refine ⟨.p .non, ?_⟩
  simp only [flaw, q_mk]
  simp [g]
end Z
set_option Elab.async false
set_option linter.all false
set_option maxRecDepth 100000
set_option maxHeartbeats 0
namespace Z
open PySem PySem.Spec PyProof.Rows L2
section
variable {P : Program} {w : World} {K : PySem.W.Frag} {h : Heap} {mg : Str → Option Value} {fL : Addr}
theorem facts (X : K.In h) (G : h.Ns mainGlobals mg) (c : He.SaysT hfa hfn hts w K) (e : exZ hxs hcs K = true) (hm : mg "law" = some (.ref fL)) :
    ∃ fd : FuncData, (∀ (s : Shared) (u : Value), BindsTo s fd ⟨[u], []⟩ [("script", u)]) ∧ ∀ base : Heap, (∀ p ∈ hcs, LamX.TabB base mg p.1 p.2) → FnOk P w K mg base (L2N.CX P w) 17 fL fd ["script"] (Sat K mg false 1 flaw) := by
  have cd := c.d
  obtain ⟨fdL, FL⟩ := cd.def_ 34 (d := dD "law" (top 56)) rfl
  have eL := hm.symm.trans (He.glo_ok X G (cd.fact 34 (f := .glo "law") rfl))
  cases eL
  have bA := FunD.bindsA (ps := ["script"]) FL fun _ _ _ _ _ _ us hl => match us, hl with | [_], _ => rfl
  refine ⟨fdL, fun s u => bA s [u] rfl, fun base TB => ?_⟩
  have b_ValueError : mg "ValueError" = none := He.free_ok X G (cd.fact 53 (f := .free "ValueError") rfl)
  have b_abs : mg "abs" = none := He.free_ok X G (cd.fact 54 (f := .free "abs") rfl)
  have b_all : mg "all" = none := He.free_ok X G (cd.fact 55 (f := .free "all") rfl)
  have b_bool : mg "bool" = none := He.free_ok X G (cd.fact 56 (f := .free "bool") rfl)
  have b_int : mg "int" = none := He.free_ok X G (cd.fact 57 (f := .free "int") rfl)
  have b_isinstance : mg "isinstance" = none := He.free_ok X G (cd.fact 58 (f := .free "isinstance") rfl)
  have b_len : mg "len" = none := He.free_ok X G (cd.fact 59 (f := .free "len") rfl)
  have b_list : mg "list" = none := He.free_ok X G (cd.fact 60 (f := .free "list") rfl)
  have b_range : mg "range" = none := He.free_ok X G (cd.fact 61 (f := .free "range") rfl)
  have b_str : mg "str" = none := He.free_ok X G (cd.fact 62 (f := .free "str") rfl)
  have b_sum : mg "sum" = none := He.free_ok X G (cd.fact 63 (f := .free "sum") rfl)
  have b_tuple : mg "tuple" = none := He.free_ok X G (cd.fact 64 (f := .free "tuple") rfl)
  have g_MOST_DIGITS : GT K mg "MOST_DIGITS" (.int 30) := gt_val X G (exZ_i e 4 rfl)
  have g_MOST_LETTERS : GT K mg "MOST_LETTERS" (.int 12) := gt_val X G (exZ_i e 5 rfl)
  have t_BadCell : GT K mg "BadCell" (.cls "BadCell") := gt_cls X G (cd.fact 42 (f := .glo "BadCell") rfl)
  have t_BadMove : GT K mg "BadMove" (.cls "BadMove") := gt_cls X G (cd.fact 43 (f := .glo "BadMove") rfl)
  have t_BadOrder : GT K mg "BadOrder" (.cls "BadOrder") := gt_cls X G (cd.fact 38 (f := .glo "BadOrder") rfl)
  have t_BadPrice : GT K mg "BadPrice" (.cls "BadPrice") := gt_cls X G (cd.fact 44 (f := .glo "BadPrice") rfl)
  have t_BadSize : GT K mg "BadSize" (.cls "BadSize") := gt_cls X G (cd.fact 41 (f := .glo "BadSize") rfl)
  have t_BadText : GT K mg "BadText" (.cls "BadText") := gt_cls X G (cd.fact 36 (f := .glo "BadText") rfl)
  have t_BadWalk : GT K mg "BadWalk" (.cls "BadWalk") := gt_cls X G (cd.fact 46 (f := .glo "BadWalk") rfl)
  have t_Doubled : GT K mg "Doubled" (.cls "Doubled") := gt_cls X G (cd.fact 45 (f := .glo "Doubled") rfl)
  have t_Empty : GT K mg "Empty" (.cls "Empty") := gt_cls X G (cd.fact 40 (f := .glo "Empty") rfl)
  have t_Free : GT K mg "Free" (.cls "Free") := gt_cls X G (cd.fact 47 (f := .glo "Free") rfl)
  have t_Malformed : GT K mg "Malformed" (.cls "Malformed") := gt_cls X G (cd.fact 37 (f := .glo "Malformed") rfl)
  have t_NotFan : GT K mg "NotFan" (.cls "NotFan") := gt_cls X G (cd.fact 49 (f := .glo "NotFan") rfl)
  have t_NotYes : GT K mg "NotYes" (.cls "NotYes") := gt_cls X G (cd.fact 50 (f := .glo "NotYes") rfl)
  have t_Stuck : GT K mg "Stuck" (.cls "Stuck") := gt_cls X G (cd.fact 51 (f := .glo "Stuck") rfl)
  have t_TooMany : GT K mg "TooMany" (.cls "TooMany") := gt_cls X G (cd.fact 48 (f := .glo "TooMany") rfl)
  have t_Unknown : GT K mg "Unknown" (.cls "Unknown") := gt_cls X G (cd.fact 39 (f := .glo "Unknown") rfl)
  have x_Malformed : XO P w K mg base "Malformed" ["what"] := by
    refine xo1 X G cd e 35 37 52 2 3 ?_ rfl rfl ?_ ?_ ?_ rfl rfl rfl
    · exact C8.fnScope_by (by decide +kernel)
    · exact .inl rfl
    · exact .inl rfl
    · exact fun _ _ _ _ _ _ us hl => match us, hl with | [_, _], _ => rfl
  have sx_Refused : SubX K mg "Refused" (subOf Anc "Refused") := subX_of X G (exZ_i e 0 rfl) (by decide) (by decide)
  have isa : IsTab K mg Tab := isTab_of X G (exZ_i e 0 rfl) b_ValueError
  have xf : XfTab K mg Fld := xfTab_of X G (exZ_i e 1 rfl)
  have cis_digit : OkF P w K mg base "is_digit" 1 1 false fis_digit := okis_digit (dt_of X G cd 0)
  have cis_letter : OkF P w K mg base "is_letter" 1 1 false fis_letter := okis_letter (dt_of X G cd 1)
  have c_law_store : OkF P w K mg base "_law_store" 1 1 false f_law_store := ok_law_store (dt_of X G cd 6) b_int b_list
  have c_law_mix : OkF P w K mg base "_law_mix" 2 1 false f_law_mix := ok_law_mix (dt_of X G cd 7) b_int
  have c_law_power : OkF P w K mg base "_law_power" 2 1 false f_law_power := ok_law_power (dt_of X G cd 13) b_range
  have c_law_is_integer : OkF P w K mg base "_law_is_integer" 1 1 false f_law_is_integer := ok_law_is_integer (dt_of X G cd 14) b_bool b_int b_isinstance
  have c_law_is_name : OkF P w K mg base "_law_is_name" 1 1 false f_law_is_name := ok_law_is_name (dt_of X G cd 17) b_len
  have c_law_is_number_word : OkF P w K mg base "_law_is_number_word" 1 1 false f_law_is_number_word := ok_law_is_number_word (dt_of X G cd 20) b_len
  have c_law_signs : OkF P w K mg base "_law_signs" 0 1 false f_law_signs := ok_law_signs (dt_of X G cd 23)
  have c_law_refusal : OkE P w K mg base "_law_refusal" 1 1 f_law_refusal := ok_law_refusal (dt_of X G cd 26) b_ValueError b_isinstance b_sum t_BadCell t_BadMove t_BadOrder t_BadPrice t_BadSize t_BadText t_BadWalk t_Doubled t_Empty t_Free t_Malformed t_NotFan t_NotYes t_Stuck t_TooMany t_Unknown isa xf
  have c_law_value : OkF P w K mg base "_law_value" 1 1 false f_law_value := ok_law_value (dt_of X G cd 29)
  have chas_digits : OkF P w K mg base "has_digits" 1 2 false fhas_digits := okhas_digits (dt_of X G cd 2) cis_digit b_all b_len g_MOST_DIGITS
  have cis_name : OkF P w K mg base "is_name" 1 2 false fis_name := okis_name (dt_of X G cd 4) cis_digit cis_letter b_all b_len g_MOST_LETTERS
  have c_law_mixed : OkF P w K mg base "_law_mixed" 3 2 false f_law_mixed := ok_law_mixed (dt_of X G cd 8) c_law_mix b_int b_range
  have cread_number : OkF P w K mg base "read_number" 1 3 false fread_number := okread_number (dt_of X G cd 3) chas_digits b_int x_Malformed
  have cread_name : OkF P w K mg base "read_name" 1 3 false fread_name := okread_name (dt_of X G cd 5) cis_name x_Malformed
  have c_law_take : OkF P w K mg base "_law_take" 2 3 true f_law_take := ok_law_take (dt_of X G cd 9) c_law_mixed b_abs b_int b_len
  have c_law_hit : OkF P w K mg base "_law_hit" 2 4 true f_law_hit := ok_law_hit (dt_of X G cd 10) c_law_take
  have c_law_pick : OkF P w K mg base "_law_pick" 2 4 true f_law_pick := ok_law_pick (dt_of X G cd 11) c_law_take b_len
  have c_law_span : OkF P w K mg base "_law_span" 3 4 true f_law_span := ok_law_span (dt_of X G cd 12) c_law_take
  have c_law_near_words : OkF P w K mg base "_law_near_words" 2 4 true f_law_near_words := ok_law_near_words (dt_of X G cd 32) c_law_signs c_law_take b_len
  have c_law_number : OkF P w K mg base "_law_number" 1 5 true f_law_number := ok_law_number (dt_of X G cd 16) c_law_pick c_law_power c_law_span c_law_take
  have c_law_name : OkF P w K mg base "_law_name" 1 5 true f_law_name := ok_law_name (dt_of X G cd 18) c_law_hit c_law_pick c_law_take b_range
  have c_law_bad_number_word : OkF P w K mg base "_law_bad_number_word" 2 5 true f_law_bad_number_word := ok_law_bad_number_word (dt_of X G cd 22) c_law_pick
  have c_law_sign_word : OkF P w K mg base "_law_sign_word" 2 5 true f_law_sign_word := ok_law_sign_word (dt_of X G cd 24) c_law_pick c_law_signs c_law_take b_range
  have c_law_bent_text : OkF P w K mg base "_law_bent_text" 2 5 true f_law_bent_text := ok_law_bent_text (dt_of X G cd 25) c_law_hit c_law_pick c_law_take b_len
  have c_law_ask : OkT P w K mg base 4 "_law_ask" 1 5 f_law_ask := ok_law_ask (dt_of X G cd 27) c_law_refusal sx_Refused par_su_law_ask_0
  have c_law_long_words : OkF P w K mg base "_law_long_words" 1 5 true f_law_long_words := ok_law_long_words (dt_of X G cd 33) c_law_pick
  have c_law_bad_name : OkF P w K mg base "_law_bad_name" 2 6 true f_law_bad_name := ok_law_bad_name (dt_of X G cd 19) c_law_name c_law_pick c_law_take b_len
  have c_law_number_word : OkF P w K mg base "_law_number_word" 1 6 true f_law_number_word := ok_law_number_word (dt_of X G cd 21) c_law_number b_str
  have c_law_same : OkF P w K mg base "_law_same" 2 14 false f_law_same := ok_law_same (dt_of X G cd 15) c_law_is_integer b_int b_isinstance b_len b_list b_range b_str b_tuple
  have c_law_holds : OkT P w K mg base 4 "_law_holds" 3 15 f_law_holds := ok_law_holds (dt_of X G cd 28) c_law_same c_law_ask
  have c_law_number_holds : OkF P w K mg base "_law_number_holds" 1 16 false f_law_number_holds := ok_law_number_holds (dtL_of X G cd 30 (exZ_i e 6 rfl) (TB (543, 539) (by decide))) (by unfold LamAt LamT; decide) c_law_is_number_word c_law_value cread_number c_law_holds par_law_holds
  have c_law_name_holds : OkF P w K mg base "_law_name_holds" 1 16 false f_law_name_holds := ok_law_name_holds (dtL_of X G cd 31 (exZ_i e 7 rfl) (TB (550, 546) (by decide))) (by unfold LamAt LamT; decide) c_law_is_name cread_name c_law_holds par_law_holds
  exact oklaw FL c_law_bad_name c_law_bad_number_word c_law_bent_text c_law_hit c_law_long_words c_law_name c_law_name_holds c_law_near_words c_law_number_holds c_law_number_word c_law_sign_word c_law_store b_list b_range
end
end Z
open PySem PySem.W PySem.Calls PyProof.Rows
theorem hholds (pl : Z.Plain Z.flaw) : PySem.Challenge.rw_twosweeps_k01_numbers_and_names.Holds := by
  w_on; o_law
  refine HandSHeadRun.head_any (r := OpenLaw.row PySem.Challenge.rw_twosweeps_k01_numbers_and_names) (q := view (OpenLaw.row PySem.Challenge.rw_twosweeps_k01_numbers_and_names).prog [56]) (H := Z.hk) (ob := Z.hob) (M := 20000) (loose := Z.hlo) (d := HandSHeadRun.topDef (OpenLaw.row PySem.Challenge.rw_twosweeps_k01_numbers_and_names).prog 56) (kwd := []) Z.hob_eq
    (by kernel_rfl) (fun s => by kernel_rfl) Z.hrun (by kernel_rfl) (by kernel_rfl) (by kernel_rfl) (by rfl) (by first | assumption | decide +kernel) (by decide +kernel) ⟨rfl, rfl, rfl, rfl, rfl, by decide +kernel⟩ ?hw ?hc
  case hw => w_witness2
  case hc =>
    refine Z.walk_Z (l := PySem.Challenge.rw_twosweeps_k01_numbers_and_names) (k := 17) (x := "script") (f := Z.flaw) rfl (by kernel_rfl) ⟨rfl, by decide, by decide⟩ Z.LamT_in pl ?_
    intro w mg fL h K KX G c e hmg0
    have hmg : mg ("law" : PySem.Str) = some (.ref fL) := by
      have ee : (HandSHeadRun.topDef (OpenLaw.row PySem.Challenge.rw_twosweeps_k01_numbers_and_names).prog 56).name = ("law" : PySem.Str) := by kernel_rfl
      rw [← ee]
      exact hmg0
    exact Z.facts KX G c e hmg
theorem PySem.Challenge.cw_twosweeps_k01_numbers_and_names_holds : PySem.Challenge.rw_twosweeps_k01_numbers_and_names.Holds := by
  exact hholds Z.plain
