import PyProof.Rows.All
import Wide.All
import OpenK.AllK
import Wide.FinOn
import Lean
import PySem.Challenge.RW_no0419_02
set_option genSizeOf false
set_option genSizeOfSpec false
set_option genInjectivity false
set_option maxRecDepth 100000
set_option Elab.async false
noncomputable section
namespace Mini
inductive MV where
  | none
  | bool (b : Bool)
  | int (i : Int)
  | bytes (l : List Nat)
  | tup (l : List MV)
  | list (l : List MV)
  | inst (c : Nat) (l : List MV)
  | obj (a : Nat)
  deriving Inhabited
noncomputable def MV.none? (v : MV) : Option Unit := match v with | .none => some () | _ => Option.none
noncomputable def MV.bool? (v : MV) : Option Bool := match v with | .bool b => some b | _ => Option.none
noncomputable def MV.int? (v : MV) : Option Int := match v with | .int i => some i | _ => Option.none
noncomputable def MV.bytes? (v : MV) : Option (List Nat) := match v with | .bytes l => some l | _ => Option.none
noncomputable def MV.tup? (v : MV) : Option (List MV) := match v with | .tup l => some l | _ => Option.none
noncomputable def MV.list? (v : MV) : Option (List MV) := match v with | .list l => some l | _ => Option.none
noncomputable def MV.inst? (v : MV) : Option (Nat × List MV) := match v with | .inst c l => some (c, l) | _ => Option.none
noncomputable def MV.obj? (v : MV) : Option Nat := match v with | .obj a => some a | _ => Option.none
mutual
noncomputable def eqv : MV → MV → Bool
  | .none, w => w.none?.isSome
  | .bool a, w => w.bool?.any (a == ·)
  | .int a, w => w.int?.any fun b => decide (a = b)
  | .bytes a, w => w.bytes?.any (a == ·)
  | .tup a, w => w.tup?.any (eqvs a)
  | .list a, w => w.list?.any (eqvs a)
  | .inst _ _, _ => false
  | .obj _, _ => false
noncomputable def eqvs : List MV → List MV → Bool
  | [], m => m.isEmpty
  | a :: l, m => m.head?.any (eqv a) && eqvs l m.tail
end
noncomputable def plain : Nat → MV → Bool
  | _, .none | _, .bool _ | _, .int _ | _, .bytes _ => true
  | n + 1, .tup l | n + 1, .list l => l.all (plain n)
  | _, _ => false
inductive LV where
  | un
  | val (v : MV)
  | acc (l : List MV)
  deriving Inhabited
noncomputable def LV.val? (v : LV) : Option MV := match v with | .val x => some x | _ => none
noncomputable def LV.acc? (v : LV) : Option (List MV) := match v with | .acc x => some x | _ => none
abbrev Loc := List LV
noncomputable def lget (l : Loc) (i : Nat) : LV := l.getD i .un
abbrev Flds := List (Nat × MV)
structure MObj where
  c : Nat
  fs : Flds
  deriving Inhabited
abbrev MH := List MObj
noncomputable def fget (f : Nat) : Flds → Option MV
  | [] => Option.none
  | (g, v) :: r => if g = f then some v else fget f r
noncomputable def fput (f : Nat) (v : MV) : Flds → Flds
  | [] => [(f, v)]
  | (g, w) :: r => if g = f then (g, v) :: r else (g, w) :: fput f v r
inductive Op where | add | sub | mul | fdiv | mod
inductive Cp where | eq | ne | lt | le | gt | ge
mutual
inductive ME where
  | bad
  | none | tt | ff
  | int (i : Nat)
  | neg (n : Nat)
  | bnil
  | gint (g : Nat) (i : Int)
  | var (i : Nat)
  | attr (e : ME) (f : Nat)
  | bin (o : Op) (a b : ME)
  | cmp (a : ME) (c : MCs)
  | isNone (e : ME)
  | notNone (e : ME)
  | and (es : MEs)
  | or (es : MEs)
  | not (e : ME)
  | ite (c : MT) (a b : ME)
  | idx (e i : ME)
  | sliceA (e : ME)
  | sliceL (e lo : ME)
  | sliceU (e hi : ME)
  | sliceLU (e lo hi : ME)
  | tup (es : MEs)
  | list (es : MEs)
  | comp (elt : ME) (x : Nat) (it : MI)
  | compIf (elt : ME) (x : Nat) (it : MI) (c : MT)
  | call (f : Nat) (es : MEs)
  | new (c : Nat) (es : MEs)
  | meth (e : ME) (m : Nat) (es : MEs)
  | len (e : ME)
  | min2 (a b : ME)
  | max2 (a b : ME)
  | max1 (e : ME)
  | tupleOf (e : ME)
  | bytesOf (e : ME)
  | accLast (i : Nat)
  | accIdx (i : Nat) (e : ME)
  | accLen (i : Nat)
inductive MEs where
  | nil
  | cons (e : ME) (r : MEs)
inductive MCs where
  | one (o : Cp) (e : ME)
  | cons (o : Cp) (e : ME) (r : MCs)
inductive MT where
  | e (e : ME)
  | cmp (a : ME) (c : MCs)
  | isNone (e : ME)
  | notNone (e : ME)
  | not (t : MT)
  | and (ts : MTs)
  | or (ts : MTs)
  | acc (i : Nat)
inductive MTs where
  | nil
  | cons (t : MT) (r : MTs)
inductive MI where
  | range1 (e : ME)
  | range2 (a b : ME)
  | sorted (e : ME)
  | over (e : ME)
end
inductive HE where
  | none | tt | ff
  | int (i : Nat)
  | neg (n : Nat)
  | var (i : Nat)
  | notv (i : Nat)
  | pair (a b : HE)
inductive HS where
  | bad
  | assign (i : Nat) (e : HE)
  | ret (e : HE)
  | brk
mutual
inductive MS where
  | bad
  | assign (i : Nat) (e : ME)
  | unpack (is : List Nat) (e : ME)
  | setAttr (e : ME) (f : Nat) (v : ME)
  | aug (i : Nat) (o : Op) (e : ME)
  | accNew (i : Nat) (es : MEs)
  | accCopy (i : Nat) (e : ME)
  | accApp (i : Nat) (e : ME)
  | freeze (i : Nat)
  | expr (e : ME)
  | ife (t : MT) (a b : MSs)
  | whil (n : Nat) (t : MT) (b : MSs)
  | forr (x : Nat) (it : MI) (b : MSs)
  | ret (e : ME)
  | brk
  | raise (c : Nat) (es : MEs)
  | tryy (b : MSs) (hs : MHs)
inductive MSs where
  | nil
  | cons (s : MS) (r : MSs)
inductive MHs where
  | nil
  | cons (cs : List Nat) (b : List HS) (r : MHs)
end
inductive RS (α : Type) where
  | ok (a : α) (H : MH)
  | ex (c : Nat) (H : MH)
  | bad
noncomputable def RS.bind {α β : Type} : RS α → (α → MH → RS β) → RS β
  | .ok a H, f => f a H
  | .ex c H, _ => .ex c H
  | .bad, _ => .bad
inductive SR where
  | next (l : Loc) (H : MH)
  | brk (l : Loc) (H : MH)
  | ret (v : MV) (H : MH)
  | exm (c : Nat) (l : Loc) (H : MH)
  | exf (c : Nat) (l : Loc) (H : MH)
  | bad
structure MCls where
  record : Bool
  flds : List Nat
  init : Nat
  meths : List (Nat × Nat)
inductive FK where
  | body (b : MSs)
  | record (c : Nat) (es : MEs)
structure MF where
  npar : Nat
  nvar : Nat
  fk : FK
structure Prg where
  funs : List (Nat × MF)
  cls : List MCls
  sub : Nat → Nat → Bool
noncomputable def flook {α : Type} (f : Nat) : List (Nat × α) → Option α
  | [] => Option.none
  | (g, v) :: r => if g = f then some v else flook f r
noncomputable def intLim : Nat := 18446744073709551616 * 4294967296
noncomputable def intz {α : Type} (v w : MV) (f : Int → Int → Option α) : Option α := v.int?.bind fun a => w.int?.bind fun b => f a b
noncomputable def listz {α : Type} (v w : MV) (f : List MV → List MV → Option α) : Option α := v.list?.bind fun a => w.list?.bind fun b => f a b
noncomputable def guardO {α : Type} (b : Bool) (v : α) : Option α := if b then some v else none
noncomputable def addV (v w : MV) : Option MV := (intz v w fun a b => some (.int (a + b))).or (listz v w fun a b => guardO (decide (a.length + b.length ≤ 1000)) (.list (a ++ b)))
noncomputable def mulB (l : List Nat) (k : Int) : Option MV := guardO (decide (0 ≤ k ∧ k ≤ 1000 ∧ l.length = 1)) (.bytes (List.replicate k.toNat l).flatten)
noncomputable def mulL (l : List MV) (k : Int) : Option MV := if l.length = 1 then l.head?.bind fun v => guardO (decide (0 ≤ k ∧ k ≤ 1000)) (.list (List.replicate k.toNat v)) else none
noncomputable def mulV (v w : MV) : Option MV := (intz v w fun a b => guardO (decide (a.natAbs < 18446744073709551616)) (.int (a * b))).or (w.int?.bind fun k => (v.bytes?.bind fun l => mulB l k).or (v.list?.bind fun l => mulL l k))
noncomputable def binop (o : Op) (v w : MV) : Option MV := match o with
  | .add => addV v w
  | .sub => intz v w fun a b => some (.int (a - b))
  | .mul => mulV v w
  | .fdiv => intz v w fun a b => guardO (decide (b ≠ 0 ∧ b.natAbs < 1073741824)) (.int (a.fdiv b))
  | .mod => intz v w fun a b => guardO (decide (b ≠ 0)) (.int (a.fmod b))
noncomputable def cmpI (o : Cp) (a b : Int) : Bool := match o with
  | .eq => decide (a = b)
  | .ne => !decide (a = b)
  | .lt => decide (a < b)
  | .le => decide (a ≤ b)
  | .gt => decide (b < a)
  | .ge => decide (b ≤ a)
noncomputable def pair? (v : MV) : Option (Int × Int) := v.tup?.bind fun l => if l.length = 2 then l.head?.bind fun a => l.tail.head?.bind fun b => intz a b fun a b => some (a, b) else none
noncomputable def cmpO (o : Cp) (v w : MV) : Option Bool := match o with
  | .eq => guardO (plain 8 v && eqv v w) true
  | .ne => guardO (plain 8 v && eqv v w) false
  | .ge => (pair? v).bind fun p => (pair? w).bind fun q => some (decide (q.1 < p.1) || (decide (p.1 = q.1) && decide (q.2 ≤ p.2)))
  | _ => none
noncomputable def cmpop (o : Cp) (v w : MV) : Option Bool := (intz v w fun a b => some (cmpI o a b)).or (cmpO o v w)
noncomputable def truth : MV → Option Bool := MV.bool?
noncomputable def place (n : Nat) (i : Int) : Option Nat :=
  if 0 ≤ i then some i.toNat
  else guardO (decide (-(n : Int) ≤ i)) (i + n).toNat
noncomputable def bound (n : Nat) (i : Int) : Nat := (max 0 (min (if i < 0 then i + n else i) n)).toNat
noncomputable def cut (l : List MV) (lo hi : Nat) : List MV := (l.take hi).drop lo
noncomputable def intsOf : List MV → Option (List Int)
  | [] => some []
  | v :: r => v.int?.bind fun i => (intsOf r).map (i :: ·)
noncomputable def maxI : Int → List Int → Int
  | m, [] => m
  | m, x :: r => maxI (if m < x then x else m) r
noncomputable def rangeV (i j : Int) : List MV := (List.range (j - i).toNat).map fun (k : Nat) => .int (i + k)
noncomputable def MEs.isNil (r : MEs) : Bool := match r with | .nil => true | .cons _ _ => false
section
variable (P : Prg) (cf : Nat → List MV → MH → RS MV)
noncomputable def getAttr (v : MV) (f : Nat) (H : MH) : Option MV :=
  (v.inst?.bind fun p => P.cls[p.1]?.bind fun k => if k.record then p.2[k.flds.findIdx (· == f)]? else Option.none).or
  (v.obj?.bind fun a => H[a]?.bind fun o => P.cls[o.c]?.bind fun k => if k.record then Option.none else fget f o.fs)
noncomputable def clsOf (v : MV) (H : MH) : Option Nat := (v.inst?.map (·.1)).or (v.obj?.bind fun a => (H[a]?).map (·.c))
noncomputable def methOf (v : MV) (m : Nat) (H : MH) : Option Nat := (clsOf v H).bind fun c => P.cls[c]?.bind fun k => flook m k.meths
noncomputable def setOk (c f : Nat) : Bool := (P.cls[c]?).any fun k => !k.record && k.flds.contains f
noncomputable def opt {α β : Type} (o : Option α) (f : α → RS β) : RS β := match o with
  | some a => f a
  | Option.none => .bad
noncomputable def mapR (g : MV → MH → RS (Option MV)) : List MV → MH → RS (List MV)
  | [], H => .ok [] H
  | v :: r, H => match g v H with
    | .ok (some w) H₁ => (mapR g r H₁).bind fun ws H₂ => .ok (w :: ws) H₂
    | .ok Option.none H₁ => mapR g r H₁
    | _ => .bad
noncomputable def isNoneV (v : MV) : Bool := v.none?.isSome
noncomputable def idxO (v j : MV) : Option MV := j.int?.bind fun j => (v.list?.bind fun xs => (place xs.length j).bind fun n => xs[n]?).or (v.tup?.bind fun xs => if 0 ≤ j then xs[j.toNat]? else Option.none)
noncomputable def lenO (v : MV) : Option MV := (v.list?.map fun xs => .int xs.length).or (v.bytes?.map fun xs => .int xs.length)
noncomputable def byteO (l : List MV) : Option MV := if l.length = 1 then l.head?.bind fun v => v.int?.bind fun i => guardO (decide (0 ≤ i ∧ i < 256)) (.bytes [i.toNat]) else Option.none
noncomputable def maxO (l : List MV) : Option MV := (intsOf l).bind fun is => is.head?.map fun i => .int (maxI i is.tail)
noncomputable def sliceO (v : MV) (lo hi : Nat → Option Nat) : Option MV := v.list?.bind fun xs => (lo xs.length).bind fun a => (hi xs.length).map fun b => .list (cut xs a b)
noncomputable def bd (i : MV) (n : Nat) : Option Nat := i.int?.map (bound n)
mutual
noncomputable def evalE : ME → Loc → MH → RS MV
  | .bad, _, _ => .bad
  | .none, _, H => .ok .none H
  | .tt, _, H => .ok (.bool true) H
  | .ff, _, H => .ok (.bool false) H
  | .int i, _, H => .ok (.int i) H
  | .neg n, _, H => .ok (.int (-(n : Int))) H
  | .bnil, _, H => .ok (.bytes []) H
  | .gint _ i, _, H => .ok (.int i) H
  | .var i, l, H => opt (lget l i).val? fun v => .ok v H
  | .attr e f, l, H => (evalE e l H).bind fun v H => opt (getAttr P v f H) fun w => .ok w H
  | .bin o a b, l, H => (evalE a l H).bind fun v H => (evalE b l H).bind fun w H => opt (binop o v w) fun r => .ok r H
  | .cmp a c, l, H => (evalE a l H).bind fun v H => (evalC v c l H).bind fun b H => .ok (.bool b) H
  | .isNone e, l, H => (evalE e l H).bind fun v H => .ok (.bool (isNoneV v)) H
  | .notNone e, l, H => (evalE e l H).bind fun v H => .ok (.bool (!isNoneV v)) H
  | .and es, l, H => evalB true es l H
  | .or es, l, H => evalB false es l H
  | .not e, l, H => (evalE e l H).bind fun v H => opt (truth v) fun b => .ok (.bool (!b)) H
  | .ite c a b, l, H => (evalT c l H).bind fun t H => if t then evalE a l H else evalE b l H
  | .idx e i, l, H => (evalE e l H).bind fun v H => (evalE i l H).bind fun j H => opt (idxO v j) fun w => .ok w H
  | .sliceA e, l, H => (evalE e l H).bind fun v H => opt (sliceO v (fun _ => some 0) some) fun w => .ok w H
  | .sliceL e lo, l, H => (evalE e l H).bind fun v H => (evalE lo l H).bind fun i H => opt (sliceO v (bd i) some) fun w => .ok w H
  | .sliceU e hi, l, H => (evalE e l H).bind fun v H => (evalE hi l H).bind fun i H => opt (sliceO v (fun _ => some 0) (bd i)) fun w => .ok w H
  | .sliceLU e lo hi, l, H => (evalE e l H).bind fun v H => (evalE lo l H).bind fun i H => (evalE hi l H).bind fun j H => opt (sliceO v (bd i) (bd j)) fun w => .ok w H
  | .tup es, l, H => (evalEs es l H).bind fun vs H => .ok (.tup vs) H
  | .list es, l, H => (evalEs es l H).bind fun vs H => .ok (.list vs) H
  | .comp elt x it, l, H => (evalI it l H).bind fun vs H => if 1000 < vs.length then .bad else
      (mapR (fun v H => (evalE elt (l.set x (.val v)) H).bind fun w H => .ok (some w) H) vs H).bind fun ws H => .ok (.list ws) H
  | .compIf elt x it c, l, H => (evalI it l H).bind fun vs H => if 1000 < vs.length then .bad else
      (mapR (fun v H => (evalT c (l.set x (.val v)) H).bind fun t H => if t then (evalE elt (l.set x (.val v)) H).bind fun w H => .ok (some w) H else .ok Option.none H) vs H).bind fun ws H => .ok (.list ws) H
  | .call f es, l, H => (evalEs es l H).bind fun vs H => cf f vs H
  | .new c es, l, H => (evalEs es l H).bind fun vs H => opt P.cls[c]? fun k =>
      if k.record then cf k.init vs H else
      (cf k.init (.obj H.length :: vs) (H ++ [⟨c, []⟩])).bind fun r H' => opt r.none? fun _ => .ok (.obj H.length) H'
  | .meth e m es, l, H => (evalE e l H).bind fun v H => opt (methOf P v m H) fun f => (evalEs es l H).bind fun vs H => cf f (v :: vs) H
  | .len e, l, H => (evalE e l H).bind fun v H => opt (lenO v) fun w => .ok w H
  | .min2 a b, l, H => (evalE a l H).bind fun v H => (evalE b l H).bind fun w H => opt (intz v w fun a b => some (.int (if b < a then b else a))) fun w => .ok w H
  | .max2 a b, l, H => (evalE a l H).bind fun v H => (evalE b l H).bind fun w H => opt (intz v w fun a b => some (.int (if a < b then b else a))) fun w => .ok w H
  | .max1 e, l, H => (evalE e l H).bind fun v H => opt (v.list?.bind maxO) fun w => .ok w H
  | .tupleOf e, l, H => (evalE e l H).bind fun v H => opt v.list? fun xs => .ok (.tup xs) H
  | .bytesOf e, l, H => (evalE e l H).bind fun v H => opt (v.list?.bind byteO) fun w => .ok w H
  | .accLast i, l, H => opt (lget l i).acc? fun xs => opt xs.getLast? fun w => .ok w H
  | .accIdx i e, l, H => opt (lget l i).acc? fun xs => (evalE e l H).bind fun j H => opt (j.int?.bind fun j => if 0 ≤ j then xs[j.toNat]? else Option.none) fun w => .ok w H
  | .accLen i, l, H => opt (lget l i).acc? fun xs => .ok (.int xs.length) H
noncomputable def evalEs : MEs → Loc → MH → RS (List MV)
  | .nil, _, H => .ok [] H
  | .cons e r, l, H => (evalE e l H).bind fun v H => (evalEs r l H).bind fun vs H => .ok (v :: vs) H
noncomputable def evalB (a : Bool) : MEs → Loc → MH → RS MV
  | .nil, _, _ => .bad
  | .cons e r, l, H => if r.isNil then evalE e l H else (evalE e l H).bind fun v H => opt (truth v) fun b => if b = a then evalB a r l H else .ok v H
noncomputable def evalC (v : MV) : MCs → Loc → MH → RS Bool
  | .one o e, l, H => (evalE e l H).bind fun w H => opt (cmpop o v w) fun b => .ok b H
  | .cons o e r, l, H => (evalE e l H).bind fun w H => opt (cmpop o v w) fun b => if b then evalC w r l H else .ok false H
noncomputable def evalT : MT → Loc → MH → RS Bool
  | .e e, l, H => (evalE e l H).bind fun v H => opt (truth v) fun b => .ok b H
  | .cmp a c, l, H => (evalE a l H).bind fun v H => evalC v c l H
  | .isNone e, l, H => (evalE e l H).bind fun v H => .ok (isNoneV v) H
  | .notNone e, l, H => (evalE e l H).bind fun v H => .ok (!isNoneV v) H
  | .not t, l, H => (evalT t l H).bind fun b H => .ok (!b) H
  | .and ts, l, H => evalTs true ts l H
  | .or ts, l, H => evalTs false ts l H
  | .acc i, l, H => opt (lget l i).acc? fun xs => .ok (!xs.isEmpty) H
noncomputable def evalTs (a : Bool) : MTs → Loc → MH → RS Bool
  | .nil, _, H => .ok a H
  | .cons t r, l, H => (evalT t l H).bind fun b H => if b = a then evalTs a r l H else .ok (!a) H
noncomputable def evalI : MI → Loc → MH → RS (List MV)
  | .range1 e, l, H => (evalE e l H).bind fun v H => opt (v.int?.bind fun n => guardO (decide (n.natAbs ≤ 1000)) (rangeV 0 n)) fun xs => .ok xs H
  | .range2 a b, l, H => (evalE a l H).bind fun v H => (evalE b l H).bind fun w H => opt (intz v w fun i j => guardO (decide (i.natAbs ≤ 1000000 ∧ j.natAbs ≤ 1000000 ∧ j - i ≤ 1000)) (rangeV i j)) fun xs => .ok xs H
  | .sorted e, l, H => (evalE e l H).bind fun v H => opt (v.list?.bind fun xs => (intsOf xs).bind fun is => guardO (decide (is.length ≤ 1)) (is.map .int)) fun xs => .ok xs H
  | .over e, l, H => (evalE e l H).bind fun v H => opt v.list? fun xs => .ok xs H
end
noncomputable def toS {α : Type} (r : RS α) (l : Loc) (f : α → MH → SR) : SR := match r with
  | .ok a H => f a H
  | .ex c H => .exf c l H
  | .bad => .bad
noncomputable def optS {α : Type} (o : Option α) (f : α → SR) : SR := match o with
  | some a => f a
  | Option.none => .bad
noncomputable def okW {α : Type} (r : RS α) (f : α → MH → SR) : SR := match r with
  | .ok a H => f a H
  | _ => .bad
noncomputable def SR.then (r : SR) (f : Loc → MH → SR) : SR := match r with
  | .next l H => f l H
  | r => r
noncomputable def SR.turn (r : SR) (on : Loc → MH → SR) : SR := match r with
  | .next l H => on l H
  | .brk l H => .next l H
  | .ret v H => .ret v H
  | .exm c l H => .exm c l H
  | .exf .. => .bad
  | .bad => .bad
noncomputable def SR.catch (r : SR) (f : Nat → Loc → MH → SR) : SR := match r with
  | .exf c l H => f c l H
  | .exm .. => .bad
  | r => r
noncomputable def forM (x : Nat) (body : Loc → MH → SR) : List MV → Loc → MH → SR
  | [], l, H => .next l H
  | v :: r, l, H => (body (l.set x (.val v)) H).turn fun l H => forM x body r l H
noncomputable def whileM (test : Loc → MH → RS Bool) (body : Loc → MH → SR) : Nat → Loc → MH → SR
  | 0, _, _ => .bad
  | n + 1, l, H => okW (test l H) fun b H => if b then (body l H).turn fun l H => whileM test body n l H else .next l H
noncomputable def setAll : List Nat → List MV → Loc → Option Loc
  | [], [], l => some l
  | i :: is, v :: vs, l => setAll is vs (l.set i (.val v))
  | _, _, _ => Option.none
noncomputable def allInts : List MV → Bool
  | [] => true
  | v :: r => (v.int?.any fun i => decide (i.natAbs < intLim)) && allInts r
noncomputable def evalH : HE → Loc → Option MV
  | .none, _ => some .none
  | .tt, _ => some (.bool true)
  | .ff, _ => some (.bool false)
  | .int i, _ => some (.int i)
  | .neg n, _ => some (.int (-(n : Int)))
  | .var i, l => (lget l i).val?
  | .notv i, l => (lget l i).val?.bind fun v => v.bool?.map fun b => .bool (!b)
  | .pair a b, l => (evalH a l).bind fun v => (evalH b l).map fun w => .tup [v, w]
noncomputable def execH : List HS → Loc → MH → SR
  | [], l, H => .next l H
  | .bad :: _, _, _ => .bad
  | .assign i e :: r, l, H => optS (evalH e l) fun v => execH r (l.set i (.val v)) H
  | .ret e :: _, l, H => optS (evalH e l) fun v => .ret v H
  | .brk :: _, l, H => .brk l H
end
section
variable (P : Prg)
noncomputable def setO (o : MV) (f : Nat) (v : MV) (H : MH) : Option MH := o.obj?.bind fun a => H[a]?.bind fun ob => guardO (setOk P ob.c f && decide (ob.fs.length < 100)) (H.set a ⟨ob.c, fput f v ob.fs⟩)
noncomputable def raiseM (c : Nat) (r : RS (List MV)) (l : Loc) : SR := match r with
    | .ok vs H => if allInts vs then .exm c l H else .bad
    | _ => .bad
mutual
noncomputable def execS (cf : Nat → List MV → MH → RS MV) : MS → Loc → MH → SR
  | .bad, _, _ => .bad
  | .assign i e, l, H => toS (evalE P cf e l H) l fun v H => .next (l.set i (.val v)) H
  | .unpack is e, l, H => toS (evalE P cf e l H) l fun v H => optS (v.tup?.bind fun vs => setAll is vs l) fun l => .next l H
  | .setAttr e f v, l, H => toS (evalE P cf v l H) l fun v H => toS (evalE P cf e l H) l fun o H => optS (setO P o f v H) fun H => .next l H
  | .aug i o e, l, H => optS (lget l i).val? fun w => toS (evalE P cf e l H) l fun v H => optS (intz w v fun a b => binop o (.int a) (.int b)) fun r => .next (l.set i (.val r)) H
  | .accNew i es, l, H => toS (evalEs P cf es l H) l fun vs H => .next (l.set i (.acc vs)) H
  | .accCopy i e, l, H => toS (evalE P cf e l H) l fun v H => optS (v.list?.bind fun vs => guardO (decide (vs.length ≤ 1000)) vs) fun vs => .next (l.set i (.acc vs)) H
  | .accApp i e, l, H => optS (lget l i).acc? fun vs => toS (evalE P cf e l H) l fun v H => optS (guardO (decide (vs.length < 1000)) (vs ++ [v])) fun vs => .next (l.set i (.acc vs)) H
  | .freeze i, l, H => optS (lget l i).acc? fun vs => .next (l.set i (.val (.list vs))) H
  | .expr e, l, H => toS (evalE P cf e l H) l fun _ H => .next l H
  | .ife t a b, l, H => toS (evalT P cf t l H) l fun c H => if c then execSs cf a l H else execSs cf b l H
  | .whil n t b, l, H => whileM (evalT P cf t) (execSs cf b) n l H
  | .forr x it b, l, H => toS (evalI P cf it l H) l fun vs H => forM x (execSs cf b) vs l H
  | .ret e, l, H => toS (evalE P cf e l H) l fun v H => .ret v H
  | .brk, l, H => .brk l H
  | .raise c es, l, H => raiseM c (evalEs P cf es l H) l
  | .tryy b hs, l, H => (execSs cf b l H).catch fun c l H => execHs c hs l H
noncomputable def execSs (cf : Nat → List MV → MH → RS MV) : MSs → Loc → MH → SR
  | .nil, l, H => .next l H
  | .cons s r, l, H => (execS cf s l H).then fun l H => execSs cf r l H
noncomputable def execHs (c : Nat) : MHs → Loc → MH → SR
  | .nil, _, _ => .bad
  | .cons cs b r, l, H => if cs.any (P.sub c) then execH b l H else execHs c r l H
end
noncomputable def endF : SR → RS MV
  | .next _ H => .ok .none H
  | .ret v H => .ok v H
  | .exm c _ H => .ex c H
  | _ => .bad
noncomputable def recM (c : Nat) (r : RS (List MV)) : RS MV := match r with
  | .ok vs H => .ok (.inst c vs) H
  | _ => .bad
noncomputable def runF (cf : Nat → List MV → MH → RS MV) (m : MF) (args : List MV) (H : MH) : RS MV :=
  match m.fk with
  | .body b => if args.length = m.npar then endF (execSs P cf b (args.map .val ++ List.replicate (m.nvar - m.npar) .un) H) else .bad
  | .record c es => if args.length + 1 = m.npar then recM c (evalEs P cf es (.un :: args.map .val) H) else .bad
noncomputable def callN : Nat → Nat → List MV → MH → RS MV
  | 0, _, _, _ => .bad
  | d + 1, f, args, H => match flook f P.funs with
    | some m => runF P (callN d) m args H
    | Option.none => .bad
end
end Mini
end
noncomputable section
namespace Mini
open PySem PySem.W PySem.Calls PyProof.Rows
inductive GV where
  | fn (f : Nat)
  | cls (c : Nat)
  | exc (c : Nat)
  | gint (g : Nat) (i : Int)
  | blt (k : Nat)
  deriving DecidableEq
structure Tie where
  K : Frag
  names : List Str
  gl : List (Str × GV)
  cadr : List Addr
  eadr : List Addr
  fadr : List (Nat × Addr)
  hs : Str → Int
abbrev ZM := Addr → Option Obj
inductive MC where
  | ex (o : Obj)
  | st (o : Obj)
  | fr (m : Str → Option Value)
  | ce (v : Option Value)
abbrev MU := Addr → Option MC
abbrev PH := List (Addr × Addr)
noncomputable def MC.isSt (c : MC) : Bool := match c with | .st _ => true | _ => false
noncomputable def MC.is (o : Obj) (c : MC) : Prop := match c with
  | .ex o' => o = o'
  | .st o' => o = o'
  | .fr m => ∃ es ep, o.data = .dict es ep ∧ StrKeys es ∧ ∀ name, nsFind es name = m name
  | .ce v => o.data = .cell v
noncomputable def MC.at (h : Heap) (a : Addr) (c : MC) : Prop := ∃ o, h.get? a = some o ∧ c.is o
noncomputable def upd {α : Type} (f : Addr → Option α) (a : Addr) (v : Option α) : Addr → Option α := fun b => if b = a then v else f b
theorem upd_self {α : Type} (f : Addr → Option α) (a : Addr) (v : Option α) : upd f a v a = v := if_pos rfl
theorem upd_ne {α : Type} {f : Addr → Option α} {a b : Addr} {v : Option α} (h : b ≠ a) : upd f a v b = f b := if_neg h
theorem ne_none {α : Type} {f : Addr → Option α} {a b : Addr} {x : α} (h : f a = none) (e : f b = some x) : b ≠ a := fun q => nomatch (q ▸ e : f a = some x).symm.trans h
theorem upd_cases {α : Type} {f : Addr → Option α} {a b : Addr} {v w : Option α} (h : upd f a v b = w) : (b = a ∧ v = w) ∨ (b ≠ a ∧ f b = w) :=
  if q : b = a then .inl ⟨q, (if_pos q).symm.trans h⟩ else .inr ⟨q, (if_neg q).symm.trans h⟩
theorem at_ex {h : Heap} {a : Addr} {o : Obj} (e : h.get? a = some o) : (MC.ex o).at h a := ⟨o, e, rfl⟩
theorem ex_at {h : Heap} {a : Addr} {o : Obj} : (MC.ex o).at h a → h.get? a = some o := fun ⟨_, e, q⟩ => q ▸ e
theorem st_at {h : Heap} {a : Addr} {o : Obj} : (MC.st o).at h a → h.get? a = some o := fun ⟨_, e, q⟩ => q ▸ e
theorem at_fr {h : Heap} {a : Addr} {m : Str → Option Value} : h.Ns a m → (MC.fr m).at h a := fun ⟨o, es, ep, e, r⟩ => ⟨o, e, es, ep, r⟩
theorem fr_at {h : Heap} {a : Addr} {m : Str → Option Value} : (MC.fr m).at h a → h.Ns a m := fun ⟨o, e, es, ep, r⟩ => ⟨o, es, ep, e, r⟩
theorem MC.at_to {h h' : Heap} {a : Addr} {c : MC} (k : ∀ o, h.get? a = some o → h'.get? a = some o) : c.at h a → c.at h' a := fun ⟨o, e, r⟩ => ⟨o, k o e, r⟩
theorem MC.at_lt {h : Heap} {a : Addr} {c : MC} : c.at h a → a < h.objs.size := fun ⟨_, e, _⟩ => Heap.lt_size e
structure Inv (Z : ZM) (Mu : MU) (h : Heap) : Prop where
  z : ∀ a o, Z a = some o → h.get? a = some o
  m : ∀ a c, Mu a = some c → c.at h a
  d : ∀ a c, Mu a = some c → Z a = none
namespace Inv
variable {Z : ZM} {Mu : MU} {h h' : Heap}
theorem free (I : Inv Z Mu h) {a : Addr} (n : h.objs.size ≤ a) : Z a = none ∧ Mu a = none :=
  ⟨Option.eq_none_iff_forall_ne_some.mpr fun o e => Nat.lt_irrefl _ (Nat.lt_of_lt_of_le (Heap.lt_size (I.z a o e)) n),
   Option.eq_none_iff_forall_ne_some.mpr fun o e => Nat.lt_irrefl _ (Nat.lt_of_lt_of_le (MC.at_lt (I.m a o e)) n)⟩
theorem setM (I : Inv Z Mu h) {a : Addr} {x : Option MC} (hz : Z a = none) (k : ∀ b o, b ≠ a → h.get? b = some o → h'.get? b = some o) (ha : ∀ c, x = some c → c.at h' a) : Inv Z (upd Mu a x) h' where
  z b o e := k b o (ne_none hz e) (I.z b o e)
  m b c e := (upd_cases e).elim (fun q => q.1 ▸ ha c q.2) fun q => MC.at_to (k b · q.1) (I.m b c q.2)
  d b c e := (upd_cases e).elim (fun q => q.1 ▸ hz) fun q => I.d b c q.2
theorem setZ (I : Inv Z Mu h) {a : Addr} {o : Obj} (hz : Z a = none) (k : ∀ b o, b ≠ a → h.get? b = some o → h'.get? b = some o) (ha : h'.get? a = some o) : Inv (upd Z a (some o)) (upd Mu a none) h' where
  z b x e := (upd_cases e).elim (fun q => by cases q.2; exact q.1 ▸ ha) fun q => k b x q.1 (I.z b x q.2)
  m b c e := (upd_cases e).elim (fun q => nomatch q.2) fun q => MC.at_to (k b · q.1) (I.m b c q.2)
  d b c e := (upd_cases e).elim (fun q => nomatch q.2) fun q => (upd_ne q.1).trans (I.d b c q.2)
theorem keeps (I : Inv Z Mu h) (k : ∀ b o, h.get? b = some o → h'.get? b = some o) : Inv Z Mu h' :=
  ⟨fun a o e => k a o (I.z a o e), fun a c e => MC.at_to (k a) (I.m a c e), I.d⟩
end Inv
abbrev tupOf (its : Array Value) : Obj := { cls := .type "tuple", data := .seq its }
inductive Ents (hs : Str → Int) : List Str → List Value → List DictEntry → Prop
  | nil : Ents hs [] [] []
  | cons {n ns v vs es} (t : Tok) : Ents hs ns vs es → Ents hs (n :: ns) (v :: vs) (⟨hs n, .str n t, v⟩ :: es)
noncomputable def nameOf (T : Tie) (f : Nat) : Str := T.names.getD f default
structure ClsOk (T : Tie) (k : MCls) (C : Addr) : Prop where
  plain : plainGet T.K C "" = true
  dict : hasDictIn T.K C = true
  makes : makesIn T.K C = true
  setattr : findIn T.K (.ref C) "__setattr__" = some (some (.builtin "object.__setattr__"))
  over : plainOver T.K C = true
  init : ∃ a, flook k.init T.fadr = some a ∧ findIn T.K (.ref C) "__init__" = some (some (.ref a)) ∧ isFn T.K (.ref a) = true
  flds : ∀ f ∈ k.flds, f < T.names.length ∧ (∃ a, findIn T.K (.ref C) (nameOf T f) = some a ∧ noGet T.K a = true) ∧ takerIn T.K C (nameOf T f) = some none
  nodup : k.flds.Nodup
  meths : ∀ m f, flook m k.meths = some f → m < T.names.length ∧ m ∉ k.flds ∧ ∃ a, flook f T.fadr = some a ∧ findIn T.K (.ref C) (nameOf T m) = some (some (.ref a)) ∧ isFn T.K (.ref a) = true ∧ keepIn T.K (.ref a) = true
noncomputable def bltV : Nat → Value
  | 0 => .builtin "len" | 1 => .builtin "min" | 2 => .builtin "max" | 3 => .type "tuple" | 4 => .type "bytes" | 5 => .type "range" | _ => .builtin "sorted"
structure Tied (P : Prg) (T : Tie) (H0 : Heap) : Prop where
  kin : T.K.In H0
  ng : ∃ mg mb, H0.Ns mainGlobals mg ∧ H0.Ns builtinsNs mb ∧ ∀ x : Str, x ≠ "__name__" → mb x = bootBuiltins x
  nolim : H0.NoLimit
  fn : ∀ x f, T.gl.lookup x = some (.fn f) → ∃ a, flook f T.fadr = some a ∧ nsIn T.K mainGlobals x = some (some (.ref a)) ∧ keepIn T.K (.ref a) = true
  cls : ∀ x c, T.gl.lookup x = some (.cls c) → ∃ C, T.cadr[c]? = some C ∧ nsIn T.K mainGlobals x = some (some (.ref C)) ∧ keepIn T.K (.ref C) = true
  exc : ∀ x c, T.gl.lookup x = some (.exc c) → ∃ C, T.eadr[c]? = some C ∧ nsIn T.K mainGlobals x = some (some (.ref C))
  gint : ∀ x g i, T.gl.lookup x = some (.gint g i) → ∃ t, nsIn T.K mainGlobals x = some (some (.int i t))
  blt : ∀ x k, T.gl.lookup x = some (.blt k) → x ≠ "__name__" ∧ nsIn T.K mainGlobals x = some none ∧ bootBuiltins x = some (bltV k)
  names : T.names.Nodup
  clsOk : ∀ (c : Nat) k, P.cls[c]? = some k → ∃ C, T.cadr[c]? = some C ∧ ClsOk T k C
structure ExcIn (P : Prg) (T : Tie) (H0 : Heap) (c : Nat) (C : Addr) (nm q : Str) (N : Addr) (bs bm : List Value) (hdct : Bool) (sn : List Str) (sub : List Value) (ab : Bool) (col : Option Bool) (dd : Option Addr) (k0 k1 k2 k3 k5 : Option Value) (newId B initId : String) (bmB : List Value) (mN : Str → Option Value) : Prop where
  at_ : H0.get? C = some (excClassObj nm q C N bs bm hdct sn sub ab col dd k0 k1 k2 k3 k5 newId)
  ns : H0.Ns N mN
  init : mN "__init__" = none
  tail : OwnTail H0 bmB bm
  base : ExcBaseFacts B newId initId bmB
  isExc : bm.contains (.type "BaseException") = true
  sub : ∀ d D, T.eadr[d]? = some D → (Value.ref C :: bm).contains (.ref D) = P.sub c d
noncomputable def NotInit (P : Prg) (f : Nat) : Prop := ∀ (ci : Nat) (k : MCls), P.cls[ci]? = some k → k.record = true → k.init ≠ f
structure Sys where
  prog : Program
  w : World
  P : Prg
  T : Tie
  H0 : Heap
  X : Tied P T H0
  EX : ∀ (c : Nat) (C : Addr), T.eadr[c]? = some C → ∃ nm q N bs bm hdct sn sub ab col dd k0 k1 k2 k3 k5 newId B initId bmB mN, ExcIn P T H0 c C nm q N bs bm hdct sn sub ab col dd k0 k1 k2 k3 k5 newId B initId bmB mN
  hs : ∀ n, T.hs n = PyData.keyHash w.params n
  recs : ∀ (cj : Nat) (k' : MCls), P.cls[cj]? = some k' → k'.record = false → NotInit P k'.init
  rmeth : ∀ (cj : Nat) (k' : MCls) (m f : Nat), P.cls[cj]? = some k' → flook m k'.meths = some f → NotInit P f
  rfun : ∀ (x : Str) (f : Nat), T.gl.lookup x = some (.fn f) → NotInit P f
abbrev Sys.M (Y : Sys) : Model := model Y.prog Y.w
section
variable (Y : Sys) (Z : ZM) (φ : PH)
mutual
noncomputable def VR : MV → Value → Prop
  | .none, v => v = .none
  | .bool b, v => v = .bool b
  | .int i, v => ∃ t, v = .int i t
  | .bytes l, v => ∃ t, v = .bytes (l.map UInt8.ofNat).toArray t ∧ (∀ x ∈ l, x < 256) ∧ l.length ≤ 10000000
  | .tup ms, v => ∃ a vs, v = .ref a ∧ Z a = some (tupOf vs.toArray) ∧ VRs ms vs ∧ ms.length ≤ 10000000
  | .list ms, v => ∃ a vs n, v = .ref a ∧ Z a = some (listOf vs.toArray n) ∧ VRs ms vs ∧ ms.length ≤ 10000000
  | .inst c ms, v => ∃ x dx k C es n vs, v = .ref x ∧ (Y.P.cls[c]? = some k ∧ k.record = true ∧ Y.T.cadr[c]? = some C ∧ Z x = some (instObj C dx) ∧ Z dx = some (dictOf es n)) ∧ Ents Y.T.hs (k.flds.map (nameOf Y.T)) vs es ∧ VRs ms vs
  | .obj i, v => ∃ x dx, v = .ref x ∧ φ[i]? = some (x, dx)
noncomputable def VRs : List MV → List Value → Prop
  | [], vs => vs = []
  | m :: ms, vs => ∃ v r, vs = v :: r ∧ VR m v ∧ VRs ms r
end
end
noncomputable def ZLe (Z Z' : ZM) : Prop := ∀ a o, Z a = some o → Z' a = some o
noncomputable def PLe (φ φ' : PH) : Prop := ∀ (i : Nat) p, φ[i]? = some p → φ'[i]? = some p
theorem ZLe.refl {Z : ZM} : ZLe Z Z := fun _ _ e => e
theorem PLe.refl {φ : PH} : PLe φ φ := fun _ _ e => e
theorem PLe.append {φ : PH} {l : PH} : PLe φ (φ ++ l) := fun i p e => by
  rw [List.getElem?_append_left (List.getElem?_eq_some_iff.mp e).1]; exact e
theorem ZLe.upd {Z : ZM} {a : Addr} {o : Option Obj} (h : Z a = none) : ZLe Z (Mini.upd Z a o) := fun b x e => (upd_ne (ne_none h e)).trans e
section
variable {Y : Sys} {Z Z' : ZM} {φ φ' : PH}
mutual
theorem VR.mono (z : ZLe Z Z') (p : PLe φ φ') : ∀ (m : MV) {v : Value}, VR Y Z φ m v → VR Y Z' φ' m v
  | .none, _, h => h
  | .bool _, _, h => h
  | .int _, _, h => h
  | .bytes _, _, h => h
  | .tup ms, _, ⟨a, vs, e, h, r, n⟩ => ⟨a, vs, e, z _ _ h, VRs.mono z p ms r, n⟩
  | .list ms, _, ⟨a, vs, k, e, h, r, n⟩ => ⟨a, vs, k, e, z _ _ h, VRs.mono z p ms r, n⟩
  | .inst _ ms, _, ⟨x, dx, k, C, es, n, vs, e, ⟨a, b, c, d, f⟩, g, r⟩ => ⟨x, dx, k, C, es, n, vs, e, ⟨a, b, c, z _ _ d, z _ _ f⟩, g, VRs.mono z p ms r⟩
  | .obj _, _, ⟨x, dx, e, h⟩ => ⟨x, dx, e, p _ _ h⟩
theorem VRs.mono (z : ZLe Z Z') (p : PLe φ φ') : ∀ (m : List MV) {v : List Value}, VRs Y Z φ m v → VRs Y Z' φ' m v
  | [], _, h => h
  | m :: ms, _, ⟨v, r, e, a, b⟩ => ⟨v, r, e, VR.mono z p m a, VRs.mono z p ms b⟩
end
theorem VRs.length : ∀ {m : List MV} {v : List Value}, VRs Y Z φ m v → v.length = m.length
  | [], _, h => h ▸ rfl
  | _ :: _, _, ⟨_, _, e, _, b⟩ => e ▸ congrArg (· + 1) (VRs.length b)
theorem VRs.get : ∀ {m : List MV} {v : List Value}, VRs Y Z φ m v → ∀ {i : Nat} {x : MV}, m[i]? = some x → ∃ y, v[i]? = some y ∧ VR Y Z φ x y
  | [], _, _, _, _, q => nomatch q
  | _ :: _, _, ⟨v, _, e, a, _⟩, 0, _, q => by cases q; exact ⟨v, e ▸ rfl, a⟩
  | _ :: _, _, ⟨_, _, e, _, b⟩, i + 1, _, q => let ⟨y, h, g⟩ := VRs.get b (i := i) q; ⟨y, e ▸ h, g⟩
theorem VRs.append : ∀ {m : List MV} {v : List Value} {m' : List MV} {v' : List Value}, VRs Y Z φ m v → VRs Y Z φ m' v' → VRs Y Z φ (m ++ m') (v ++ v')
  | [], _, _, _, h, h' => h ▸ h'
  | _ :: _, _, _, _, ⟨v, r, e, a, b⟩, h' => ⟨v, r ++ _, e ▸ rfl, a, VRs.append b h'⟩
theorem VRs.take : ∀ {m : List MV} {v : List Value} (k : Nat), VRs Y Z φ m v → VRs Y Z φ (m.take k) (v.take k)
  | _, _, 0, _ => rfl
  | [], _, _ + 1, h => h ▸ rfl
  | _ :: _, _, k + 1, ⟨v, r, e, a, b⟩ => ⟨v, r.take k, e ▸ rfl, a, VRs.take k b⟩
theorem VRs.drop : ∀ {m : List MV} {v : List Value} (k : Nat), VRs Y Z φ m v → VRs Y Z φ (m.drop k) (v.drop k)
  | _, _, 0, h => h
  | [], _, _ + 1, h => h ▸ rfl
  | _ :: _, _, k + 1, ⟨_, _, e, _, b⟩ => e ▸ VRs.drop k b
theorem VRs.replicate {m : MV} {v : Value} (h : VR Y Z φ m v) : ∀ k, VRs Y Z φ (List.replicate k m) (List.replicate k v)
  | 0 => rfl
  | k + 1 => ⟨v, _, rfl, h, VRs.replicate h k⟩
end
theorem Ents.length {hs : Str → Int} : ∀ {ns : List Str} {vs : List Value} {es : List DictEntry}, Ents hs ns vs es → es.length = ns.length ∧ vs.length = ns.length
  | _, _, _, .nil => ⟨rfl, rfl⟩
  | _, _, _, .cons _ r => ⟨congrArg (· + 1) r.length.1, congrArg (· + 1) r.length.2⟩
structure Cf where
  Z : ZM
  Mu : MU
  φ : PH
  H : MH
  s : Shared
section
variable (Y : Sys)
structure ObjAt (Z : ZM) (φ : PH) (Mu : MU) (o : MObj) (x dx : Addr) (es : List DictEntry) (n : Nat) (vs : List Value) (k : MCls) (C : Addr) : Prop where
  mu : Mu dx = some (.st (dictOf es n))
  en : Ents Y.T.hs (o.fs.map fun f => nameOf Y.T f.1) vs es
  vr : VRs Y Z φ (o.fs.map (·.2)) vs
  cls : Y.P.cls[o.c]? = some k
  nrec : k.record = false
  adr : Y.T.cadr[o.c]? = some C
  inst : Z x = some (instObj C dx)
  flds : ∀ p ∈ o.fs, p.1 ∈ k.flds
structure HR (Z : ZM) (φ : PH) (Mu : MU) (H : MH) : Prop where
  len : φ.length = H.length
  obj : ∀ (i : Nat) o, H[i]? = some o → ∃ x dx es n vs k C, φ[i]? = some (x, dx) ∧ ObjAt Y Z φ Mu o x dx es n vs k C
  nd : (φ.map (·.2)).Nodup
structure Cf.Ok (c : Cf) : Prop where
  inv : Inv c.Z c.Mu c.s.heap
  hr : HR Y c.Z c.φ c.Mu c.H
  base : ZLe Y.H0.get? c.Z
end
noncomputable def rest (s : Shared) := (s.gens, s.os, s.drawn)
structure StB (c c' : Cf) : Prop where
  z : ZLe c.Z c'.Z
  p : PLe c.φ c'.φ
  t : rest c'.s = rest c.s
structure Step (c c' : Cf) : Prop extends StB c c' where
  k : ∀ a x, c.Mu a = some x → ∃ y, c'.Mu a = some y ∧ (x.isSt = false → y = x)
theorem StB.refl (c : Cf) : StB c c := ⟨ZLe.refl, PLe.refl, rfl⟩
theorem StB.trans {a b c : Cf} (x : StB a b) (y : StB b c) : StB a c := ⟨fun q o e => y.z q o (x.z q o e), fun q o e => y.p q o (x.p q o e), y.t.trans x.t⟩
theorem Step.refl (c : Cf) : Step c c := ⟨StB.refl c, fun _ x e => ⟨x, e, fun _ => rfl⟩⟩
theorem Step.trans {a b c : Cf} (x : Step a b) (y : Step b c) : Step a c :=
  ⟨x.toStB.trans y.toStB, fun q w e => let ⟨u, e', f⟩ := x.k q w e; let ⟨v, e'', g⟩ := y.k q u e'; ⟨v, e'', fun n => by have := f n; subst this; exact g n⟩⟩
theorem Step.keep {c c' : Cf} (s : Step c c') {a : Addr} {x : MC} (n : x.isSt = false) (e : c.Mu a = some x) : c'.Mu a = some x :=
  let ⟨_, e', f⟩ := s.k a x e; f n ▸ e'
noncomputable def VRc (Y : Sys) (c : Cf) (v : Value) (m : MV) : Prop := VR Y c.Z c.φ m v
noncomputable def VRsc (Y : Sys) (c : Cf) (v : List Value) (m : List MV) : Prop := VRs Y c.Z c.φ m v
noncomputable def Bc (_ : Cf) (v b : Bool) : Prop := v = b
theorem VRc.step {Y : Sys} {c c' : Cf} (s : StB c c') {v : Value} {m : MV} (h : VRc Y c v m) : VRc Y c' v m := VR.mono s.z s.p m h
theorem VRsc.step {Y : Sys} {c c' : Cf} (s : StB c c') {v : List Value} {m : List MV} (h : VRsc Y c v m) : VRsc Y c' v m := VRs.mono s.z s.p m h
theorem ObjAt.mono {Y : Sys} {Z Z' : ZM} {φ φ' : PH} {Mu Mu' : MU} {o : MObj} {x dx : Addr} {es : List DictEntry} {n : Nat} {vs : List Value} {k : MCls} {C : Addr} (h : ObjAt Y Z φ Mu o x dx es n vs k C) (z : ZLe Z Z') (p : PLe φ φ') (m : Mu' dx = some (.st (dictOf es n))) : ObjAt Y Z' φ' Mu' o x dx es n vs k C :=
  ⟨m, h.en, VRs.mono z p _ h.vr, h.cls, h.nrec, h.adr, z _ _ h.inst, h.flds⟩
theorem HR.mono {Y : Sys} {Z Z' : ZM} {φ : PH} {Mu Mu' : MU} {H : MH} (h : HR Y Z φ Mu H) (z : ZLe Z Z') (k : ∀ a o, Mu a = some (.st o) → Mu' a = some (.st o)) : HR Y Z' φ Mu' H :=
  ⟨h.len, fun i o e => let ⟨x, dx, es, n, vs, kk, C, a, b⟩ := h.obj i o e; ⟨x, dx, es, n, vs, kk, C, a, b.mono z PLe.refl (k _ _ b.mu)⟩, h.nd⟩
section
variable {Y : Sys} {c c' : Cf}
noncomputable def Cf.heap (c : Cf) (h : Heap) (tk : Nat) : Cf := { c with s := { c.s with heap := h, toks := tk } }
theorem Cf.Ok.heap (k : c.Ok Y) {h : Heap} (tk : Nat) (e : ∀ b o, c.s.heap.get? b = some o → h.get? b = some o) : (c.heap h tk).Ok Y := ⟨k.inv.keeps e, k.hr, k.base⟩
theorem Step.heap (c : Cf) (h : Heap) (tk : Nat) : Step c (c.heap h tk) := ⟨⟨ZLe.refl, PLe.refl, rfl⟩, fun _ x e => ⟨x, e, fun _ => rfl⟩⟩
structure Cf.Un (c : Cf) (a : Addr) : Prop where
  z : c.Z a = none
  m : ∀ x, c.Mu a = some x → x.isSt = false
theorem Cf.Un.st (u : c.Un a) {b : Addr} {o : Obj} (e : c.Mu b = some (.st o)) : b ≠ a := fun q => nomatch u.m _ (q ▸ e : c.Mu a = some (.st o))
theorem Cf.Ok.free (k : c.Ok Y) {a : Addr} (n : c.s.heap.objs.size ≤ a) : c.Z a = none ∧ c.Mu a = none := k.inv.free n
theorem un_free {a : Addr} (h : c.Z a = none ∧ c.Mu a = none) : c.Un a := ⟨h.1, fun _ e => nomatch h.2.symm.trans e⟩
theorem Cf.Ok.un (k : c.Ok Y) {a : Addr} {x : MC} (e : c.Mu a = some x) (n : x.isSt = false) : c.Un a := ⟨k.inv.d a x e, fun y e' => by rw [e] at e'; cases e'; exact n⟩
noncomputable def Cf.setM (c : Cf) (a : Addr) (x : Option MC) (h : Heap) (tk : Nat) : Cf := { c with Mu := upd c.Mu a x, s := { c.s with heap := h, toks := tk } }
theorem Cf.Ok.setM (k : c.Ok Y) {a : Addr} {x : Option MC} {h : Heap} (tk : Nat) (u : c.Un a) (e : Heap.ExtBut a c.s.heap h) (hx : ∀ y, x = some y → y.at h a) : (c.setM a x h tk).Ok Y :=
  ⟨k.inv.setM u.z e hx, k.hr.mono ZLe.refl fun _ _ e => (upd_ne (u.st e)).trans e, k.base⟩
theorem Step.setM (s : Step c c') {a : Addr} {x : Option MC} {h : Heap} {tk : Nat} (hn : c.Mu a = none) : Step c (c'.setM a x h tk) :=
  ⟨⟨s.z, s.p, s.t⟩, fun b y e => let ⟨u, e', f⟩ := s.k b y e; ⟨u, (upd_ne (ne_none hn e)).trans e', f⟩⟩
noncomputable def Cf.setZ (c : Cf) (a : Addr) (o : Obj) (h : Heap) (tk : Nat) : Cf := { c with Z := upd c.Z a (some o), Mu := upd c.Mu a none, s := { c.s with heap := h, toks := tk } }
theorem Cf.Ok.setZ (k : c.Ok Y) {a : Addr} {o : Obj} {h : Heap} (tk : Nat) (u : c.Un a) (e : Heap.ExtBut a c.s.heap h) (hx : h.get? a = some o) : (c.setZ a o h tk).Ok Y :=
  ⟨k.inv.setZ u.z e hx, k.hr.mono (ZLe.upd u.z) fun _ _ e => (upd_ne (u.st e)).trans e, fun b x e => ZLe.upd u.z b x (k.base b x e)⟩
theorem Step.setZ (s : Step c c') {a : Addr} {o : Obj} {h : Heap} {tk : Nat} (hn : c.Mu a = none) (hz : c'.Z a = none) : Step c (c'.setZ a o h tk) :=
  ⟨⟨fun b x e => ZLe.upd hz b x (s.z b x e), s.p, s.t⟩, fun b y e => let ⟨u, e', f⟩ := s.k b y e; ⟨u, (upd_ne (ne_none hn e)).trans e', f⟩⟩
theorem Cf.setZ_z (c : Cf) (a : Addr) (o : Obj) (h : Heap) (tk : Nat) : (c.setZ a o h tk).Z a = some o := upd_self ..
theorem Cf.setM_m (c : Cf) (a : Addr) (x : Option MC) (h : Heap) (tk : Nat) : (c.setM a x h tk).Mu a = x := upd_self ..
theorem Cf.setM_ne {a b : Addr} {x : Option MC} {h : Heap} {tk : Nat} (n : b ≠ a) : (c.setM a x h tk).Mu b = c.Mu b := upd_ne n
theorem Cf.Ok.stays (k : c.Ok Y) : ∀ b o, Y.H0.get? b = some o → c.s.heap.get? b = some o := fun b o e => k.inv.z _ _ (k.base _ _ e)
theorem Cf.Ok.kin (k : c.Ok Y) : Y.T.K.In c.s.heap := Y.X.kin.keeps k.stays
theorem Cf.Ok.ns (k : c.Ok Y) {a : Addr} {m : Str → Option Value} (e : c.Mu a = some (.fr m)) : c.s.heap.Ns a m := fr_at (k.inv.m _ _ e)
theorem fresh_step (s : Step c c') {a : Addr} (h : c'.Z a = none ∧ c'.Mu a = none) : c.Z a = none ∧ c.Mu a = none :=
  ⟨Option.eq_none_iff_forall_ne_some.mpr fun o e => (nomatch h.1.symm.trans (s.z a o e)), Option.eq_none_iff_forall_ne_some.mpr fun o e => let ⟨_, e', _⟩ := s.k a o e; nomatch h.2.symm.trans e'⟩
end
end Mini
end
noncomputable section
namespace Mini
open PySem PySem.W PySem.Calls PyProof.Rows
structure SC where
  vars : List (Str × Nat)
  names : List (Str × NameKind)
noncomputable def dbg : Str := "__debug__"
noncomputable def dot0 : Str := ".0"
noncomputable def SC.isLocal (sc : SC) (x : Str) : Bool := sc.names.lookup x == some .local
noncomputable def SC.isOwn (sc : SC) (x : Str) : Bool := sc.isLocal x || sc.names.lookup x == some .cell
noncomputable def SC.own (sc : SC) (x : Str) : Option Nat := if sc.isOwn x && !(x == dbg) then sc.vars.lookup x else none
noncomputable def SC.slot (sc : SC) (x : Str) : Option Nat := if (sc.isOwn x || sc.names.lookup x == some .free) && !(x == dbg) then sc.vars.lookup x else none
noncomputable def innerK (sc : SC) (n : Str) (k : NameKind) : NameKind := if k == .free && sc.names.lookup n == some .cell then .cell else k
noncomputable def SC.inner (sc : SC) (names : List (Str × NameKind)) (y : Str) (x : Nat) : SC := ⟨(y, x) :: sc.vars, names.map fun p => (p.1, innerK sc p.1 p.2)⟩
noncomputable def compOk (sc : SC) (scope : Scope) (y : Str) (x : Nat) : Bool :=
  scope.kind == .function && scope.names.lookup y == some .local && !(y == dot0) && sc.vars.all (fun p => p.2 != x) &&
  scope.names.all (fun p => p.2 == .local && (p.1 == y || p.1 == dot0) || p.2 == .globalImplicit || p.2 == .free && sc.names.lookup p.1 == some .cell) &&
  (scope.names.map (·.1)).Nodup && (sc.vars.lookup dot0).isNone
structure Pt where
  p : Pos
  a : Expr := default
  b : Expr := default
  c : Expr := default
  xs : List Expr := []
  s : Str := default
  n : Nat := 0
  q : Pos := default
  sc : Scope := default
noncomputable def callee (e : Expr) : Expr × Str × Pos := match e with
  | .Name s q => (e, s, q)
  | .Attribute v s q => (v, s, q)
  | _ => (e, default, default)
noncomputable def parts (e : Expr) : Pt := match e with
  | .BoolOp _ xs p => { p, xs }
  | .BinOp a _ b p => { p, a, b }
  | .UnaryOp _ a p => { p, a }
  | .IfExp c a b p => { p, a, b, c }
  | .ListComp a gs sc p => { p, a, sc, b := (gs.headD default).iter, c := (gs.headD default).ifs.headD default, xs := [(gs.headD default).target] }
  | .Compare a _ xs p => { p, a, xs }
  | .Call f xs _ p => { p, xs, a := (callee f).1, s := (callee f).2.1, q := (callee f).2.2 }
  | .FormattedValue a _ _ p => { p, a }
  | .JoinedStr xs p => { p, xs }
  | .Constant v n p => { p, n, s := match v with | .str s => s | _ => default }
  | .Attribute a _ p => { p, a }
  | .Subscript a b p => { p, a, b }
  | .Name s p => { p, s }
  | .List xs p => { p, xs }
  | .Tuple xs n p => { p, xs, n }
  | .Slice l u _ p => { p, a := l.getD default, b := u.getD default }
  | _ => { p := default }
noncomputable def hd1 (xs : List Expr) : Expr := xs.headD default
noncomputable def hd2 (xs : List Expr) : Expr := xs.tail.headD default
noncomputable def asName (e : Expr) : Expr := .Name (parts e).s (parts e).p
noncomputable def realOp (o : Op) : Operator := match o with
  | .add => .Add | .sub => .Sub | .mul => .Mult | .fdiv => .FloorDiv | .mod => .Mod
noncomputable def realCp (o : Cp) : CmpOp := match o with
  | .eq => .Eq | .ne => .NotEq | .lt => .Lt | .le => .LtE | .gt => .Gt | .ge => .GtE
noncomputable def opsC : MCs → List CmpOp
  | .one o _ => [realCp o]
  | .cons o _ r => realCp o :: opsC r
noncomputable def noneAs (e : Expr) : Expr := .Constant .none (parts e).n (parts e).p
noncomputable def exCall (t : Pt) (xs : List Expr) : Expr := .Call (.Name t.s t.q) xs [] t.p
section
variable (T : Tie)
mutual
noncomputable def ex : ME → Expr → Expr
  | .bad, e => e
  | .none, e => noneAs e
  | .tt, e => .Constant (.bool true) (parts e).n (parts e).p
  | .ff, e => .Constant (.bool false) (parts e).n (parts e).p
  | .int i, e => .Constant (.int i) (parts e).n (parts e).p
  | .neg i, e => .UnaryOp .USub (.Constant (.int i) (parts (parts e).a).n (parts (parts e).a).p) (parts e).p
  | .bnil, e => .Constant (.bytes []) (parts e).n (parts e).p
  | .gint _ _, e => asName e
  | .var _, e => asName e
  | .attr a f, e => .Attribute (ex a (parts e).a) (nameOf T f) (parts e).p
  | .bin o a b, e => .BinOp (ex a (parts e).a) (realOp o) (ex b (parts e).b) (parts e).p
  | .cmp a c, e => .Compare (ex a (parts e).a) (opsC c) (exC c (parts e).xs) (parts e).p
  | .isNone a, e => .Compare (ex a (parts e).a) [.Is] [noneAs (hd1 (parts e).xs)] (parts e).p
  | .notNone a, e => .Compare (ex a (parts e).a) [.IsNot] [noneAs (hd1 (parts e).xs)] (parts e).p
  | .and es, e => .BoolOp .And (exs es (parts e).xs) (parts e).p
  | .or es, e => .BoolOp .Or (exs es (parts e).xs) (parts e).p
  | .not a, e => .UnaryOp .Not (ex a (parts e).a) (parts e).p
  | .ite c a b, e => .IfExp (exT c (parts e).c) (ex a (parts e).a) (ex b (parts e).b) (parts e).p
  | .idx a b, e => .Subscript (ex a (parts e).a) (ex b (parts e).b) (parts e).p
  | .sliceA a, e => .Subscript (ex a (parts e).a) (.Slice none none none (parts (parts e).b).p) (parts e).p
  | .sliceL a l, e => .Subscript (ex a (parts e).a) (.Slice (some (ex l (parts (parts e).b).a)) none none (parts (parts e).b).p) (parts e).p
  | .sliceU a u, e => .Subscript (ex a (parts e).a) (.Slice none (some (ex u (parts (parts e).b).b)) none (parts (parts e).b).p) (parts e).p
  | .sliceLU a l u, e => .Subscript (ex a (parts e).a) (.Slice (some (ex l (parts (parts e).b).a)) (some (ex u (parts (parts e).b).b)) none (parts (parts e).b).p) (parts e).p
  | .tup es, e => .Tuple (exs es (parts e).xs) (parts e).n (parts e).p
  | .list es, e => .List (exs es (parts e).xs) (parts e).p
  | .comp elt _ it, e => .ListComp (ex elt (parts e).a) [⟨asName (hd1 (parts e).xs), exI it (parts e).b, [], 0⟩] (parts e).sc (parts e).p
  | .compIf elt _ it c, e => .ListComp (ex elt (parts e).a) [⟨asName (hd1 (parts e).xs), exI it (parts e).b, [exT c (parts e).c], 0⟩] (parts e).sc (parts e).p
  | .call _ es, e => exCall (parts e) (exs es (parts e).xs)
  | .new _ es, e => exCall (parts e) (exs es (parts e).xs)
  | .meth a m es, e => .Call (.Attribute (ex a (parts e).a) (nameOf T m) (parts e).q) (exs es (parts e).xs) [] (parts e).p
  | .len a, e => exCall (parts e) [ex a (hd1 (parts e).xs)]
  | .min2 a b, e => exCall (parts e) [ex a (hd1 (parts e).xs), ex b (hd2 (parts e).xs)]
  | .max2 a b, e => exCall (parts e) [ex a (hd1 (parts e).xs), ex b (hd2 (parts e).xs)]
  | .max1 a, e => exCall (parts e) [ex a (hd1 (parts e).xs)]
  | .tupleOf a, e => exCall (parts e) [ex a (hd1 (parts e).xs)]
  | .bytesOf a, e => exCall (parts e) [ex a (hd1 (parts e).xs)]
  | .accLast _, e => .Subscript (asName (parts e).a) (.UnaryOp .USub (.Constant (.int 1) (parts (parts (parts e).b).a).n (parts (parts (parts e).b).a).p) (parts (parts e).b).p) (parts e).p
  | .accIdx _ a, e => .Subscript (asName (parts e).a) (ex a (parts e).b) (parts e).p
  | .accLen _, e => exCall (parts e) [asName (hd1 (parts e).xs)]
noncomputable def exs : MEs → List Expr → List Expr
  | .nil, _ => []
  | .cons e r, xs => ex e (hd1 xs) :: exs r xs.tail
noncomputable def exC : MCs → List Expr → List Expr
  | .one _ e, xs => [ex e (hd1 xs)]
  | .cons _ e r, xs => ex e (hd1 xs) :: exC r xs.tail
noncomputable def exT : MT → Expr → Expr
  | .e a, e => ex a e
  | .cmp a c, e => .Compare (ex a (parts e).a) (opsC c) (exC c (parts e).xs) (parts e).p
  | .isNone a, e => .Compare (ex a (parts e).a) [.Is] [noneAs (hd1 (parts e).xs)] (parts e).p
  | .notNone a, e => .Compare (ex a (parts e).a) [.IsNot] [noneAs (hd1 (parts e).xs)] (parts e).p
  | .not t, e => .UnaryOp .Not (exT t (parts e).a) (parts e).p
  | .and ts, e => .BoolOp .And (exTs ts (parts e).xs) (parts e).p
  | .or ts, e => .BoolOp .Or (exTs ts (parts e).xs) (parts e).p
  | .acc _, e => asName e
noncomputable def exTs : MTs → List Expr → List Expr
  | .nil, _ => []
  | .cons e r, xs => exT e (hd1 xs) :: exTs r xs.tail
noncomputable def exI : MI → Expr → Expr
  | .range1 a, e => exCall (parts e) [ex a (hd1 (parts e).xs)]
  | .range2 a b, e => exCall (parts e) [ex a (hd1 (parts e).xs), ex b (hd2 (parts e).xs)]
  | .sorted a, e => exCall (parts e) [ex a (hd1 (parts e).xs)]
  | .over a, e => ex a e
end
noncomputable def plainTest (e : Expr) : Bool := match e with
  | .Name .. | .Call .. | .Subscript .. | .Attribute .. | .Constant .. => true
  | _ => false
noncomputable def noStar (e : Expr) : Bool := match e with | .Starred .. => false | _ => true
noncomputable def noSlice (e : Expr) : Bool := match e with | .Slice .. => false | _ => true
noncomputable def noSet (e : Expr) : Bool := match e with | .Set .. => false | _ => true
noncomputable def isCallE (e : Expr) : Bool := match e with | .Call .. => true | _ => false
noncomputable def isSubE (e : Expr) : Bool := match e with | .Subscript .. => true | _ => false
noncomputable def noComp (e : Expr) : Bool := match e with | .ListComp .. | .SetComp .. | .DictComp .. => false | _ => true
noncomputable def gOk (sc : SC) (x : Str) (g : GV) : Bool := sc.names.lookup x == some .globalImplicit && T.gl.lookup x == some g && !(x == dbg)
noncomputable def okG (sc : SC) (e : Expr) (g : GV) : Bool := gOk T sc (parts e).s g
noncomputable def okAcc (sc : SC) (e : Expr) (i : Nat) : Bool := sc.own (parts e).s == some i && sc.isLocal (parts e).s
mutual
noncomputable def ok (sc : SC) : ME → Expr → Bool
  | .bad, _ => true
  | .none, _ => true
  | .tt, _ => true
  | .ff, _ => true
  | .int _, _ => true
  | .neg _, _ => true
  | .bnil, _ => true
  | .gint g i, e => okG T sc e (.gint g i)
  | .var i, e => sc.slot (parts e).s == some i
  | .attr a _, e => ok sc a (parts e).a && !isCallE (ex T a (parts e).a)
  | .bin _ a b, e => ok sc a (parts e).a && ok sc b (parts e).b
  | .cmp a c, e => ok sc a (parts e).a && okC sc c (parts e).xs
  | .isNone a, e => ok sc a (parts e).a
  | .notNone a, e => ok sc a (parts e).a
  | .and es, e => oks sc es (parts e).xs
  | .or es, e => oks sc es (parts e).xs
  | .not a, e => ok sc a (parts e).a
  | .ite c a b, e => okT sc c (parts e).c && (ok sc a (parts e).a && ok sc b (parts e).b)
  | .idx a b, e => ok sc a (parts e).a && (ok sc b (parts e).b && noSlice (ex T b (parts e).b))
  | .sliceA a, e => ok sc a (parts e).a
  | .sliceL a l, e => ok sc a (parts e).a && ok sc l (parts (parts e).b).a
  | .sliceU a u, e => ok sc a (parts e).a && ok sc u (parts (parts e).b).b
  | .sliceLU a l u, e => ok sc a (parts e).a && (ok sc l (parts (parts e).b).a && ok sc u (parts (parts e).b).b)
  | .tup es, e => oks sc es (parts e).xs && decide ((exs T es (parts e).xs).length ≤ 1000)
  | .list es, e => oks sc es (parts e).xs && decide ((exs T es (parts e).xs).length ≤ 1000)
  | .comp elt x it, e => compOk sc (parts e).sc (parts (hd1 (parts e).xs)).s x && (okI sc it (parts e).b && ok (sc.inner (parts e).sc.names (parts (hd1 (parts e).xs)).s x) elt (parts e).a)
  | .compIf elt x it c, e => compOk sc (parts e).sc (parts (hd1 (parts e).xs)).s x && (okI sc it (parts e).b && (ok (sc.inner (parts e).sc.names (parts (hd1 (parts e).xs)).s x) elt (parts e).a && okT (sc.inner (parts e).sc.names (parts (hd1 (parts e).xs)).s x) c (parts e).c))
  | .call f es, e => okG T sc e (.fn f) && oks sc es (parts e).xs
  | .new c es, e => okG T sc e (.cls c) && oks sc es (parts e).xs
  | .meth a _ es, e => ok sc a (parts e).a && (!isCallE (ex T a (parts e).a) && (oks sc es (parts e).xs && (decide ((exs T es (parts e).xs).length ≤ 20) && (parts e).q.endLine == (parts e).p.line)))
  | .len a, e => okG T sc e (.blt 0) && (ok sc a (hd1 (parts e).xs) && noStar (ex T a (hd1 (parts e).xs)))
  | .min2 a b, e => okG T sc e (.blt 1) && ((ok sc a (hd1 (parts e).xs) && noStar (ex T a (hd1 (parts e).xs))) && (ok sc b (hd1 (parts e).xs.tail) && noStar (ex T b (hd1 (parts e).xs.tail))))
  | .max2 a b, e => okG T sc e (.blt 2) && ((ok sc a (hd1 (parts e).xs) && noStar (ex T a (hd1 (parts e).xs))) && (ok sc b (hd1 (parts e).xs.tail) && noStar (ex T b (hd1 (parts e).xs.tail))))
  | .max1 a, e => okG T sc e (.blt 2) && (ok sc a (hd1 (parts e).xs) && noStar (ex T a (hd1 (parts e).xs)))
  | .tupleOf a, e => okG T sc e (.blt 3) && (ok sc a (hd1 (parts e).xs) && noStar (ex T a (hd1 (parts e).xs)))
  | .bytesOf a, e => okG T sc e (.blt 4) && (ok sc a (hd1 (parts e).xs) && noStar (ex T a (hd1 (parts e).xs)))
  | .accLast i, e => okAcc sc (parts e).a i
  | .accIdx i a, e => okAcc sc (parts e).a i && (ok sc a (parts e).b && noSlice (ex T a (parts e).b))
  | .accLen i, e => okG T sc e (.blt 0) && okAcc sc (hd1 (parts e).xs) i
noncomputable def oks (sc : SC) : MEs → List Expr → Bool
  | .nil, _ => true
  | .cons e r, xs => (ok sc e (hd1 xs) && noStar (ex T e (hd1 xs))) && oks sc r xs.tail
noncomputable def okC (sc : SC) : MCs → List Expr → Bool
  | .one _ e, xs => ok sc e (hd1 xs) && noSet (ex T e (hd1 xs))
  | .cons _ e r, xs => ok sc e (hd1 xs) && (noSet (ex T e (hd1 xs)) && okC sc r xs.tail)
noncomputable def okT (sc : SC) : MT → Expr → Bool
  | .e a, e => ok sc a e && plainTest (ex T a e)
  | .cmp a c, e => ok sc a (parts e).a && okC sc c (parts e).xs
  | .isNone a, e => ok sc a (parts e).a
  | .notNone a, e => ok sc a (parts e).a
  | .not t, e => okT sc t (parts e).a
  | .and ts, e => okTs sc ts (parts e).xs
  | .or ts, e => okTs sc ts (parts e).xs
  | .acc i, e => okAcc sc e i
noncomputable def okTs (sc : SC) : MTs → List Expr → Bool
  | .nil, _ => true
  | .cons e r, xs => okT sc e (hd1 xs) && okTs sc r xs.tail
noncomputable def okI (sc : SC) : MI → Expr → Bool
  | .range1 a, e => okG T sc e (.blt 5) && (ok sc a (hd1 (parts e).xs) && noStar (ex T a (hd1 (parts e).xs)))
  | .range2 a b, e => okG T sc e (.blt 5) && ((ok sc a (hd1 (parts e).xs) && noStar (ex T a (hd1 (parts e).xs))) && (ok sc b (hd1 (parts e).xs.tail) && noStar (ex T b (hd1 (parts e).xs.tail))))
  | .sorted a, e => okG T sc e (.blt 6) && (ok sc a (hd1 (parts e).xs) && noStar (ex T a (hd1 (parts e).xs)))
  | .over a, e => ok sc a e && noSet (ex T a e)
end
end
end Mini
end
noncomputable section
namespace Mini
open PySem PySem.W PySem.Calls PyProof.Rows
noncomputable def Slot (env : Env) (Mu : MU) (x : Str) (r : Value) : Prop :=
  (env.kindOf x = some .local ∧ ∃ m, Mu env.locals = some (.fr m) ∧ m x = some r) ∨
  ((env.kindOf x = some .cell ∨ env.kindOf x = some .free) ∧ ∃ a, env.cells.lookup x = some a ∧ Mu a = some (.ce (some r)))
structure EnvOk (env : Env) (sc : SC) : Prop where
  names : env.scope.names = sc.names
  kind : env.scope.kind = .function
  glob : env.globals = mainGlobals
  blt : env.builtins = builtinsNs
  cls : env.kindOf "__classdict__" ≠ some .free
theorem EnvOk.k {env : Env} {sc : SC} (E : EnvOk env sc) (x : Str) : env.kindOf x = sc.names.lookup x := congrArg (List.lookup x) E.names
section
variable (Y : Sys)
noncomputable def LVR (c : Cf) (r : Value) : LV → Prop
  | .un => True
  | .val v => VR Y c.Z c.φ v r
  | .acc l => ∃ a vs n, r = .ref a ∧ c.Mu a = some (.ex (listOf vs.toArray n)) ∧ VRs Y c.Z c.φ l vs ∧ l.length ≤ 2000
noncomputable def LocR (env : Env) (sc : SC) (loc : Loc) (c : Cf) : Prop :=
  ∀ x i, sc.slot x = some i → lget loc i ≠ .un → ∃ r, Slot env c.Mu x r ∧ LVR Y c r (lget loc i)
noncomputable def FramesOk (c : Cf) (l : List Env) : Prop := ∀ env ∈ l, env.scope.kind ≠ .module ∧ ∃ L m, env.frame = some L ∧ c.Mu L = some (.fr m)
structure Holds (B : Heap) (c : Cf) : Prop where
  z : ∀ a o, c.Z a = some o → B.get? a = some o
  m : ∀ a x, c.Mu a = some x → (∀ m, x ≠ .fr m) → x.at B a
structure Flown (c : Cf) (l : List Env) (e : Value) (k : Nat) (a C : Addr) (B : Heap) (a0 : Value) : Prop where
  e : e = .ref a
  cls : Y.T.eadr[k]? = some C
  fl : Heap.FlyingW B l a (.ref C) a0 c.s.heap
  holds : Holds B c
end
section
variable {Y : Sys}
theorem Slot.step {env : Env} {c c' : Cf} {x : Str} {r : Value} (s : Step c c') : Slot env c.Mu x r → Slot env c'.Mu x r
  | .inl ⟨k, m, e, q⟩ => .inl ⟨k, m, s.keep rfl e, q⟩
  | .inr ⟨k, a, e, q⟩ => .inr ⟨k, a, e, s.keep rfl q⟩
theorem LVR.step {c c' : Cf} {r : Value} (s : Step c c') : ∀ {l : LV}, LVR Y c r l → LVR Y c' r l
  | .un, _ => trivial
  | .val v, h => VR.mono s.z s.p v h
  | .acc _, ⟨a, vs, n, e, q, v, z⟩ => ⟨a, vs, n, e, s.keep rfl q, VRs.mono s.z s.p _ v, z⟩
theorem LocR.step {env : Env} {sc : SC} {loc : Loc} {c c' : Cf} (s : Step c c') (h : LocR Y env sc loc c) : LocR Y env sc loc c' :=
  fun x i e n => let ⟨r, a, b⟩ := h x i e n; ⟨r, a.step s, b.step s⟩
theorem FramesOk.step {c c' : Cf} {l : List Env} (s : Step c c') (h : FramesOk c l) : FramesOk c' l :=
  fun env he => let ⟨k, L, m, f, e⟩ := h env he; ⟨k, L, m, f, s.keep rfl e⟩
end
structure Go {α β : Type} (Y : Sys) (l : List Env) (R : Cf → α → β → Prop) (r : RS β) (c : Cf) (Q : α → Shared → Prop) (E : Value → Shared → Prop) : Prop where
  nb : r ≠ .bad
  ok : ∀ c' v b, c'.Ok Y → Step c c' → r = .ok b c'.H → R c' v b → Q v c'.s
  ex : ∀ c' k e a C B a0, c'.Ok Y → Step c c' → r = .ex k c'.H → Flown Y c' l e k a C B a0 → E e c'.s
noncomputable def Wk {α β : Type} (Y : Sys) (A : Around) (l : List Env) (m : Sem α) (R : Cf → α → β → Prop) (r : RS β) (c : Cf) : Prop :=
  ∀ Q E, Go Y l R r c Q E → wpAny Y.M A m Q E c.s
section
variable {Y : Sys} {A : Around} {l : List Env} {α β γ δ : Type}
section
variable {R : Cf → α → β → Prop} {R' : Cf → γ → δ → Prop} {r : RS β} {f : β → MH → RS δ} {c : Cf} {Q : α → Shared → Prop} {Q' : γ → Shared → Prop} {E : Value → Shared → Prop}
theorem Go.next (g : Go Y l R' (r.bind f) c Q' E) {c' : Cf} (s : Step c c') {b : β} (e : r = .ok b c'.H) : Go Y l R' (f b c'.H) c' Q' E :=
  have q : r.bind f = f b c'.H := e ▸ rfl
  ⟨q ▸ g.nb, fun c₂ v w k t z => g.ok c₂ v w k (s.trans t) (q.trans z), fun c₂ k e' a C B a0 o t z => g.ex c₂ k e' a C B a0 o (s.trans t) (q.trans z)⟩
theorem Wk.seq {m : Sem α} (h : Wk Y A l m R r c) (g : Go Y l R' (r.bind f) c Q' E)
    (k : ∀ c' v b, c'.Ok Y → Step c c' → R c' v b → Go Y l R' (f b c'.H) c' Q' E → Q v c'.s) : wpAny Y.M A m Q E c.s :=
  h Q E ⟨fun e => g.nb (e ▸ rfl), fun c' v b o s e q => k c' v b o s q (g.next s e), fun c' k' e' a C B a0 o s e fl => g.ex c' k' e' a C B a0 o s (e ▸ rfl) fl⟩
theorem Go.opt {ω : Type} {o : Option ω} {f : ω → RS β} (g : Go Y l R (opt o f) c Q E) : ∃ a, o = some a ∧ Go Y l R (f a) c Q E := match o, g with
  | some a, g => ⟨a, rfl, g⟩
  | none, g => absurd rfl g.nb
theorem Go.here {b : β} {v : α} (g : Go Y l R (.ok b c.H) c Q E) (k : c.Ok Y) (h : R c v b) : Q v c.s := g.ok c v b k (Step.refl c) rfl h
end
section
variable {c : Cf} {Q : Value → Shared → Prop} {E : Value → Shared → Prop} {m : MV}
theorem Go.tok (g : Go Y l (VRc Y) (.ok m c.H) c Q E) (k : c.Ok Y) {v : Value} (n : Nat) (h : VR Y c.Z c.φ m v) : Q v { c.s with toks := n } :=
  g.ok (c.heap c.s.heap n) v m (k.heap n fun _ _ e => e) (Step.heap c _ n) rfl h
theorem Go.heap (g : Go Y l (VRc Y) (.ok m c.H) c Q E) (k : c.Ok Y) {v : Value} {h : Heap} (n : Nat) (e : ∀ b o, c.s.heap.get? b = some o → h.get? b = some o) (hv : VR Y c.Z c.φ m v) : Q v { c.s with heap := h, toks := n } :=
  g.ok (c.heap h n) v m (k.heap n e) (Step.heap c _ n) rfl hv
theorem Go.list {ms : List MV} (g : Go Y l (VRc Y) (.ok (.list ms) c.H) c Q E) (k : c.Ok Y) {h : Heap} {a : Addr} {vs : List Value} {n : Nat} (t : Nat) (ha : h.get? a = some (listOf vs.toArray n)) (f : c.Z a = none ∧ c.Mu a = none)
    (e : ∀ b o, b ≠ a → c.s.heap.get? b = some o → h.get? b = some o) (hv : VRs Y c.Z c.φ ms vs) (hl : ms.length ≤ 10000000) : Q (.ref a) { c.s with heap := h, toks := t } :=
  g.ok (c.setZ a (listOf vs.toArray n) h t) _ _ (k.setZ t (un_free f) e ha) ((Step.refl c).setZ f.2 f.1) rfl ⟨a, vs, n, rfl, upd_self .., VRs.mono (ZLe.upd f.1) PLe.refl _ hv, hl⟩
theorem Go.tup {ms : List MV} (g : Go Y l (VRc Y) (.ok (.tup ms) c.H) c Q E) (k : c.Ok Y) {h : Heap} {a : Addr} {vs : List Value} (t : Nat) (ha : h.get? a = some (tupOf vs.toArray)) (f : c.Z a = none ∧ c.Mu a = none)
    (e : ∀ b o, b ≠ a → c.s.heap.get? b = some o → h.get? b = some o) (hv : VRs Y c.Z c.φ ms vs) (hl : ms.length ≤ 10000000) : Q (.ref a) { c.s with heap := h, toks := t } :=
  g.ok (c.setZ a (tupOf vs.toArray) h t) _ _ (k.setZ t (un_free f) e ha) ((Step.refl c).setZ f.2 f.1) rfl ⟨a, vs, rfl, upd_self .., VRs.mono (ZLe.upd f.1) PLe.refl _ hv, hl⟩
end
theorem of_bind {ω σ : Type} {o : Option ω} {f : ω → Option σ} {r : σ} : o.bind f = some r → ∃ a, o = some a ∧ f a = some r := Option.bind_eq_some_iff.mp
theorem of_or {ω : Type} {x y : Option ω} {r : ω} (h : x.or y = some r) : x = some r ∨ y = some r := match x, h with
  | some _, h => .inl h
  | none, h => .inr h
theorem of_guard {ω : Type} {b : Bool} {v r : ω} (h : guardO b v = some r) : b = true ∧ v = r := match b, h with
  | true, h => ⟨rfl, Option.some.inj h⟩
theorem MV.none_of {v : MV} {u : Unit} (h : v.none? = some u) : v = .none := by cases v <;> first | rfl | cases h
theorem MV.bool_of {v : MV} {i : Bool} (h : v.bool? = some i) : v = .bool i := by cases v <;> first | cases h; rfl | cases h
theorem MV.int_of {v : MV} {i : Int} (h : v.int? = some i) : v = .int i := by cases v <;> first | cases h; rfl | cases h
theorem MV.bytes_of {v : MV} {i : List Nat} (h : v.bytes? = some i) : v = .bytes i := by cases v <;> first | cases h; rfl | cases h
theorem MV.tup_of {v : MV} {i : List MV} (h : v.tup? = some i) : v = .tup i := by cases v <;> first | cases h; rfl | cases h
theorem MV.list_of {v : MV} {i : List MV} (h : v.list? = some i) : v = .list i := by cases v <;> first | cases h; rfl | cases h
theorem MV.inst_of {v : MV} {p : Nat × List MV} (h : v.inst? = some p) : v = .inst p.1 p.2 := by cases v <;> first | cases h; rfl | cases h
theorem MV.obj_of {v : MV} {i : Nat} (h : v.obj? = some i) : v = .obj i := by cases v <;> first | cases h; rfl | cases h
theorem LV.val_of {v : LV} {x : MV} (h : v.val? = some x) : v = .val x := by cases v <;> first | cases h; rfl | cases h
theorem LV.acc_of {v : LV} {x : List MV} (h : v.acc? = some x) : v = .acc x := by cases v <;> first | cases h; rfl | cases h
theorem intz_of {ω : Type} {v w : MV} {f : Int → Int → Option ω} {r : ω} (h : intz v w f = some r) : ∃ a b, v = .int a ∧ w = .int b ∧ f a b = some r :=
  let ⟨a, e, h⟩ := of_bind h; let ⟨b, e', h⟩ := of_bind h; ⟨a, b, MV.int_of e, MV.int_of e', h⟩
theorem listz_of {ω : Type} {v w : MV} {f : List MV → List MV → Option ω} {r : ω} (h : listz v w f = some r) : ∃ a b, v = .list a ∧ w = .list b ∧ f a b = some r :=
  let ⟨a, e, h⟩ := of_bind h; let ⟨b, e', h⟩ := of_bind h; ⟨a, b, MV.list_of e, MV.list_of e', h⟩
theorem and_l {a b : Bool} (h : (a && b) = true) : a = true := (Bool.and_eq_true_iff.mp h).1
theorem and_r {a b : Bool} (h : (a && b) = true) : b = true := (Bool.and_eq_true_iff.mp h).2
theorem not_t {a : Bool} (h : (!a) = true) : a = false := by cases a <;> first | rfl | cases h
theorem wp_var {env : Env} {sc : SC} {c : Cf} {x : Str} {r : Value} {E : Value → Shared → Prop} {Q : Value → Shared → Prop} (V : EnvOk env sc)
    (k : c.Ok Y) (hs : Slot env c.Mu x r) (h : Q r c.s) : wpAny Y.M A (loadName env x) Q E c.s := match hs with
  | .inl ⟨kd, _, e, q⟩ => wpAny_loadName_local V.kind kd (k.ns e) q h
  | .inr ⟨.inl kd, _, e, q⟩ => wpAny_loadName_cell V.kind kd e (k.inv.m _ _ q) h
  | .inr ⟨.inr kd, _, e, q⟩ => wpAny_loadName_free V.kind kd e (k.inv.m _ _ q) h (beq_eq_false_iff_ne.mpr fun q => V.cls (q ▸ kd))
theorem slot_dbg {sc : SC} {x : Str} {i : Nat} (h : sc.slot x = some i) : (x == dbg) = false := by
  unfold SC.slot at h
  cases q : (x == dbg) with
  | false => rfl
  | true => rw [q, Bool.not_true, Bool.and_false] at h; cases h
theorem eval_slot {env : Env} {sc : SC} {loc : Loc} {c : Cf} {x : Str} {pos : Pos} {i : Nat} {lv : LV} {E : Value → Shared → Prop} {Q : Value → Shared → Prop} (V : EnvOk env sc) (k : c.Ok Y) (L : LocR Y env sc loc c) (hs : sc.slot x = some i)
    (q : lget loc i = lv) (n : lv ≠ .un) (h : ∀ r, Slot env c.Mu x r → LVR Y c r lv → Q r c.s) : wpAny Y.M A (eval (.Name x pos) env) Q E c.s :=
  let ⟨r, a, b⟩ := L x i hs (q ▸ n)
  wpAny_Name (wp_var V k a (h r a (q ▸ b))) (slot_dbg hs)
theorem gOk_of {T : Tie} {sc : SC} {x : Str} {g : GV} (h : gOk T sc x g = true) : sc.names.lookup x = some .globalImplicit ∧ T.gl.lookup x = some g ∧ (x == dbg) = false :=
  ⟨beq_iff_eq.mp (and_l (and_l h)), beq_iff_eq.mp (and_r (and_l h)), not_t (and_r h)⟩
theorem eval_glob {env : Env} {sc : SC} {c : Cf} {x : Str} {pos : Pos} {v : Value} {g : GV} {E : Value → Shared → Prop} {Q : Value → Shared → Prop} (V : EnvOk env sc) (k : c.Ok Y)
    (hg : gOk Y.T sc x g = true) (e : nsIn Y.T.K mainGlobals x = some (some v)) (h : Q v c.s) : wpAny Y.M A (eval (.Name x pos) env) Q E c.s := by
  obtain ⟨mg, mb, hm, _⟩ := Y.X.ng
  refine wpAny_Name ?_ (gOk_of hg).2.2
  rw [loadName_read V.kind ((V.k x).trans (gOk_of hg).1)]
  exact loadGlobal_global (V.glob ▸ hm.keeps k.stays) (mg_of Y.X.kin hm e) h
theorem glob_fn {env : Env} {sc : SC} {c : Cf} {x : Str} {pos : Pos} {f : Nat} {E : Value → Shared → Prop} {Q : Value → Shared → Prop} (V : EnvOk env sc) (k : c.Ok Y) (hg : gOk Y.T sc x (.fn f) = true)
    (h : ∀ a, flook f Y.T.fadr = some a → keepIn Y.T.K (.ref a) = true → Q (.ref a) c.s) : wpAny Y.M A (eval (.Name x pos) env) Q E c.s :=
  let ⟨a, e1, e2, e3⟩ := Y.X.fn x f (gOk_of hg).2.1
  eval_glob V k hg e2 (h a e1 e3)
theorem glob_cls {env : Env} {sc : SC} {c : Cf} {x : Str} {pos : Pos} {f : Nat} {E : Value → Shared → Prop} {Q : Value → Shared → Prop} (V : EnvOk env sc) (k : c.Ok Y) (hg : gOk Y.T sc x (.cls f) = true)
    (h : ∀ a, Y.T.cadr[f]? = some a → keepIn Y.T.K (.ref a) = true → Q (.ref a) c.s) : wpAny Y.M A (eval (.Name x pos) env) Q E c.s :=
  let ⟨a, e1, e2, e3⟩ := Y.X.cls x f (gOk_of hg).2.1
  eval_glob V k hg e2 (h a e1 e3)
theorem glob_exc {env : Env} {sc : SC} {c : Cf} {x : Str} {pos : Pos} {f : Nat} {E : Value → Shared → Prop} {Q : Value → Shared → Prop} (V : EnvOk env sc) (k : c.Ok Y) (hg : gOk Y.T sc x (.exc f) = true)
    (h : ∀ a, Y.T.eadr[f]? = some a → Q (.ref a) c.s) : wpAny Y.M A (eval (.Name x pos) env) Q E c.s :=
  let ⟨a, e1, e2⟩ := Y.X.exc x f (gOk_of hg).2.1
  eval_glob V k hg e2 (h a e1)
theorem glob_int {env : Env} {sc : SC} {c : Cf} {x : Str} {pos : Pos} {f : Nat} {i : Int} {E : Value → Shared → Prop} {Q : Value → Shared → Prop} (V : EnvOk env sc) (k : c.Ok Y) (hg : gOk Y.T sc x (.gint f i) = true)
    (h : ∀ t, Q (.int i t) c.s) : wpAny Y.M A (eval (.Name x pos) env) Q E c.s :=
  let ⟨t, e⟩ := Y.X.gint x f i (gOk_of hg).2.1
  eval_glob V k hg e (h t)
theorem glob_blt {env : Env} {sc : SC} {c : Cf} {x : Str} {pos : Pos} {b : Nat} {E : Value → Shared → Prop} {Q : Value → Shared → Prop} (V : EnvOk env sc) (k : c.Ok Y) (hg : gOk Y.T sc x (.blt b) = true)
    (h : Q (bltV b) c.s) : wpAny Y.M A (eval (.Name x pos) env) Q E c.s := by
  obtain ⟨mg, mb, hm, hb, hm'⟩ := Y.X.ng
  obtain ⟨hn, e, hv⟩ := Y.X.blt x b (gOk_of hg).2.1
  refine wpAny_Name ?_ (gOk_of hg).2.2
  rw [loadName_read V.kind ((V.k x).trans (gOk_of hg).1)]
  exact loadGlobal_builtin (V.glob ▸ hm.keeps k.stays) (mg_none_of Y.X.kin hm e) (V.blt ▸ hb.keeps k.stays) ((hm' x hn).trans hv) h
end
noncomputable def full (as : List Addr) (h : Heap) : List (Addr × Obj) := (List.range h.objs.size).filterMap fun a => if a ∈ as then none else (h.get? a).map fun o => (a, o)
theorem mem_full {as : List Addr} {h : Heap} {a : Addr} {o : Obj} (n : a ∉ as) (e : h.get? a = some o) : (a, o) ∈ full as h :=
  List.mem_filterMap.mpr ⟨a, List.mem_range.mpr (Heap.lt_size e), by rw [if_neg n, e]; rfl⟩
theorem of_full {as : List Addr} {h : Heap} {p : Addr × Obj} (m : p ∈ full as h) : p.1 ∉ as ∧ h.get? p.1 = some p.2 := by
  obtain ⟨a, _, e⟩ := List.mem_filterMap.mp m
  by_cases n : a ∈ as
  · rw [if_pos n] at e; cases e
  · rw [if_neg n] at e
    obtain ⟨o, q, rfl⟩ := Option.map_eq_some_iff.mp e
    exact ⟨n, q⟩
noncomputable def noHeap : Heap := {}
theorem noHeap_get (a : Addr) : noHeap.get? a = none := by
  unfold noHeap Heap.get?; simp
theorem fr_of {h : Heap} {L : Addr} {m : Str → Option Value} (x : h.Ns L m) : Fr noHeap L h m :=
  ⟨x, fun b o e => (nomatch (noHeap_get b).symm.trans e), Nat.zero_le _⟩
theorem news_full {as : List Addr} {h : Heap} {L : Addr} (m : L ∈ as) : News noHeap L h (full as h) := fun p hp =>
  ⟨(of_full hp).2, fun e => (of_full hp).1 (e ▸ m), noHeap_get _⟩
section
variable {Y : Sys} {c : Cf}
theorem Cf.Ok.fr (k : c.Ok Y) {L : Addr} {m} (e : c.Mu L = some (.fr m)) : Fr noHeap L c.s.heap m := fr_of (k.ns e)
theorem Cf.Ok.news (_k : c.Ok Y) (L : Addr) : News noHeap L c.s.heap (full [L] c.s.heap) := news_full (.head _)
theorem led_get {h h' : Heap} {L : Addr} {news : List (Addr × Obj)} (N : News noHeap L h' news) (sub : ∀ p ∈ full [L] h, p ∈ news) : Heap.ExtBut L h h' :=
  fun _ _ n e => (N _ (sub _ (mem_full (fun q => n (List.mem_singleton.mp q)) e))).1
theorem Inv.led {Z : ZM} {Mu : MU} {h h' : Heap} {L : Addr} {m : Str → Option Value} (I : Inv Z Mu h) (hL : Mu L = some (.fr m)) (n : h'.Ns L m) (e : Heap.ExtBut L h h') : Inv Z Mu h' where
  z a o q := e a o (ne_none (I.d L _ hL) q) (I.z a o q)
  m a x q := if p : a = L then by subst p; rw [hL] at q; cases q; exact at_fr n else MC.at_to (e a · p) (I.m a x q)
  d := I.d
theorem Cf.Ok.led (k : c.Ok Y) {L : Addr} {m} (hL : c.Mu L = some (.fr m)) {h' : Heap} (tk : Nat) (n : h'.Ns L m) (e : Heap.ExtBut L c.s.heap h') : (c.heap h' tk).Ok Y := ⟨k.inv.led hL n e, k.hr, k.base⟩
theorem Go.led {l : List Env} {Q : Value → Shared → Prop} {E : Value → Shared → Prop} {m : MV} (g : Go Y l (VRc Y) (.ok m c.H) c Q E) (k : c.Ok Y) {L : Addr} {fm} (hL : c.Mu L = some (.fr fm)) {h' : Heap} (tk : Nat) (n : h'.Ns L fm) (e : Heap.ExtBut L c.s.heap h') {v : Value} (hv : VR Y c.Z c.φ m v) : Q v { c.s with heap := h', toks := tk } :=
  g.ok (c.heap h' tk) v m (k.led hL tk n e) (Step.heap c _ tk) rfl hv
theorem Cf.Ok.ledZ' (k : c.Ok Y) {L : Addr} {fm} (hL : c.Mu L = some (.fr fm)) {h' : Heap} {a : Addr} {o : Obj} (tk : Nat) (n : h'.Ns L fm) (e : Heap.ExtBut L c.s.heap h') (ha : h'.get? a = some o) (f : c.Z a = none ∧ c.Mu a = none) : (c.setZ a o h' tk).Ok Y ∧ Step c (c.setZ a o h' tk) :=
  ⟨(k.led hL tk n e).setZ tk (un_free f) (fun _ _ _ e => e) ha, (Step.refl c).setZ f.2 f.1⟩
theorem Cf.Ok.ledZ (k : c.Ok Y) {L : Addr} {fm} (hL : c.Mu L = some (.fr fm)) {h' : Heap} {a : Addr} {o : Obj} (tk : Nat) (n : h'.Ns L fm) (e : Heap.ExtBut L c.s.heap h') (ha : h'.get? a = some o) (hn : c.s.heap.objs.size ≤ a) : (c.setZ a o h' tk).Ok Y ∧ Step c (c.setZ a o h' tk) :=
  k.ledZ' hL tk n e ha (k.free hn)
theorem Go.ledL {l : List Env} {Q : Value → Shared → Prop} {E : Value → Shared → Prop} {ms : List MV} (g : Go Y l (VRc Y) (.ok (.list ms) c.H) c Q E) (k : c.Ok Y) {L : Addr} {fm} (hL : c.Mu L = some (.fr fm)) {h' : Heap} {a : Addr} {vs : List Value} {z : Nat} (tk : Nat) (n : h'.Ns L fm) (e : Heap.ExtBut L c.s.heap h')
    (ha : h'.get? a = some (listOf vs.toArray z)) (hn : c.s.heap.objs.size ≤ a) (hv : VRs Y c.Z c.φ ms vs) (hl : ms.length ≤ 10000000) : Q (.ref a) { c.s with heap := h', toks := tk } :=
  have p := k.ledZ hL tk n e ha hn
  g.ok _ _ _ p.1 p.2 rfl ⟨a, vs, z, rfl, upd_self .., VRs.mono p.2.z PLe.refl _ hv, hl⟩
end
end Mini
end
noncomputable section
namespace Mini
open PySem PySem.W PySem.Calls PyProof.Rows
theorem line_ok {n : Nat} (h : n ≤ 10000000) : n ≤ sizeLine := Nat.le_trans h (by decide)
theorem line_k {n : Nat} (h : n ≤ 1000) : n ≤ sizeLine := Nat.le_trans h (by decide)
theorem ten_k {n : Nat} (h : n ≤ 1000) : n ≤ 10000000 := Nat.le_trans h (by decide)
theorem len_flat {α : Type} (x : List α) : ∀ n, ((List.replicate n x).flatten).length = n * x.length
  | 0 => (Nat.zero_mul _).symm
  | n + 1 => by rw [List.replicate_succ, List.flatten_cons, List.length_append, len_flat x n, Nat.succ_mul, Nat.add_comm]
theorem flat_rep {α β : Type} (f : α → β) (x : List α) : ∀ n, (List.replicate n (x.map f)).flatten = ((List.replicate n x).flatten).map f
  | 0 => rfl
  | n + 1 => by rw [List.replicate_succ, List.flatten_cons, flat_rep f x n, List.replicate_succ, List.flatten_cons, List.map_append]
theorem foldl_one (v : Value) : ∀ (n : Nat) (l : List Value), List.foldl (fun x1 x2 => x1 ++ x2) l.toArray (List.replicate n #[v]) = (l ++ List.replicate n v).toArray
  | 0, l => by rw [List.replicate_zero, List.replicate_zero, List.append_nil]; rfl
  | n + 1, l => by
    rw [List.replicate_succ, List.foldl_cons, show l.toArray ++ #[v] = (l ++ [v]).toArray from List.append_toArray .., foldl_one v n, List.append_assoc]; rfl
theorem toNat_k {k : Int} (h : k ≤ 1000) : k.toNat ≤ 1000 := Int.toNat_le.mpr h
section
variable {Y : Sys} {A : Around} {l : List Env} {c : Cf} {Q : Value → Shared → Prop} {E : Value → Shared → Prop}
theorem Cf.Ok.isList (k : c.Ok Y) {a : Addr} {vs : Array Value} {n : Nat} (e : c.Z a = some (listOf vs n)) : c.s.heap.IsList a vs := ⟨_, k.inv.z _ _ e, rfl, n, rfl⟩
theorem Cf.Ok.isListM (k : c.Ok Y) {a : Addr} {vs : Array Value} {n : Nat} (e : c.Mu a = some (.ex (listOf vs n))) : c.s.heap.IsList a vs := ⟨_, ex_at (k.inv.m _ _ e), rfl, n, rfl⟩
theorem Cf.Ok.isTup (k : c.Ok Y) {a : Addr} {vs : Array Value} (e : c.Z a = some (tupOf vs)) : c.s.heap.IsTuple a vs := ⟨_, k.inv.z _ _ e, rfl, 0, rfl⟩
variable {L : Addr} {fm : Str → Option Value} {a b : Value} {m n r : MV}
theorem wp_add (k : c.Ok Y) (hL : c.Mu L = some (.fr fm)) (ha : VR Y c.Z c.φ m a) (hb : VR Y c.Z c.φ n b) (e : addV m n = some r) (g : Go Y l (VRc Y) (.ok r c.H) c Q E) : wpAny Y.M A (binaryOp .Add a b) Q E c.s := by
  rcases of_or e with e | e
  · obtain ⟨i, j, rfl, rfl, q⟩ := intz_of e
    obtain ⟨t, rfl⟩ := ha; obtain ⟨u, rfl⟩ := hb; cases q
    exact add_int (g.tok k _ ⟨_, rfl⟩)
  · obtain ⟨x, y, rfl, rfl, q⟩ := listz_of e
    obtain ⟨p, rfl⟩ := of_guard q
    obtain ⟨_, vs, _, rfl, ea, va, _⟩ := ha; obtain ⟨_, ws, _, rfl, eb, vb, _⟩ := hb
    have hz : (x ++ y).length ≤ 1000 := by rw [List.length_append]; exact of_decide_eq_true p
    refine add_arrays (k.fr hL) (k.news L) (k.isList ea) (k.isList eb) (fun h' F' N' => g.ledL (z := 0) k hL _ F'.ns (led_get N' fun p hp => .tail _ hp) (N' _ (.head _)).1 (Nat.le_refl _) (va.append vb) (ten_k hz)) ?_
    have := (va.append vb).length
    rw [List.length_append] at this
    exact line_k (this ▸ hz)
theorem wp_mul (k : c.Ok Y) (hL : c.Mu L = some (.fr fm)) (ha : VR Y c.Z c.φ m a) (hb : VR Y c.Z c.φ n b) (e : mulV m n = some r) (g : Go Y l (VRc Y) (.ok r c.H) c Q E) : wpAny Y.M A (binaryOp .Mult a b) Q E c.s := by
  rcases of_or e with e | e
  · obtain ⟨i, j, rfl, rfl, q⟩ := intz_of e
    obtain ⟨p, rfl⟩ := of_guard q
    obtain ⟨t, rfl⟩ := ha; obtain ⟨u, rfl⟩ := hb
    have := of_decide_eq_true p
    exact mul_int (g.tok k _ ⟨_, rfl⟩) (IntMulOk.of_left (intBits_le_64 (by omega) (by omega)))
  · obtain ⟨j, q, e⟩ := of_bind e
    cases MV.int_of q
    obtain ⟨u, rfl⟩ := hb
    rcases of_or e with e | e
    · obtain ⟨x, q, e⟩ := of_bind e
      cases MV.bytes_of q
      obtain ⟨t, rfl, hlt, _⟩ := ha
      obtain ⟨p, rfl⟩ := of_guard e
      obtain ⟨h0, h1, h2⟩ := of_decide_eq_true p
      refine bytes_mul_any (b := x.map UInt8.ofNat) (fun q => ?_) (Int.le_trans (by decide) h0) (Int.le_trans h1 (by decide)) (by rw [List.length_map, h2]; decide) fun t' k' => ?_
      · rw [List.map_eq_nil_iff.mp q] at h2; cases h2
      · rw [flat_rep]
        refine g.tok k _ ⟨t', rfl, fun z hz => ?_, ?_⟩
        · obtain ⟨y, hy, hz⟩ := List.mem_flatten.mp hz
          exact hlt z (List.eq_of_mem_replicate hy ▸ hz)
        · rw [len_flat, h2, Nat.mul_one]; exact ten_k (toNat_k h1)
    · obtain ⟨x, q, e₁⟩ := of_bind e
      cases MV.list_of q
      unfold mulL at e₁
      by_cases h2 : x.length = 1
      · obtain ⟨y, rfl⟩ := List.length_eq_one_iff.mp h2
        rw [if_pos h2] at e₁
        obtain ⟨p, rfl⟩ := of_guard e₁
        obtain ⟨h0, h1⟩ := of_decide_eq_true p
        obtain ⟨_, _, _, rfl, ea, ⟨v, _, rfl, hv, rfl⟩, _⟩ := ha
        refine mul_list (k.fr hL) (k.news L) (k.inv.z _ _ ea) (Int.le_trans (by decide) h0) (Int.lt_of_le_of_lt h1 (by decide)) (by show 1 * _ ≤ _; rw [Nat.one_mul]; exact Nat.le_trans (toNat_k h1) (by decide)) fun h' F' N' => ?_
        refine g.ledL (z := 0) (vs := List.replicate j.toNat v) k hL _ F'.ns (led_get N' fun p hp => .tail _ hp) ((N' _ (.head _)).1.trans ?_) (Nat.le_refl _) (VRs.replicate hv _) (by rw [List.length_replicate]; exact ten_k (toNat_k h1))
        exact congrArg (fun z => some (listOf z 0)) (foldl_one v j.toNat [])
      · rw [if_neg h2] at e₁; cases e₁
theorem wp_binop {o : Op} (k : c.Ok Y) (hL : c.Mu L = some (.fr fm)) (ha : VR Y c.Z c.φ m a) (hb : VR Y c.Z c.φ n b) (e : binop o m n = some r) (g : Go Y l (VRc Y) (.ok r c.H) c Q E) : wpAny Y.M A (binaryOp (realOp o) a b) Q E c.s := by
  cases o with
  | add => exact wp_add k hL ha hb e g
  | mul => exact wp_mul k hL ha hb e g
  | sub =>
    obtain ⟨i, j, rfl, rfl, q⟩ := intz_of e
    obtain ⟨t, rfl⟩ := ha; obtain ⟨u, rfl⟩ := hb; cases q
    exact sub_int (g.tok k _ ⟨_, rfl⟩)
  | fdiv =>
    obtain ⟨i, j, rfl, rfl, q⟩ := intz_of e
    obtain ⟨p, rfl⟩ := of_guard q
    obtain ⟨t, rfl⟩ := ha; obtain ⟨u, rfl⟩ := hb
    obtain ⟨h0, h1⟩ := of_decide_eq_true p
    exact floordiv_int h0 (g.tok k _ ⟨_, rfl⟩) (Or.inl (PyProof.noPylong_small (by omega)))
  | mod =>
    obtain ⟨i, j, rfl, rfl, q⟩ := intz_of e
    obtain ⟨p, rfl⟩ := of_guard q
    obtain ⟨t, rfl⟩ := ha; obtain ⟨u, rfl⟩ := hb
    exact mod_int' (of_decide_eq_true p) (g.tok k _ ⟨_, rfl⟩)
end
theorem any_some {α : Type} {o : Option α} {p : α → Bool} (h : o.any p = true) : ∃ a, o = some a ∧ p a = true := match o, h with | some a, h => ⟨a, rfl, h⟩
mutual
theorem eqv_eq : ∀ (a : MV) {b : MV}, eqv a b = true → a = b
  | .none, _, h => by obtain ⟨_, e⟩ := Option.isSome_iff_exists.mp h; exact (MV.none_of e).symm
  | .bool x, _, h => by obtain ⟨y, e, q⟩ := any_some h; rw [MV.bool_of e, beq_iff_eq.mp q]
  | .int x, _, h => by obtain ⟨y, e, q⟩ := any_some h; rw [MV.int_of e, of_decide_eq_true q]
  | .bytes x, _, h => by obtain ⟨y, e, q⟩ := any_some h; rw [MV.bytes_of e, beq_iff_eq.mp q]
  | .tup x, _, h => by obtain ⟨y, e, q⟩ := any_some h; rw [MV.tup_of e, eqvs_eq x q]
  | .list x, _, h => by obtain ⟨y, e, q⟩ := any_some h; rw [MV.list_of e, eqvs_eq x q]
  | .inst _ _, _, h => nomatch h
  | .obj _, _, h => nomatch h
theorem eqvs_eq : ∀ (a : List MV) {b : List MV}, eqvs a b = true → a = b
  | [], _, h => (List.isEmpty_iff.mp h).symm
  | x :: xs, b, h => by
    obtain ⟨y, e, q⟩ := any_some (and_l h)
    cases b with
    | nil => cases e
    | cons z zs => cases e; rw [eqv_eq x q, eqvs_eq xs (and_r h)]; rfl
end
end Mini
end
noncomputable section
namespace Mini
open PySem PySem.W PySem.Calls PyProof.Rows PySem.SeqAt
theorem rc_bytes (A : Around) (s : Shared) (b : Array UInt8) (t u : Tok) : RcAt A s (.bytes b t) (.bytes b u) true := fun prog w E Q h =>
  eq_bytes (b := b) (c := b) (by simpa using h)
theorem rcNe_bytes (A : Around) (s : Shared) (b : Array UInt8) (t u : Tok) : RcNeAt A s (.bytes b t) (.bytes b u) false := fun prog w E Q h =>
  ne_bytes (b := b) (c := b) (by simpa using h)
theorem eq_bytesAt (A : Around) (s : Shared) (b : Array UInt8) (t u : Tok) : EqAt A s (.bytes b t) (.bytes b u) true := fun prog w E Q hq => by
  unfold eqBool
  refine wpAny_holding ?_
  refine wpAny_ite_split (fun _ => ?_) (fun _ => ?_)
  · exact wpAny_bind (wpAny_rule (wpAny_pure hq))
  · exact wpAny_bind (rc_bytes A s b t u prog w E _ (wpAny_truthy_bool hq))
theorem eq_refs {A : Around} {s : Shared} {x y : Addr} (h : RcAt A s (.ref x) (.ref y) true) : EqAt A s (.ref x) (.ref y) true :=
  if q : x = y then q ▸ EqAt.same _ else EqAt.of_refs q h
structure Eq3 (A : Around) (s : Shared) (a b : Value) : Prop where
  eq : EqAt A s a b true
  rc : RcAt A s a b true
  ne : RcNeAt A s a b false
theorem all_true (n : Nat) : (List.range n).all (fun _ => true) = true := List.all_eq_true.mpr fun _ _ => rfl
theorem lt_in1 {A : Around} {n : Nat} (h : A.units + (n + 1) < cLine) : A.in1.units + n < cLine := by
  have : A.in1.units = A.units + 1 := by simp
  omega
section
variable {Y : Sys} {c : Cf} (k : c.Ok Y)
include k
mutual
theorem eq_val : ∀ (m : MV) (n : Nat) (A : Around) (a b : Value), plain n m = true → A.units + n < cLine → VR Y c.Z c.φ m a → VR Y c.Z c.φ m b → Eq3 A c.s a b
  | .none, _, _, _, _, _, _, ha, hb => by cases ha; cases hb; exact ⟨EqAt.same _, RcAt.none_none, RcNeAt.none_none⟩
  | .bool x, _, A, _, _, _, _, ha, hb => by cases ha; cases hb; exact ⟨EqAt.same _, (beq_self_eq_true x) ▸ RcAt.bool_bool (A := A) (s := c.s) x x, (show (!(x == x)) = false from (beq_self_eq_true x).symm ▸ rfl) ▸ RcNeAt.bool_bool (A := A) (s := c.s) x x⟩
  | .int x, _, A, _, _, _, _, ⟨t, ha⟩, ⟨u, hb⟩ => by cases ha; cases hb; exact ⟨(beq_self_eq_true x) ▸ EqAt.int_int (A := A) (s := c.s) x t x u, (beq_self_eq_true x) ▸ RcAt.int_int (A := A) (s := c.s) x t x u, (show (!(x == x)) = false from (beq_self_eq_true x).symm ▸ rfl) ▸ RcNeAt.int_int (A := A) (s := c.s) x t x u⟩
  | .bytes x, _, _, _, _, _, _, ⟨t, ha, _⟩, ⟨u, hb, _⟩ => by cases ha; cases hb; exact ⟨eq_bytesAt _ _ _ t u, rc_bytes _ _ _ t u, rcNe_bytes _ _ _ t u⟩
  | .tup x, 0, _, _, _, hp, _, _, _ => nomatch hp
  | .tup x, n + 1, A, _, _, hp, hu, ⟨_, vs, ha, ea, va, _⟩, ⟨_, ws, hb, eb, vb, _⟩ => by
    have hs : (vs.toArray.size == ws.toArray.size) = true := beq_iff_eq.mpr (va.length.trans vb.length.symm)
    have he := eqs_val x n A.in1 vs ws hp (lt_in1 hu) va vb
    have R := RcAt.tuples (e := fun _ => true) (k.isTup ea) (k.isTup eb) (Nat.lt_of_le_of_lt (Nat.le_add_right _ _) hu) he
    have R' := RcNeAt.tuples (e := fun _ => true) (k.isTup ea) (k.isTup eb) (Nat.lt_of_le_of_lt (Nat.le_add_right _ _) hu) he
    rw [all_true, hs] at R R'
    cases ha; cases hb; exact ⟨eq_refs R, R, R'⟩
  | .list x, 0, _, _, _, hp, _, _, _ => nomatch hp
  | .list x, n + 1, A, _, _, hp, hu, ⟨_, vs, _, ha, ea, va, _⟩, ⟨_, ws, _, hb, eb, vb, _⟩ => by
    have he := eqs_val x n A.in1 vs ws hp (lt_in1 hu) va vb
    have R := RcAt.lists (e := fun _ => true) (k.isList ea) (k.isList eb) (va.length.trans vb.length.symm) (Nat.lt_of_le_of_lt (Nat.le_add_right _ _) hu) he
    have R' := RcNeAt.lists (e := fun _ => true) (k.isList ea) (k.isList eb) (va.length.trans vb.length.symm) (Nat.lt_of_le_of_lt (Nat.le_add_right _ _) hu) he
    rw [all_true] at R R'
    cases ha; cases hb; exact ⟨eq_refs R, R, R'⟩
  | .inst _ _, n, _, _, _, hp, _, _, _ => by cases n <;> cases hp
  | .obj _, n, _, _, _, hp, _, _, _ => by cases n <;> cases hp
theorem eqs_val : ∀ (ms : List MV) (n : Nat) (A : Around) (vs ws : List Value), ms.all (plain n) = true → A.units + n < cLine → VRs Y c.Z c.φ ms vs → VRs Y c.Z c.φ ms ws → ∀ j (h1 : j < vs.length) (h2 : j < ws.length), EqAt A c.s vs[j] ws[j] true
  | [], _, _, _, _, _, _, ha, _, _, h1, _ => by subst ha; cases h1
  | m :: ms, n, A, _, _, hp, hu, ⟨v, r, ha, va, ra⟩, ⟨w, r', hb, vb, rb⟩, 0, _, _ => by subst ha hb; exact (eq_val m n A v w (and_l hp) hu va vb).eq
  | m :: ms, n, A, _, _, hp, hu, ⟨v, r, ha, va, ra⟩, ⟨w, r', hb, vb, rb⟩, j + 1, h1, h2 => by subst ha hb; exact eqs_val ms n A r r' (and_r hp) hu ra rb j (Nat.lt_of_succ_lt_succ h1) (Nat.lt_of_succ_lt_succ h2)
end
end
theorem tuple_geAt (l m : Addr) (a b p q : Int) (t1 t2 t3 t4 : Tok) (n n2 : Nat) (dd dd2 : Option Addr) (sl sl2 : Array (Option Value)) :
    Meets (Builtin.«tuple.__ge__» ⟨[.ref l, .ref m], []⟩)
      (fun A R s => s.heap.get? l = some { cls := .type "tuple", dict := dd, data := .seq #[.int a t1, .int b t2] n, slots := sl } ∧ s.heap.get? m = some { cls := .type "tuple", dict := dd2, data := .seq #[.int p t3, .int q t4] n2, slots := sl2 } ∧
        R (.ok (.ret (.bool (decide (p < a) || (decide (a = p) && decide (q ≤ b)))))) s) :=
  .of_wp fun prog w A R s h => by
    obtain ⟨hp, g, d, tk, os⟩ := s; obtain ⟨hl, hb, h⟩ := h
    have f2 := AutoSeq1.sub_tuple_tuple
    wp_walk using wpAny_loadPart' hl, wpAny_loadPart' hb, wpAny_forIn_list _ (fun rest b' s' => b'.1 = none ∧ s' = ⟨hp, g, d, tk, os⟩ ∧
      (rest = [(Value.int a t1, Value.int p t3), (.int b t2, .int q t4)] ∨ (rest = [(.int b t2, .int q t4)] ∧ a = p) ∨ (rest = [] ∧ a = p ∧ b = q))) _
    case turn =>
      rintro ⟨y, x⟩ rest b' s' ⟨hb', rfl, hz | ⟨hz, rfl⟩ | ⟨hz, _⟩⟩
      · cases hz
        refine wpAny_bind (EqAt.int_int a t1 p t3 prog w _ _ ?_)
        cases hy : (a == p) with
        | true =>
          wp_walk
          exact ⟨rfl, rfl, .inr (.inl ⟨rfl, by simpa using hy⟩)⟩
        | false =>
          simp only [Bool.not_false, if_true]
          refine wpAny_bind (wpAny_rule (wpAny_bind (ge_int ?_)))
          have hne : a ≠ p := by simpa using hy
          have e : decide (p ≤ a) = (decide (p < a) || (decide (a = p) && decide (q ≤ b))) := by
            rw [Bool.eq_iff_iff]; simp [hne]; omega
          rw [e]
          wp_walk
          exact ⟨_, rfl, h⟩
      · cases hz
        refine wpAny_bind (EqAt.int_int b t2 q t4 prog w _ _ ?_)
        cases hy : (b == q) with
        | true =>
          wp_walk
          exact ⟨rfl, rfl, .inr (.inr ⟨rfl, rfl, by simpa using hy⟩)⟩
        | false =>
          simp only [Bool.not_false, if_true]
          refine wpAny_bind (wpAny_rule (wpAny_bind (ge_int ?_)))
          have e : decide (q ≤ b) = (decide (a < a) || (decide (a = a) && decide (q ≤ b))) := by
            simp
          rw [e]
          wp_walk
          exact ⟨_, rfl, h⟩
      · cases hz
    case fin =>
      rintro ⟨b1, b2⟩ s' ⟨hb', rfl, hz | ⟨hz, _⟩ | ⟨_, rfl, rfl⟩⟩
      · cases hz
      · cases hz
      simp only at hb'
      subst hb'
      wp_walk
      refine ⟨_, rfl, ?_⟩
      have e : Builtin.Tuple.tupleCompareSizes CmpOp.GtE #[Value.int a t1, Value.int b t2].size #[Value.int a t3, Value.int b t4].size = .bool true := rfl
      rw [e]
      simpa using h
    case h =>
      exact ⟨rfl, rfl, .inl rfl⟩
section
variable {Y : Sys} {A : Around} {c : Cf} {Q : Value → Shared → Prop} {E : Value → Shared → Prop} {a b : Value} {m n : MV}
theorem len2 {l : List MV} (h : l.length = 2) : ∃ i j, l = [i, j] := match l, h with | [i, j], _ => ⟨i, j, rfl⟩
theorem pair_of {p : Int × Int} (h : pair? m = some p) (k : c.Ok Y) (ha : VR Y c.Z c.φ m a) : ∃ x t u, a = .ref x ∧ c.s.heap.get? x = some (tupOf #[.int p.1 t, .int p.2 u]) := by
  obtain ⟨l, q, h₁⟩ := of_bind h
  cases MV.tup_of q
  obtain ⟨x, vs, rfl, e, hv, _⟩ := ha
  by_cases h2 : l.length = 2
  · rw [if_pos h2] at h₁
    obtain ⟨i, j, rfl⟩ := len2 h2
    obtain ⟨_, _, rfl, rfl, q₂⟩ := intz_of h₁
    cases q₂
    obtain ⟨_, _, rfl, ⟨t, rfl⟩, _, _, rfl, ⟨u, rfl⟩, rfl⟩ := hv
    exact ⟨x, t, u, rfl, k.inv.z _ _ e⟩
  · rw [if_neg h2] at h₁; cases h₁
theorem wp_cmpop {o : Cp} {r : Bool} (k : c.Ok Y) (ha : VR Y c.Z c.φ m a) (hb : VR Y c.Z c.φ n b) (e : cmpop o m n = some r) (hu : A.units + 20 < cLine) (hQ : Q (.bool r) c.s) : wpAny Y.M A (compareOp (realCp o) a b) Q E c.s := by
  rcases of_or e with e | e
  · obtain ⟨i, j, rfl, rfl, q⟩ := intz_of e
    obtain ⟨t, rfl⟩ := ha; obtain ⟨u, rfl⟩ := hb; cases q
    cases o with
    | eq => exact eq_int hQ
    | ne => exact ne_int hQ
    | lt => exact lt_int hQ
    | le => exact le_int hQ
    | gt => exact gt_int hQ
    | ge => exact ge_int hQ
  · have hu' : A.units + 8 < cLine := Nat.lt_of_le_of_lt (Nat.add_le_add_left (by decide) _) hu
    cases o with
    | eq =>
      obtain ⟨p, rfl⟩ := of_guard e
      cases eqv_eq _ (and_r p)
      exact (eq_val k _ 8 A a b (and_l p) hu' ha hb).rc Y.prog Y.w E Q hQ
    | ne =>
      obtain ⟨p, rfl⟩ := of_guard e
      cases eqv_eq _ (and_r p)
      exact (eq_val k _ 8 A a b (and_l p) hu' ha hb).ne Y.prog Y.w E Q hQ
    | ge =>
      obtain ⟨p, e1, e⟩ := of_bind e
      obtain ⟨q, e2, e⟩ := of_bind e
      obtain ⟨x, t1, t2, rfl, g1⟩ := pair_of e1 k ha
      obtain ⟨y, t3, t4, rfl, g2⟩ := pair_of e2 k hb
      cases e
      exact richCompare_meets_room (op := .GtE) ⟨_, g1, rfl⟩ ⟨_, g2, rfl⟩ F.slot_tuple_ge F.entry_tuple_ge (F.args_tuple_ge_2 _ _) (tuple_geAt x y p.1 p.2 q.1 q.2 t1 t2 t3 t4 0 0 none none #[] #[])
        ⟨g1, g2, show Value.bool _ ≠ Value.notImplemented ∧ Q (.bool _) c.s from ⟨(fun x => nomatch x), hQ⟩⟩ (Nat.lt_of_le_of_lt (Nat.le_add_right _ _) hu)
    | _ => cases e
theorem wp_truth {b : Bool} {Q : Bool → Shared → Prop} (hv : VR Y c.Z c.φ m a) (e : truth m = some b) (h : Q b c.s) : wpAny Y.M A (truthy a) Q E c.s := by
  cases MV.bool_of e; cases hv; exact wpAny_truthy_bool h
theorem vr_none {Z : ZM} {φ : PH} (h : VR Y Z φ m a) : plainIs a .none = true ∧ (a == Value.none) = isNoneV m := by
  cases m with
  | none => cases h; exact ⟨rfl, rfl⟩
  | bool _ => cases h; exact ⟨rfl, rfl⟩
  | int _ => obtain ⟨_, rfl⟩ := h; exact ⟨rfl, rfl⟩
  | bytes _ => obtain ⟨_, rfl, _⟩ := h; exact ⟨rfl, rfl⟩
  | tup _ => obtain ⟨_, _, rfl, _⟩ := h; exact ⟨rfl, rfl⟩
  | list _ => obtain ⟨_, _, _, rfl, _⟩ := h; exact ⟨rfl, rfl⟩
  | inst _ _ => obtain ⟨_, _, _, _, _, _, _, rfl, _⟩ := h; exact ⟨rfl, rfl⟩
  | obj _ => obtain ⟨_, _, rfl, _⟩ := h; exact ⟨rfl, rfl⟩
theorem handed_of {Z : ZM} {φ : PH} (h : VR Y Z φ m a) : handedIn a = true := by
  cases m with
  | none => cases h; rfl
  | bool _ => cases h; rfl
  | int _ => obtain ⟨_, rfl⟩ := h; rfl
  | bytes _ => obtain ⟨_, rfl, _⟩ := h; rfl
  | tup _ => obtain ⟨_, _, rfl, _⟩ := h; rfl
  | list _ => obtain ⟨_, _, _, rfl, _⟩ := h; rfl
  | inst _ _ => obtain ⟨_, _, _, _, _, _, _, rfl, _⟩ := h; rfl
  | obj _ => obtain ⟨_, _, rfl, _⟩ := h; rfl
end
end Mini
end
noncomputable section
namespace Mini
open PySem PySem.W PySem.Calls PyProof.Rows
section
variable {T : Tie}
theorem nameOf_inj (hn : T.names.Nodup) {f g : Nat} (hf : f < T.names.length) (hg : g < T.names.length) (e : nameOf T f = nameOf T g) : f = g := by
  unfold nameOf at e
  rw [List.getD_eq_getElem?_getD, List.getD_eq_getElem?_getD, List.getElem?_eq_getElem hf, List.getElem?_eq_getElem hg] at e
  exact (List.getElem_inj hn).mp e
theorem ents_ref {hs : Str → Int} : ∀ {ns : List Str} {vs : List Value} {es : List DictEntry}, Ents hs ns vs es → es.any (·.refKey) = false
  | _, _, _, .nil => rfl
  | _, _, _, .cons _ r => by rw [List.any_cons, ents_ref r]; rfl
theorem getL_hit {hs : Str → Int} {n : Str} {ns : List Str} {v : Value} {vs : List Value} {es : List DictEntry} (t : Tok) (r : Ents hs ns vs es) : getL n (⟨hs n, .str n t, v⟩ :: es) = some (some v) := by
  unfold getL
  rw [List.find?_cons, show (Value.str n t).isStr n = true from beq_self_eq_true n]
theorem getL_skip {k : Int} {n n' : Str} {v : Value} {es : List DictEntry} {t : Tok} (h : (n == n') = false) : getL n' (⟨k, .str n t, v⟩ :: es) = getL n' es := by
  unfold getL
  rw [List.find?_cons, show (Value.str n t).isStr n' = false from h, List.any_cons]
  rfl
theorem ents_get (hn : T.names.Nodup) {f : Nat} (hf : f < T.names.length) : ∀ {cs : List Nat} {vs : List Value} {es : List DictEntry}, Ents T.hs (cs.map (nameOf T)) vs es → (∀ c ∈ cs, c < T.names.length) →
    (∀ v, vs[cs.findIdx (· == f)]? = some v → getL (nameOf T f) es = some (some v)) ∧ (f ∉ cs → getL (nameOf T f) es = some none)
  | [], _, _, .nil, _ => ⟨fun v e => (nomatch e), fun _ => rfl⟩
  | c :: cs, _, _, .cons t r, hv => by
    have ih := ents_get hn hf r fun c hc => hv c (.tail _ hc)
    rw [List.findIdx_cons]
    cases q : (c == f) with
    | true =>
      cases beq_iff_eq.mp q
      exact ⟨fun x e => (getL_hit t r).trans (congrArg some e), fun m => absurd (.head _) m⟩
    | false =>
      have hne : (nameOf T c == nameOf T f) = false := beq_eq_false_iff_ne.mpr fun e => beq_eq_false_iff_ne.mp q (nameOf_inj hn (hv c (.head _)) hf e)
      rw [getL_skip hne]
      exact ⟨fun x ex => ih.1 x ex, fun m => ih.2 fun z => m (.tail _ z)⟩
theorem fget_some {f : Nat} {v : MV} : ∀ {fs : Flds}, fget f fs = some v → (fs.map (·.2))[(fs.map (·.1)).findIdx (· == f)]? = some v ∧ f ∈ fs.map (·.1)
  | [], h => nomatch h
  | (g, w) :: r, h => by
    unfold fget at h
    rw [List.map_cons, List.map_cons, List.findIdx_cons]
    by_cases q : g = f
    · cases q; rw [if_pos rfl] at h; rw [beq_self_eq_true]; exact ⟨h, .head _⟩
    · rw [if_neg q] at h; rw [beq_eq_false_iff_ne.mpr q]
      exact ⟨(fget_some h).1, .tail _ (fget_some h).2⟩
theorem map_names (fs : Flds) : (fs.map fun f => nameOf T f.1) = (fs.map (·.1)).map (nameOf T) := by rw [List.map_map]; rfl
end
section
variable {Y : Sys} {A : Around} {l : List Env} {c : Cf} {Q : Value → Shared → Prop} {E : Value → Shared → Prop} {v : Value} {m r : MV}
theorem cls_at {i : Nat} {cl : MCls} (e : Y.P.cls[i]? = some cl) {C : Addr} (h : Y.T.cadr[i]? = some C) : ClsOk Y.T cl C := by
  obtain ⟨C', h', CO⟩ := Y.X.clsOk i cl e
  cases h.symm.trans h'; exact CO
structure Has (Y : Sys) (c : Cf) (x dx : Addr) (cl : MCls) (C : Addr) (cs : List Nat) (vs : List Value) (es : List DictEntry) (n : Nat) : Prop where
  co : ClsOk Y.T cl C
  inst : c.Z x = some (instObj C dx)
  get : c.s.heap.get? dx = some (dictOf es n)
  en : Ents Y.T.hs (cs.map (nameOf Y.T)) vs es
  sub : ∀ f ∈ cs, f ∈ cl.flds
theorem Has.inst_at (k : c.Ok Y) {x dx : Addr} {cl : MCls} {C : Addr} {cs : List Nat} {vs : List Value} {es : List DictEntry} {n : Nat} (h : Has Y c x dx cl C cs vs es n) : InstAt c.s.heap x (instObj C dx) C (some (dictOf es n)) := ⟨k.inv.z _ _ h.inst, rfl, rfl, h.get⟩
theorem Has.lt {x dx : Addr} {cl : MCls} {C : Addr} {cs : List Nat} {vs : List Value} {es : List DictEntry} {n : Nat} (h : Has Y c x dx cl C cs vs es n) : ∀ f ∈ cs, f < Y.T.names.length := fun f hf => (h.co.flds f (h.sub f hf)).1
theorem wp_field (k : c.Ok Y) {x dx : Addr} {cl : MCls} {C : Addr} {cs : List Nat} {vs : List Value} {es : List DictEntry} {n : Nat} (h : Has Y c x dx cl C cs vs es n) {f : Nat} {expr : Bool} (hf : f ∈ cs) (e : vs[cs.findIdx (· == f)]? = some v) (hv : handedIn v = true)
    (q : Q v { c.s with toks := c.s.toks + 1 }) : wpAny Y.M A (PySem.getAttr (.ref x) (nameOf Y.T f) expr) Q E c.s := by
  obtain ⟨_, ⟨a, e1, e2⟩, _⟩ := h.co.flds f (h.sub f hf)
  have hp : plainGet Y.T.K C (nameOf Y.T f) = true := h.co.plain
  exact get_value k.kin (h.inst_at k) (plainGet_of hp).1 (findObj_own h.co.dict e1 e2 ((ents_get Y.X.names (h.lt f hf) h.en h.lt).1 v e)) hv q
theorem wp_meth (k : c.Ok Y) {x dx : Addr} {cl : MCls} {C : Addr} {cs : List Nat} {vs : List Value} {es : List DictEntry} {n : Nat} (h : Has Y c x dx cl C cs vs es n) {f mn : Nat} {pl : Sem Bool} {Q : Value × List Value → Shared → Prop} (e : flook mn cl.meths = some f)
    (q : ∀ a, flook f Y.T.fadr = some a → keepIn Y.T.K (.ref a) = true → Q (.ref a, [.ref x]) c.s) : wpAny Y.M A (getMethod (.ref x) (nameOf Y.T mn) pl) Q E c.s := by
  obtain ⟨hlt, hnf, a, e1, e2, e3, e4⟩ := h.co.meths mn f e
  have hp : plainGet Y.T.K C (nameOf Y.T mn) = true := h.co.plain
  exact method_fn k.kin (h.inst_at k) (plainGet_of hp).1 (plainGet_of hp).2 e2 (beq_iff_eq.mp e3) (by show (lookIn _ (dictOf es n)).map _ = _; rw [lookIn_dict, (ents_get Y.X.names hlt h.en h.lt).2 fun z => hnf (h.sub _ z)]; rfl) (q a e1 e4)
theorem has_inst (k : c.Ok Y) {ci : Nat} {ms : List MV} (h : VR Y c.Z c.φ (.inst ci ms) v) {cl : MCls} (e : Y.P.cls[ci]? = some cl) : ∃ x dx C vs es n, v = .ref x ∧ Has Y c x dx cl C cl.flds vs es n ∧ VRs Y c.Z c.φ ms vs := by
  obtain ⟨x, dx, k', C, es, n, vs, rfl, ⟨p1, p2, p3, p4, p5⟩, p6, p7⟩ := h
  cases p1.symm.trans e
  exact ⟨x, dx, C, vs, es, n, rfl, ⟨cls_at e p3, p4, k.inv.z _ _ p5, p6, fun _ h => h⟩, p7⟩
theorem has_obj (k : c.Ok Y) {i : Nat} (h : VR Y c.Z c.φ (.obj i) v) {o : MObj} (ho : c.H[i]? = some o) {cl : MCls} (e : Y.P.cls[o.c]? = some cl) : ∃ x dx C vs es n, v = .ref x ∧ Has Y c x dx cl C (o.fs.map (·.1)) vs es n ∧ VRs Y c.Z c.φ (o.fs.map (·.2)) vs ∧ c.Mu dx = some (.st (dictOf es n)) ∧ c.φ[i]? = some (x, dx) := by
  obtain ⟨x, dx, rfl, p⟩ := h
  obtain ⟨x', dx', es, n, vs, k', C, p', O⟩ := k.hr.obj i o ho
  cases p.symm.trans p'
  cases O.cls.symm.trans e
  exact ⟨x, dx, C, vs, es, n, rfl, ⟨cls_at e O.adr, O.inst, st_at (k.inv.m _ _ O.mu), map_names o.fs ▸ O.en, fun f hf => by obtain ⟨p, hp, rfl⟩ := List.mem_map.mp hf; exact O.flds p hp⟩, O.vr, O.mu, p⟩
theorem findIdx_mem {cs : List Nat} {f : Nat} {ms : List MV} (hl : ms.length = cs.length) (e : ms[cs.findIdx (· == f)]? = some r) : f ∈ cs := by
  have h := (List.getElem?_eq_some_iff.mp e).1
  rw [hl] at h
  have := List.findIdx_getElem (w := h)
  exact beq_iff_eq.mp this ▸ List.getElem_mem h
theorem wp_getAttr (k : c.Ok Y) {f : Nat} {expr : Bool} (hv : VR Y c.Z c.φ m v) (e : Mini.getAttr Y.P m f c.H = some r) (g : Go Y l (VRc Y) (.ok r c.H) c Q E) : wpAny Y.M A (PySem.getAttr v (nameOf Y.T f) expr) Q E c.s := by
  rcases of_or e with e | e
  · obtain ⟨p, q, e₁⟩ := of_bind e
    cases MV.inst_of q
    obtain ⟨cl, hcl, e₂⟩ := of_bind e₁
    cases hr : cl.record with
    | false => rw [hr] at e₂; cases e₂
    | true =>
    rw [hr] at e₂
    obtain ⟨x, dx, C, vs, es, n, rfl, h, hvs⟩ := has_inst k hv hcl
    obtain ⟨w, e1, e2⟩ := hvs.get e₂
    exact wp_field k h (findIdx_mem (by rw [← hvs.length, h.en.length.2, List.length_map]) e₂) e1 (handed_of e2) (g.tok k _ e2)
  · obtain ⟨i, q, e₁⟩ := of_bind e
    cases MV.obj_of q
    obtain ⟨o, ho, e₂⟩ := of_bind e₁
    obtain ⟨cl, hcl, e₃⟩ := of_bind e₂
    cases hr : cl.record with
    | true => rw [hr] at e₃; cases e₃
    | false =>
    rw [hr] at e₃
    obtain ⟨x, dx, C, vs, es, n, rfl, h, hvs, _⟩ := has_obj k hv ho hcl
    obtain ⟨q1, q2⟩ := fget_some e₃
    obtain ⟨w, e1, e2⟩ := hvs.get q1
    exact wp_field k h q2 e1 (handed_of e2) (g.tok k _ e2)
theorem wp_method (k : c.Ok Y) {f mn : Nat} {pl : Sem Bool} {Q : Value × List Value → Shared → Prop} (hv : VR Y c.Z c.φ m v) (e : methOf Y.P m mn c.H = some f)
    (q : ∀ a, flook f Y.T.fadr = some a → keepIn Y.T.K (.ref a) = true → Q (.ref a, [v]) c.s) : wpAny Y.M A (getMethod v (nameOf Y.T mn) pl) Q E c.s := by
  obtain ⟨ci, hc, e₁⟩ := of_bind e
  obtain ⟨cl, hcl, e₂⟩ := of_bind e₁
  rcases of_or hc with hc | hc
  · obtain ⟨p, hp, rfl⟩ := Option.map_eq_some_iff.mp hc
    cases MV.inst_of hp
    obtain ⟨x, dx, C, vs, es, n, rfl, h, _⟩ := has_inst k hv hcl
    exact wp_meth k h e₂ q
  · obtain ⟨i, hi, hc₁⟩ := of_bind hc
    cases MV.obj_of hi
    obtain ⟨o, ho, rfl⟩ := Option.map_eq_some_iff.mp hc₁
    obtain ⟨x, dx, C, vs, es, n, rfl, h, _⟩ := has_obj k hv ho hcl
    exact wp_meth k h e₂ q
theorem wp_item {a : Addr} {vs : List Value} {xs : List MV} {i : Int} {t : Tok} {j : Nat} (hl : c.s.heap.IsList a vs.toArray)
    (hv : VRs Y c.Z c.φ xs vs) (hz : xs.length ≤ 10000000) (hp : place xs.length i = some j) (hr : xs[j]? = some r) (h : ∀ v, VR Y c.Z c.φ r v → Q v c.s) :
    wpAny Y.M A (getItem (.ref a) (.int i t)) Q E c.s := by
  obtain ⟨v, e, hv'⟩ := hv.get hr
  have hlen := hv.length
  have hj : j < xs.length := (List.getElem?_eq_some_iff.mp hr).1
  unfold place at hp
  by_cases h0 : 0 ≤ i
  · rw [if_pos h0] at hp; cases hp
    exact wpAny_getItem_list hl h0 (by omega) (by simpa using e) (h v hv')
  · rw [if_neg h0] at hp
    obtain ⟨p, rfl⟩ := of_guard hp
    have h1 := of_decide_eq_true p
    refine wpAny_getItem_list_neg hl (Int.not_le.mp h0) (by rw [List.size_toArray, hlen]; omega) (by omega) ?_ (h v hv')
    simpa [hlen] using e
theorem sub_plain {s : Expr} {o i : Value} (h : noSlice s = true) : subscripted s false o i = operate [o, i] (getItem o i) := by
  cases s <;> first | rfl | cases h
theorem wp_idx {x s : Expr} {o i : Value} {m j : MV} (k : c.Ok Y) (hs : noSlice s = true) (ho : VR Y c.Z c.φ m o) (hi : VR Y c.Z c.φ j i)
    (e : idxO m j = some r) (g : Go Y l (VRc Y) (.ok r c.H) c Q E) : wpAny Y.M A (subscriptTail x s o i) Q E c.s := by
  obtain ⟨jj, q, e₁⟩ := of_bind e
  cases MV.int_of q
  obtain ⟨t, rfl⟩ := hi
  rcases of_or e₁ with e₂ | e₂
  · obtain ⟨xs, q, e₃⟩ := of_bind e₂
    cases MV.list_of q
    obtain ⟨n, hp, hx⟩ := of_bind e₃
    obtain ⟨a, vs, _, rfl, ea, va, na⟩ := ho
    exact tail_any (k.isList ea).typeIs slot_list_getitem.lookup (wp_item (k.isList ea) va na hp hx fun v hv => g.here k hv) (sub_plain hs)
  · obtain ⟨xs, q, e₃⟩ := of_bind e₂
    cases MV.tup_of q
    obtain ⟨a, vs, rfl, ea, va, na⟩ := ho
    by_cases h0 : 0 ≤ jj
    · rw [if_pos h0] at e₃
      obtain ⟨y, e1, e2⟩ := va.get e₃
      have hl := va.length
      have hj := (List.getElem?_eq_some_iff.mp e₃).1
      refine item_tupleT (l := vs) (k.isTup ea) (by omega) (by omega) (j := jj.toNat) ?_ e1 (g.here k e2) (sub_plain hs)
      have hn : ¬ jj < 0 := by omega
      simp [seqIndex?, hn, h0, hl]; omega
    · rw [if_neg h0] at e₃; cases e₃
theorem wp_Subscript {env : Env} {x s : Expr} {pos : Pos} {st : Shared}
    (h : wpAny Y.M A (eval x env) (fun o s₁ => wpAny Y.M A (eval s env) (fun i s₂ => wpAny Y.M A (subscriptTail x s o i) Q E s₂) E s₁) E st) :
    wpAny Y.M A (eval (.Subscript x s pos) env) Q E st := by
  rw [arm_eval_Subscript]
  exact wpAny_bind (wpAny_mono h (fun o s₁ h₁ => wpAny_bind (wpAny_holding (wpAny_mono h₁ (fun i s₂ h₂ => wpAny_bind (wpAny_standAt h₂)) fun _ _ x => x))) fun _ _ x => x)
noncomputable def PartIs (lo : Nat → Option Nat) (d : Bool) (v : Value) (i : Option Int) : Prop := IsPart v i ∧ ∀ n, lo n = some (i.elim (if d then n else 0) (bound n))
theorem part_lo : PartIs (fun _ => some 0) false .none none := ⟨.none, fun _ => rfl⟩
theorem part_hi : PartIs some true .none none := ⟨.none, fun _ => rfl⟩
theorem wp_slice {x : Expr} {lo hi : Option Expr} {p : Pos} {vl vu o : Value} {fl fu : Nat → Option Nat} {il iu : Option Int} (k : c.Ok Y)
    (ho : VR Y c.Z c.φ m o) (pl : PartIs fl false vl il) (pu : PartIs fu true vu iu) (e : sliceO m fl fu = some r)
    (g : ∀ {h : Heap} {a : Addr} {xs : List MV} {vs : List Value}, r = .list xs → VRs Y c.Z c.φ xs vs → xs.length ≤ 10000000 → c.s.heap.objs.size ≤ a → (∀ b o, c.s.heap.get? b = some o → h.get? b = some o) → h.get? a = some (listOf vs.toArray 0) → Q (.ref a) { c.s with heap := h }) :
    wpAny Y.M A (newFields "slice" [vl, vu, .none]) (fun i s₂ => wpAny Y.M A (subscriptTail x (.Slice lo hi none p) o i) Q E s₂) E c.s := by
  obtain ⟨xs, q, e₁⟩ := of_bind e
  cases MV.list_of q
  rw [pl.2, Option.bind_some, pu.2, Option.map_some] at e₁
  cases e₁
  obtain ⟨a, vs, n, rfl, ea, va, na⟩ := ho
  refine wpAny_newObj_type ?_
  have hl : (c.s.heap.push { cls := .type "slice", data := .fields #[vl, vu, .none] }).IsList a vs.toArray := ⟨_, Heap.get?_push_of_some _ (k.inv.z _ _ ea), rfl, n, rfl⟩
  refine tail_any (s := { c.s with heap := c.s.heap.push { cls := .type "slice", data := .fields #[vl, vu, .none] } }) hl.typeIs slot_list_getitem.lookup ?_ rfl
  have hlen := va.length
  refine wpAny_getItem_list_slice hl ⟨_, Heap.get?_push_size _ rfl, rfl, rfl⟩ pl.1 pu.1 .none (by intro z; cases z) ?_ (by rw [List.size_toArray, hlen]; exact line_ok na)
  rw [slicePick_plain]
  have q : ∀ (x : Option Int) (d : Nat), x.elim d (clipAt vs.toArray.size) = x.elim d (bound xs.length) := fun x d => by
    cases x with
    | none => rfl
    | some i => exact congrArg (bound · i) hlen
  have e1 : ((vs.toArray.toList.drop (il.elim 0 (clipAt vs.toArray.size))).take (iu.elim vs.toArray.size (clipAt vs.toArray.size) - il.elim 0 (clipAt vs.toArray.size))) =
      (vs.take (iu.elim xs.length (bound xs.length))).drop (il.elim 0 (bound xs.length)) := by
    rw [q, q, List.drop_take, List.size_toArray, hlen]
  rw [e1]
  refine g rfl ((va.take _).drop _) ?_ ?_ (fun _ _ e => Heap.get?_push_of_some _ (Heap.get?_push_of_some _ e)) (Heap.get?_push_size _ rfl)
  · unfold cut; rw [List.length_drop, List.length_take]; exact Nat.le_trans (Nat.sub_le _ _) (Nat.le_trans (Nat.min_le_right _ _) na)
  · show c.s.heap.objs.size ≤ (c.s.heap.push _).objs.size
    rw [Heap.size_push]; exact Nat.le_succ _
end
end Mini
end
noncomputable section
namespace Mini
open PySem PySem.W PySem.Calls PyProof.Rows
theorem starEach_cons {x : Expr} {xs : List Expr} {env : Env} (h : noStar x = true) : starEach (x :: xs) env = (false, eval x env) :: starEach xs env := by
  cases x <;> first | rfl | cases h
theorem backTo_cons {p : Pos} {x : Expr} {xs : List Expr} {env : Env} (h : noStar x = true) : backTo p (starEach (x :: xs) env) = (false, eval x env) :: backTo p (starEach xs env) := by
  rw [starEach_cons h]; rfl
noncomputable def NoStars (xs : List Expr) : Prop := ∀ x ∈ xs, noStar x = true
theorem NoStars.cons {x : Expr} {xs : List Expr} (h : noStar x = true) (r : NoStars xs) : NoStars (x :: xs) := fun y hy => (List.mem_cons.mp hy).elim (fun e => e ▸ h) (r y)
theorem NoStars.nil : NoStars [] := fun _ h => nomatch h
theorem backTo_plain {p : Pos} {env : Env} : ∀ {xs : List Expr}, NoStars xs → (backTo p (starEach xs env)).any (·.1) = false
  | [], _ => rfl
  | x :: xs, h => by rw [backTo_cons (h x (.head _)), List.any_cons, backTo_plain fun y hy => h y (.tail _ hy)]; rfl
section
variable {Y : Sys} {A : Around} {l : List Env} {c : Cf} {Q : Value → Shared → Prop} {E : Value → Shared → Prop} {v : Value} {m r : MV}
theorem wp_callWith {f : Value} {first : List Value} {p : Pos} {xs : List Expr} {env : Env} {s : Shared} {PH : Heap → Prop} (hn : NoStars xs)
    (hk : ∀ h, PH h → ∃ k, (k = Keeper.frame ∨ k = Keeper.machine ∨ k = Keeper.boundFrame) ∧ Looks Y.M h (keeperOf f) k)
    (h : wpAny Y.M A (spliced (backTo p (starEach xs env))) (fun vs s₁ => PH s₁.heap ∧ wpAny Y.M A (call f (first ++ vs)) Q E s₁) E s) :
    wpAny Y.M A (callWith p f first (backTo p (starEach xs env)) []) Q E s := by
  refine callWith_of (by rw [backTo_plain hn]; rfl) hk ?_
  cases xs with
  | nil => exact fun Γ p hΓ => h Γ p hΓ
  | cons x xs =>
    rw [backTo_cons (hn x (.head _))] at h ⊢
    exact evalArgs_plain h
theorem wp_callBlt {f : Value} {p : Pos} {xs : List Expr} {env : Env} {s : Shared} (hn : NoStars xs) (hf : keeperOf f = keeperOf (.builtin "len"))
    (h : wpAny Y.M A (spliced (backTo p (starEach xs env))) (fun vs s₁ => wpAny Y.M A (call f vs) Q E s₁) E s) :
    wpAny Y.M A (callWith p f [] (backTo p (starEach xs env)) []) Q E s :=
  wp_callWith (PH := fun _ => True) hn (fun _ _ => ⟨.machine, .inr (.inl rfl), hf ▸ Looks.of_pure rfl⟩) (wpAny_mono h (fun _ _ h₁ => ⟨trivial, h₁⟩) fun _ _ x => x)
theorem wp_callRef {a : Addr} {first : List Value} {p : Pos} {xs : List Expr} {env : Env} {s : Shared} (hn : NoStars xs) (hf : keepIn Y.T.K (.ref a) = true)
    (h : wpAny Y.M A (spliced (backTo p (starEach xs env))) (fun vs s₁ => Y.T.K.In s₁.heap ∧ wpAny Y.M A (call (.ref a) (first ++ vs)) Q E s₁) E s) :
    wpAny Y.M A (callWith p (.ref a) first (backTo p (starEach xs env)) []) Q E s :=
  wp_callWith (PH := fun h => Y.T.K.In h) hn (keeps_K hf) h
theorem blt_len (k : c.Ok Y) (hv : VR Y c.Z c.φ m v) (e : lenO m = some r) (g : Go Y l (VRc Y) (.ok r c.H) c Q E) : wpAny Y.M A (call (.builtin "len") [v]) Q E c.s := by
  rcases of_or e with e | e
  · obtain ⟨xs, q, rfl⟩ := Option.map_eq_some_iff.mp e
    cases MV.list_of q
    obtain ⟨a, vs, n, rfl, ea, va, na⟩ := hv
    refine call_len_list (k.isList ea) (Int.ofNat_lt.mpr (Nat.lt_of_le_of_lt (va.length ▸ na : vs.length ≤ _) (by decide))) (g.tok k (c.s.toks + 1 + 1) ⟨c.s.toks + 1, ?_⟩)
    exact congrArg (fun z : Nat => Value.int z _) va.length
  · obtain ⟨xs, q, rfl⟩ := Option.map_eq_some_iff.mp e
    cases MV.bytes_of q
    obtain ⟨t, rfl, _, hz⟩ := hv
    have hl : (xs.map UInt8.ofNat).toArray.size = xs.length := by rw [List.size_toArray, List.length_map]
    refine len_bytes (hl ▸ Nat.le_trans hz (by decide)) (g.tok k (c.s.toks + 1 + 1) ⟨c.s.toks + 1, ?_⟩)
    exact congrArg (fun z : Nat => Value.int z _) hl
theorem blt_lenM {a : Addr} {vs : List Value} {n : Nat} {xs : List MV} (k : c.Ok Y) (e : c.Mu a = some (.ex (listOf vs.toArray n))) (hv : VRs Y c.Z c.φ xs vs) (hl : xs.length ≤ 2000) (g : Go Y l (VRc Y) (.ok (.int xs.length) c.H) c Q E) :
    wpAny Y.M A (call (.builtin "len") [.ref a]) Q E c.s :=
  call_len_list (k.isListM e) (Int.ofNat_lt.mpr (Nat.lt_of_le_of_lt (hv.length ▸ hl : vs.length ≤ _) (by decide))) (g.tok k (c.s.toks + 1 + 1) ⟨c.s.toks + 1, congrArg (fun z : Nat => Value.int z _) hv.length⟩)
variable {L : Addr} {fm : Str → Option Value}
theorem blt_min {i j : Int} {t u : Tok} (k : c.Ok Y) (hL : c.Mu L = some (.fr fm)) (hh : A.handled = none) (g : Go Y l (VRc Y) (.ok (.int (if j < i then j else i)) c.H) c Q E) : wpAny Y.M A (call (.builtin "min") [.int i t, .int j u]) Q E c.s :=
  min_two_N hh (k.fr hL) (k.news L) fun _ tk F' N' => g.led k hL tk F'.ns (led_get N' fun _ h => h) ⟨_, rfl⟩
theorem blt_max {i j : Int} {t u : Tok} (k : c.Ok Y) (hL : c.Mu L = some (.fr fm)) (hh : A.handled = none) (g : Go Y l (VRc Y) (.ok (.int (if i < j then j else i)) c.H) c Q E) : wpAny Y.M A (call (.builtin "max") [.int i t, .int j u]) Q E c.s :=
  max_two_N hh (k.fr hL) (k.news L) fun _ tk F' N' => g.led k hL tk F'.ns (led_get N' fun _ h => h) ⟨_, rfl⟩
theorem intsOf_are {Z : ZM} {φ : PH} : ∀ {xs : List MV} {vs : List Value} {is : List Int}, VRs Y Z φ xs vs → intsOf xs = some is → IntsAre vs is
  | [], _, _, h, q => by cases h; cases q; exact .nil
  | x :: xs, _, _, ⟨v, r, h, a, b⟩, q => by
    obtain ⟨i, q1, q2⟩ := of_bind q
    obtain ⟨js, q3, rfl⟩ := Option.map_eq_some_iff.mp q2
    cases MV.int_of q1
    obtain ⟨t, rfl⟩ := a
    exact h ▸ .cons i t (intsOf_are b q3)
theorem maxI_mem : ∀ (l : List Int) (m : Int), maxI m l ∈ m :: l ∧ ∀ a ∈ m :: l, a ≤ maxI m l
  | [], m => ⟨.head _, fun a h => (List.mem_singleton.mp h).symm ▸ Int.le_refl _⟩
  | x :: r, m => by
    unfold maxI
    obtain ⟨h1, h2⟩ := maxI_mem r (if m < x then x else m)
    by_cases q : m < x
    · rw [if_pos q] at h1 h2 ⊢
      refine ⟨.tail _ h1, fun a h => ?_⟩
      rcases List.mem_cons.mp h with rfl | h
      · exact Int.le_trans (Int.le_of_lt q) (h2 x (.head _))
      · exact h2 a h
    · rw [if_neg q] at h1 h2 ⊢
      refine ⟨?_, fun a h => ?_⟩
      · rcases List.mem_cons.mp h1 with e | h1
        · exact List.mem_cons.mpr (.inl e)
        · exact .tail _ (.tail _ h1)
      · rcases List.mem_cons.mp h with rfl | h
        · exact h2 a (.head _)
        · rcases List.mem_cons.mp h with rfl | h
          · exact Int.le_trans (Int.not_lt.mp q) (h2 m (.head _))
          · exact h2 a (.tail _ h)
theorem blt_max1 (k : c.Ok Y) (hL : c.Mu L = some (.fr fm)) (hh : A.handled = none) (hv : VR Y c.Z c.φ m v) (e : m.list?.bind maxO = some r) (g : Go Y l (VRc Y) (.ok r c.H) c Q E) : wpAny Y.M A (call (.builtin "max") [v]) Q E c.s := by
  obtain ⟨xs, q, e₁⟩ := of_bind e
  cases MV.list_of q
  obtain ⟨is, q1, e₂⟩ := of_bind e₁
  obtain ⟨a, vs, n, rfl, ea, va, na⟩ := hv
  cases is with
  | nil => cases e₂
  | cons i is =>
    cases e₂
    refine max_list_N hh (k.fr hL) (k.news L) (k.isList ea) (intsOf_are va q1) (Nat.succ_pos _) fun h' M t tk F' N' hm hle => g.led k hL tk F'.ns (led_get N' fun _ h => h) ⟨t, ?_⟩
    obtain ⟨h1, h2⟩ := maxI_mem is i
    exact congrArg (Value.int · t) (Int.le_antisymm (h2 M hm) (hle _ h1))
theorem blt_tuple {xs : List MV} (k : c.Ok Y) (hv : VR Y c.Z c.φ (.list xs) v) (g : Go Y l (VRc Y) (.ok (.tup xs) c.H) c Q E) : wpAny Y.M A (call (.type "tuple") [v]) Q E c.s := by
  obtain ⟨a, vs, n, rfl, ea, va, na⟩ := hv
  refine call_tuple_list (k.isList ea) (fun h' hk => ?_) (line_ok (va.length ▸ na : vs.length ≤ _))
  exact g.tup k _ (Heap.get?_push_size _ rfl) ((k.heap c.s.toks hk).free (Nat.le_refl _)) (fun b o _ e => Heap.get?_push_of_some _ (hk b o e)) va na
theorem blt_bytes (k : c.Ok Y) (hv : VR Y c.Z c.φ m v) (e : m.list?.bind byteO = some r) (hh : A.handled = none) (g : Go Y l (VRc Y) (.ok r c.H) c Q E) : wpAny Y.M A (call (.type "bytes") [v]) Q E c.s := by
  obtain ⟨xs, q, e₁⟩ := of_bind e
  cases MV.list_of q
  unfold byteO at e₁
  by_cases h1 : xs.length = 1
  · obtain ⟨x, rfl⟩ := List.length_eq_one_iff.mp h1
    rw [if_pos h1] at e₁
    obtain ⟨i, q1, e₂⟩ := of_bind (o := x.int?) e₁
    cases MV.int_of q1
    obtain ⟨p, rfl⟩ := of_guard e₂
    obtain ⟨h0, h2⟩ := of_decide_eq_true p
    obtain ⟨a, _, n, rfl, ea, ⟨_, _, rfl, ⟨t, rfl⟩, rfl⟩, na⟩ := hv
    refine call_bytes_ints (ns := [i]) (k.isList ea) (.cons i t .nil) (fun n hn => List.mem_singleton.mp hn ▸ ⟨h0, h2⟩) (line_ok (by decide : 1 ≤ 10000000)) hh fun h' t' tk hk => g.heap k tk hk ⟨t', rfl, fun x hx => List.mem_singleton.mp hx ▸ by omega, (by decide : 1 ≤ 10000000)⟩
  · rw [if_neg h1] at e₁; cases e₁
end
end Mini
end
noncomputable section
namespace Mini
open PySem PySem.W PySem.Calls PyProof.Rows
structure ItL (Y : Sys) (c : Cf) (o : Obj) (xs : List MV) (a : Addr) (vs : List Value) (n i : Nat) : Prop where
  cls : o.cls = .type "list_iterator"
  data : o.data = .fields #[.ref a, .int i 0]
  z : c.Z a = some (listOf vs.toArray n)
  vr : VRs Y c.Z c.φ xs (vs.drop i)
noncomputable def rangeIt (x : Int) (n : Nat) : Obj := { cls := .type "range_iterator", dict := none, data := .fields #[rawInt x, rawInt n, rawInt 1], slots := #[] }
noncomputable def rangeL (x : Int) (n : Nat) : List MV := (List.range n).map fun (k : Nat) => .int (x + k)
noncomputable def ItO (Y : Sys) (c : Cf) (o : Obj) (xs : List MV) : Prop := (∃ a vs n i, ItL Y c o xs a vs n i) ∨ ∃ x n, o = rangeIt x n ∧ xs = rangeL x n
structure Iter (Y : Sys) (c : Cf) (it : Addr) (xs : List MV) (o : Obj) : Prop where
  mu : c.Mu it = some (.ex o)
  o : ItO Y c o xs
theorem ItO.mono {Y : Sys} {c c' : Cf} {o : Obj} {xs : List MV} (s : StB c c') : ItO Y c o xs → ItO Y c' o xs
  | .inl ⟨a, vs, n, i, h⟩ => .inl ⟨a, vs, n, i, h.cls, h.data, s.z _ _ h.z, VRs.mono s.z s.p _ h.vr⟩
  | .inr h => .inr h
theorem Iter.step {Y : Sys} {c c' : Cf} {it : Addr} {xs : List MV} {o : Obj} (s : Step c c') (h : Iter Y c it xs o) : Iter Y c' it xs o := ⟨s.keep rfl h.mu, h.o.mono s.toStB⟩
theorem ItO.flds {Y : Sys} {c : Cf} {o : Obj} {xs : List MV} : ItO Y c o xs → ∃ vs, o.data = .fields vs
  | .inl ⟨_, _, _, _, h⟩ => ⟨_, h.data⟩
  | .inr ⟨_, _, h, _⟩ => h ▸ ⟨_, rfl⟩
theorem ItO.notL {Y : Sys} {c : Cf} {o : Obj} {xs : List MV} (h : ItO Y c o xs) {vs : Array Value} {n : Nat} : o ≠ listOf vs n := fun q => by
  obtain ⟨_, e⟩ := h.flds; rw [q] at e; cases e
theorem Iter.neD {Y : Sys} {c : Cf} {it D : Addr} {xs : List MV} {o : Obj} (h : Iter Y c it xs o) {vs : Array Value} {n : Nat} (e : c.Mu D = some (.ex (listOf vs n))) : it ≠ D := fun q => h.o.notL (MC.ex.inj (Option.some.inj ((h.mu.symm.trans (q ▸ e)))))
  where MC.ex.inj {a b : Obj} (h : MC.ex a = .ex b) : a = b := by cases h; rfl
theorem fr_ne_ex {m : Str → Option Value} {o : Obj} {f : MU} {a b : Addr} (e : f a = some (.ex o)) (e' : f b = some (.fr m)) : a ≠ b := fun q => by rw [q, e'] at e; cases e
theorem range_cons (x : Int) (n : Nat) : rangeL x (n + 1) = .int x :: rangeL (x + 1) n := by
  unfold rangeL
  rw [List.range_succ_eq_map, List.map_cons, List.map_map]
  refine congr (congrArg List.cons (congrArg MV.int (Int.add_zero x))) (List.map_congr_left fun k _ => congrArg MV.int ?_)
  show x + ((k + 1 : Nat) : Int) = x + 1 + k
  omega
section
variable {Y : Sys} {A : Around} {l : List Env} {c : Cf} {E : Value → Shared → Prop} {it : Addr} {v : MV} {xs : List MV} {o : Obj}
theorem wp_next {Q : Option Value → Shared → Prop} (k : c.Ok Y) (h : Iter Y c it (v :: xs) o)
    (q : ∀ r o' hp tk, (c.setM it (some (.ex o')) hp tk).Ok Y → VR Y c.Z c.φ v r → ItO Y c o' xs → Q (some r) (c.setM it (some (.ex o')) hp tk).s) : wpAny Y.M A (pyNext (.ref it)) Q E c.s := by
  obtain ⟨mu, ⟨a, vs, n, i, cls, data, z, r, rest, hd, hr, hrest⟩ | ⟨x, n, rfl, hx⟩⟩ := h
  · have hi : vs[i]? = some r := by rw [← List.head?_drop, hd]; rfl
    refine wpAny_pyNext_list_item ⟨o, ex_at (k.inv.m _ _ mu), cls, data⟩ (k.isList z) (by simpa using hi) fun h' ⟨o', g1, g2, g3⟩ hs => ?_
    refine q r o' h' c.s.toks (k.setM _ (k.un mu rfl) (fun b x n e => (hs.2 b n).trans e) fun y hy => Option.some.inj hy ▸ at_ex g1) hr (.inl ⟨a, vs, n, i + 1, g2, g3, z, ?_⟩)
    rw [← List.tail_drop, hd]; exact hrest
  · cases n with
    | zero => cases hx
    | succ n =>
      rw [range_cons] at hx
      cases hx
      refine wpAny_pyNext_range_item (ex_at (k.inv.m _ _ mu)) (Int.ofNat_lt.mpr (Nat.succ_pos n)) fun h' hit hs => ?_
      have e : ((n + 1 : Nat) : Int) - 1 = n := Int.add_sub_cancel n 1
      rw [e] at hit
      exact q _ (rangeIt (x + 1) n) h' (c.s.toks + 1) (k.setM _ (k.un mu rfl) (fun b x n e => (hs.2 b n).trans e) fun y hy => Option.some.inj hy ▸ at_ex hit) ⟨_, rfl⟩ (.inr ⟨x + 1, n, rfl, rfl⟩)
theorem wp_next_end {Q : Option Value → Shared → Prop} (k : c.Ok Y) (h : Iter Y c it [] o) (hh : A.handled = none)
    (q : ∀ hp, (c.setM it none hp c.s.toks).Ok Y → Q none (c.setM it none hp c.s.toks).s) : wpAny Y.M A (pyNext (.ref it)) Q E c.s := by
  obtain ⟨mu, ⟨a, vs, n, i, cls, data, z, hd⟩ | ⟨x, n, rfl, hx⟩⟩ := h
  · have hi : vs[i]? = none := by rw [← List.head?_drop, hd]; rfl
    exact wpAny_pyNext_list_end hh ⟨o, ex_at (k.inv.m _ _ mu), cls, data⟩ (k.isList z) (by simpa using hi) fun h' hs => q h' (k.setM _ (k.un mu rfl) hs fun _ hy => nomatch hy)
  · cases n with
    | zero => exact wpAny_pyNext_range_end hh (ex_at (k.inv.m _ _ mu)) (Int.le_refl 0) fun h' hs => q h' (k.setM _ (k.un mu rfl) hs fun _ hy => nomatch hy)
    | succ n => rw [range_cons] at hx; cases hx
noncomputable def ItR (Y : Sys) (c₀ : Cf) (c' : Cf) (v : Value) (xs : List MV) : Prop := ∃ it o, v = .ref it ∧ Iter Y c' it xs o ∧ c₀.Mu it = none
variable {Q : Value → Shared → Prop} {c₀ : Cf} {a : Value}
theorem mk_iter (k : c.Ok Y) (s : Step c₀ c) {o : Obj} {h : Heap} {tk : Nat} (e : ∀ b x, c.s.heap.get? b = some x → h.get? b = some x) (ha : h.get? c.s.heap.objs.size = some o) (i : ItO Y c o xs) (g : Go Y l (ItR Y c₀) (.ok xs c.H) c Q E) : Q (.ref c.s.heap.objs.size) { c.s with heap := h, toks := tk } :=
  have f := k.free (Nat.le_refl _)
  g.ok (c.setM c.s.heap.objs.size (some (.ex o)) h tk) _ xs (k.setM tk (un_free f) (fun b x _ q => e b x q) fun y hy => Option.some.inj hy ▸ at_ex ha) ((Step.refl c).setM f.2) rfl
    ⟨_, o, rfl, ⟨upd_self .., ItO.mono (c := c) ⟨ZLe.refl, PLe.refl, rfl⟩ i⟩, (fresh_step s f).2⟩
theorem iter_list (k : c.Ok Y) (s : Step c₀ c) (hv : VR Y c.Z c.φ (.list xs) a) (g : Go Y l (ItR Y c₀) (.ok xs c.H) c Q E) : wpAny Y.M A (pyIter a) Q E c.s := by
  obtain ⟨a, vs, n, rfl, ea, va, na⟩ := hv
  exact wpAny_pyIter_list (k.isList ea) (mk_iter k s (fun _ _ e => Heap.get?_push_of_some _ e) (Heap.get?_push_size _ rfl) (.inl ⟨a, vs, n, 0, rfl, rfl, ea, va⟩) g)
theorem iter_range {r : Addr} {i j : Int} {t u v : Tok} (k : c.Ok Y) (s : Step c₀ c) (hr : IsRange c.s.heap r i j 1 t u v) (hi : i.natAbs ≤ 1000000) (hj : j.natAbs ≤ 1000000) (g : Go Y l (ItR Y c₀) (.ok (rangeV i j) c.H) c Q E) :
    wpAny Y.M A (pyIter (.ref r)) Q E c.s := by
  have hs : Builtin.Range.rangeSize i j 1 = ((j - i).toNat : Int) := by
    unfold Builtin.Range.rangeSize
    simp only [show (1 : Int) > 0 from by decide, if_true]
    split
    · rw [Int.ediv_one]; omega
    · omega
  refine wpAny_pyIter_range hr ?_ ?_
  · unfold Builtin.Range.small Builtin.Range.rangeFitsLong
    rw [hs]
    simp only [Bool.and_eq_true, decide_eq_true_eq, Bool.or_eq_true]
    refine ⟨⟨⟨⟨⟨?_, ?_⟩, ⟨?_, ?_⟩⟩, ⟨?_, ?_⟩⟩, ⟨?_, ?_⟩⟩, .inr ?_⟩ <;> first | omega | (simp only [show (1 : Int) > 0 from by decide, if_true, Bool.and_eq_true, decide_eq_true_eq]; omega)
  · rw [hs]
    exact mk_iter k s (fun _ _ e => Heap.get?_push_of_some _ e) (Heap.get?_push_size _ rfl) (.inr ⟨i, (j - i).toNat, rfl, rfl⟩) g
variable {L : Addr} {fm : Str → Option Value}
theorem Go.heapI {m : List MV} (g : Go Y l (ItR Y c₀) (.ok m c.H) c Q E) (h : Heap) (tk : Nat) : Go Y l (ItR Y c₀) (.ok m (c.heap h tk).H) (c.heap h tk) Q E :=
  ⟨g.nb, fun c' v b k s => g.ok c' v b k ((Step.heap c h tk).trans s), fun c' k e a C B a0 o s => g.ex c' k e a C B a0 o ((Step.heap c h tk).trans s)⟩
theorem blt_range2 {i j : Int} {t u : Tok} (k : c.Ok Y) (s : Step c₀ c) (hL : c.Mu L = some (.fr fm)) (hi : i.natAbs ≤ 1000000) (hj : j.natAbs ≤ 1000000) (g : Go Y l (ItR Y c₀) (.ok (rangeV i j) c.H) c Q E) :
    wpAny Y.M A (call (.type "range") [.int i t, .int j u]) (fun x s₁ => wpAny Y.M A (pyIter x) Q E s₁) E c.s :=
  range2_rows (k.fr hL) (k.news L) fun h' tk _ _ _ hr _ _ hk => iter_range (c := c.heap h' tk) (k.heap tk hk) (s.trans (Step.heap c h' tk)) hr hi hj (g.heapI h' tk)
theorem blt_range1 {n : Int} {t : Tok} (k : c.Ok Y) (s : Step c₀ c) (hL : c.Mu L = some (.fr fm)) (hn : n.natAbs ≤ 1000000) (g : Go Y l (ItR Y c₀) (.ok (rangeV 0 n) c.H) c Q E) :
    wpAny Y.M A (call (.type "range") [.int n t]) (fun x s₁ => wpAny Y.M A (pyIter x) Q E s₁) E c.s :=
  range1_rows (k.fr hL) (k.news L) fun h' tk _ _ _ hr _ _ hk => iter_range (c := c.heap h' tk) (k.heap tk hk) (s.trans (Step.heap c h' tk)) hr (by decide) hn (g.heapI h' tk)
theorem ints_vrs {Z : ZM} {φ : PH} {vs : List Value} {is : List Int} (h : IntsAre vs is) : VRs Y Z φ (is.map .int) vs := by
  induction h with
  | nil => rfl
  | cons n t _ ih => exact ⟨.int n t, _, rfl, ⟨t, rfl⟩, ih⟩
theorem blt_sorted {m : MV} (k : c.Ok Y) (s : Step c₀ c) (hL : c.Mu L = some (.fr fm)) (hv : VR Y c.Z c.φ m a) (e : (m.list?.bind fun xs => (intsOf xs).bind fun is => guardO (decide (is.length ≤ 1)) (is.map MV.int)) = some xs) (g : Go Y l (ItR Y c₀) (.ok xs c.H) c Q E) :
    wpAny Y.M A (call (.builtin "sorted") [a]) (fun x s₁ => wpAny Y.M A (pyIter x) Q E s₁) E c.s := by
  obtain ⟨ys, q, e₁⟩ := of_bind e
  cases MV.list_of q
  obtain ⟨is, q1, e₂⟩ := of_bind e₁
  obtain ⟨p, rfl⟩ := of_guard e₂
  have h1 := of_decide_eq_true p
  obtain ⟨a, vs, n, rfl, ea, va, na⟩ := hv
  have hI := intsOf_are va q1
  refine sorted_N (k.fr hL) (k.news L) (k.isList ea) hI (Nat.lt_of_le_of_lt (hI.length ▸ h1 : vs.length ≤ 1) (by decide)) fun h' vs' ns' z F' N' hI' hp _ => ?_
  have hns : ns' = is := match is, h1, hp with
    | [], _, hp => hp.eq_nil
    | [x], _, hp => List.perm_singleton.mp hp
  subst hns
  have p := k.ledZ hL c.s.toks F'.ns (led_get N' fun p hp => .tail _ hp) (N' _ (.head _)).1 (Nat.le_succ _)
  refine iter_list (l := l) (c := c.setZ (c.s.heap.objs.size + 1) (listOf vs'.toArray z) h' c.s.toks) p.1 (s.trans p.2) ⟨_, vs', z, rfl, upd_self .., ints_vrs hI', by rw [List.length_map]; exact Nat.le_trans h1 (by decide)⟩ ?_
  exact ⟨g.nb, fun c' v b k s => g.ok c' v b k (p.2.trans s), fun c' k e a C B a0 o s => g.ex c' k e a C B a0 o (p.2.trans s)⟩
end
end Mini
end
noncomputable section
namespace Mini
open PySem PySem.W PySem.Calls PyProof.Rows
theorem lookup_hit {α : Type} {x : Str} {v : α} {r : List (Str × α)} : ((x, v) :: r).lookup x = some v := by rw [List.lookup_cons, beq_self_eq_true]
theorem lookup_skip {α : Type} {x y : Str} {v : α} {r : List (Str × α)} (h : x ≠ y) : ((y, v) :: r).lookup x = r.lookup x := by rw [List.lookup_cons, beq_eq_false_iff_ne.mpr h]
theorem lookup_mem {α : Type} {x : Str} {v : α} : ∀ {l : List (Str × α)}, l.lookup x = some v → (x, v) ∈ l
  | (n, k) :: r, h => if q : x = n then by subst q; rw [lookup_hit] at h; cases h; exact .head _ else by rw [lookup_skip q] at h; exact .tail _ (lookup_mem h)
theorem lookup_nodup {α : Type} : ∀ {l : List (Str × α)}, (l.map (·.1)).Nodup → ∀ {p : Str × α}, p ∈ l → l.lookup p.1 = some p.2
  | (n, k) :: r, h, p, hp => by
    have h := List.nodup_cons.mp h
    rcases List.mem_cons.mp hp with rfl | hp
    · exact lookup_hit
    · rw [lookup_skip fun e => h.1 (List.mem_map.mpr ⟨p, hp, e⟩)]; exact lookup_nodup h.2 hp
theorem lookup_map (f : Str → NameKind → NameKind) (x : Str) : ∀ (l : List (Str × NameKind)), (l.map fun p => (p.1, f p.1 p.2)).lookup x = (l.lookup x).map (f x)
  | [] => rfl
  | (n, k) :: r => by
    rw [List.map_cons]
    by_cases q : x = n
    · subst q; rw [lookup_hit, lookup_hit]; rfl
    · rw [lookup_skip q, lookup_skip q, lookup_map f x r]
abbrev cloStep (env : Env) : Str × NameKind → List (Str × Addr) → Sem (ForInStep (List (Str × Addr))) := fun x cs => match x with | (name, kind) => if (kind == .free) = true then cellOf env name >>= fun a => pure (ForInStep.yield ((name, a) :: cs)) else pure (ForInStep.yield cs)
theorem closure_go (env : Env) : ∀ (names : List (Str × NameKind)) (acc : List (Str × Addr)), (∀ p ∈ names, p.2 = .free → ∃ a, env.cells.lookup p.1 = some a) → (names.map (·.1)).Nodup →
    ∃ cl, (forIn names acc (cloStep env)) = (pure cl : Sem (List (Str × Addr))) ∧ (∀ p ∈ names, p.2 = .free → cl.lookup p.1 = env.cells.lookup p.1) ∧ ∀ x, (∀ p ∈ names, p.1 ≠ x) → cl.lookup x = acc.lookup x
  | [], acc, _, _ => ⟨acc, rfl, (fun _ h => nomatch h), fun _ _ => rfl⟩
  | (n, k) :: r, acc, hf, hd => by
    have hd := List.nodup_cons.mp hd
    have hn : ∀ p ∈ r, p.1 ≠ n := fun p hp e => hd.1 (List.mem_map.mpr ⟨p, hp, e⟩)
    by_cases q : (k == .free) = true
    · obtain ⟨a, ea⟩ := hf (n, k) (.head _) (beq_iff_eq.mp q)
      obtain ⟨cl, e1, e2, e3⟩ := closure_go env r ((n, a) :: acc) (fun p hp => hf p (.tail _ hp)) hd.2
      refine ⟨cl, ?_, fun p hp hk => ?_, fun x hx => (e3 x fun p hp => hx p (.tail _ hp)).trans (lookup_skip fun e => hx (n, k) (.head _) e.symm)⟩
      · rw [List.forIn_cons]
        have h1 : cellOf env n = pure a := by unfold cellOf; simp only at ea; rw [ea]
        have h2 : cloStep env (n, k) acc = pure (ForInStep.yield ((n, a) :: acc)) := (if_pos q).trans (by rw [h1]; rfl)
        rw [h2]
        exact e1
      · rcases List.mem_cons.mp hp with rfl | hp
        · exact ((e3 n hn).trans lookup_hit).trans ea.symm
        · exact e2 p hp hk
    · obtain ⟨cl, e1, e2, e3⟩ := closure_go env r acc (fun p hp => hf p (.tail _ hp)) hd.2
      refine ⟨cl, ?_, fun p hp hk => ?_, fun x hx => e3 x fun p hp => hx p (.tail _ hp)⟩
      · rw [List.forIn_cons]
        have h2 : cloStep env (n, k) acc = pure (ForInStep.yield acc) := if_neg q
        rw [h2]
        exact e1
      · rcases List.mem_cons.mp hp with rfl | hp
        · exact absurd (beq_iff_eq.mpr hk) q
        · exact e2 p hp hk
theorem closure_of {scope : Scope} {env : Env} (hf : ∀ p ∈ scope.names, p.2 = .free → ∃ a, env.cells.lookup p.1 = some a) (hd : (scope.names.map (·.1)).Nodup) :
    ∃ cl, closureFor scope env = pure cl ∧ ∀ p ∈ scope.names, p.2 = .free → cl.lookup p.1 = env.cells.lookup p.1 := by
  obtain ⟨cl, e1, e2, _⟩ := closure_go env scope.names [] hf hd
  refine ⟨cl, ?_, e2⟩
  show ((forIn scope.names ([] : List (Str × Addr)) (cloStep env)) >>= fun s => (pure s : Sem (List (Str × Addr)))) = _
  rw [e1]
  rfl
structure CompFacts (sc : SC) (scope : Scope) (y : Str) (x : Nat) : Prop where
  kind : scope.kind = .function
  yl : scope.names.lookup y = some .local
  y0 : y ≠ dot0
  vars : ∀ p ∈ sc.vars, p.2 ≠ x
  names : ∀ p ∈ scope.names, (p.2 = .local ∧ (p.1 = y ∨ p.1 = dot0)) ∨ p.2 = .globalImplicit ∨ (p.2 = .free ∧ sc.names.lookup p.1 = some .cell)
  nodup : (scope.names.map (·.1)).Nodup
  zero : sc.vars.lookup dot0 = none
theorem or_of {a b : Bool} (h : (a || b) = true) : a = true ∨ b = true := Bool.or_eq_true_iff.mp h
theorem compFacts {sc : SC} {scope : Scope} {y : Str} {x : Nat} (h : compOk sc scope y x = true) : CompFacts sc scope y x :=
  have h0 := and_r h; have h := and_l h; have h6 := and_r h; have h := and_l h; have h5 := and_r h; have h := and_l h; have h4 := and_r h; have h := and_l h
  ⟨beq_iff_eq.mp (and_l (and_l h)), beq_iff_eq.mp (and_r (and_l h)), beq_eq_false_iff_ne.mp (not_t (and_r h)), fun p hp => bne_iff_ne.mp (List.all_eq_true.mp h4 p hp),
    fun p hp => (or_of (List.all_eq_true.mp h5 p hp)).elim (fun q => (or_of q).elim (fun q => .inl ⟨beq_iff_eq.mp (and_l q), (or_of (and_r q)).imp beq_iff_eq.mp beq_iff_eq.mp⟩) fun q => .inr (.inl (beq_iff_eq.mp q))) fun q => .inr (.inr ⟨beq_iff_eq.mp (and_l q), beq_iff_eq.mp (and_r q)⟩),
    of_decide_eq_true h6, Option.isNone_iff_eq_none.mp h0⟩
theorem inner_lookup (sc : SC) (names : List (Str × NameKind)) (y : Str) (x : Nat) (z : Str) : (sc.inner names y x).names.lookup z = (names.lookup z).map (innerK sc z) := lookup_map (innerK sc) z names
inductive InK (sc : SC) (y z : Str) : NameKind → NameKind → Prop
  | var : z = y → InK sc y z .local .local
  | zero : z = dot0 → InK sc y z .local .local
  | glob : InK sc y z .globalImplicit .globalImplicit
  | cell : z ≠ y → sc.names.lookup z = some .cell → InK sc y z .free .cell
theorem inner_kind {sc : SC} {scope : Scope} {y : Str} {x : Nat} (F : CompFacts sc scope y x) {z : Str} {k : NameKind} (h : (sc.inner scope.names y x).names.lookup z = some k) : ∃ k₀, scope.names.lookup z = some k₀ ∧ InK sc y z k₀ k := by
  rw [inner_lookup] at h
  obtain ⟨k₀, q, rfl⟩ := Option.map_eq_some_iff.mp h
  refine ⟨k₀, q, ?_⟩
  rcases F.names _ (lookup_mem q) with ⟨a, b | b⟩ | a | ⟨a, b⟩
  · cases a; exact .var b
  · cases a; exact .zero b
  · cases a; exact .glob
  · cases a
    have e : innerK sc z .free = .cell := by unfold innerK; rw [show sc.names.lookup z = some .cell from b]; rfl
    rw [e]; exact .cell (fun e => by rw [e, F.yl] at q; cases q) b
theorem relabel_names {env : Env} {sc : SC} (V : EnvOk env sc) (scope : Scope) (y : Str) (x : Nat) : (relabel scope env).names = (sc.inner scope.names y x).names := by
  unfold relabel SC.inner innerK
  simp only
  apply List.map_congr_left
  intro p _
  obtain ⟨n, k⟩ := p
  simp only
  have h1 : (env.scope.kind == ScopeKind.function) = true := by rw [V.kind]; rfl
  rw [h1, V.k n]
  simp only [Bool.true_and, Bool.and_true]
  split <;> rfl
noncomputable def compEnv (env : Env) (scope : Scope) (L : Addr) (cl : List (Str × Addr)) : Env :=
  { newEnv scope L env.globals cl env.qual none .none (some env) builtinsNs with scope := relabel scope env }
section
variable {Y : Sys} {A : Around} {l : List Env} {env : Env} {sc : SC} {scope : Scope} {y : Str} {x : Nat}
theorem compEnv_ok (V : EnvOk env sc) (F : CompFacts sc scope y x) (L : Addr) (cl : List (Str × Addr)) : EnvOk (compEnv env scope L cl) (sc.inner scope.names y x) := by
  refine ⟨relabel_names V scope y x, F.kind, V.glob, V.blt, fun h => ?_⟩
  obtain ⟨k₀, _, i⟩ := inner_kind F ((congrArg (List.lookup _) (relabel_names V scope y x)).symm.trans h)
  cases i
theorem lget_set_ne (loc : Loc) {i j : Nat} (v : LV) (h : j ≠ i) : lget (loc.set i v) j = lget loc j := by
  unfold lget; rw [List.getD_eq_getElem?_getD, List.getD_eq_getElem?_getD, List.getElem?_set_ne (Ne.symm h)]
theorem lget_set (loc : Loc) (i : Nat) (v : LV) : lget (loc.set i v) i = v ∨ lget (loc.set i v) i = .un := by
  unfold lget
  rw [List.getD_eq_getElem?_getD]
  by_cases hx : i < loc.length
  · rw [List.getElem?_set_self hx]; exact .inl rfl
  · rw [List.getElem?_eq_none (by rw [List.length_set]; exact Nat.le_of_not_lt hx)]; exact .inr rfl
theorem slot_of {sc : SC} {z : Str} {i : Nat} (h : sc.slot z = some i) : (∃ k, sc.names.lookup z = some k ∧ (k = .local ∨ k = .cell ∨ k = .free)) ∧ (z == dbg) = false ∧ sc.vars.lookup z = some i := by
  have hd := slot_dbg h
  unfold SC.slot at h
  split at h
  · rename_i q
    refine ⟨?_, hd, h⟩
    rcases or_of (and_l q) with q | q
    · rcases or_of q with q | q
      · exact ⟨_, beq_iff_eq.mp q, .inl rfl⟩
      · exact ⟨_, beq_iff_eq.mp q, .inr (.inl rfl)⟩
    · exact ⟨_, beq_iff_eq.mp q, .inr (.inr rfl)⟩
  · cases h
theorem slot_cell {sc : SC} {z : Str} {i : Nat} (h : sc.names.lookup z = some .cell) (hd : (z == dbg) = false) (hv : sc.vars.lookup z = some i) : sc.slot z = some i := by
  unfold SC.slot SC.isOwn
  rw [h, hd, if_pos (by rw [show ((some NameKind.cell) == some NameKind.cell) = true from rfl, Bool.or_true, Bool.true_or]; rfl)]; exact hv
theorem compEnv_loc (V : EnvOk env sc) (F : CompFacts sc scope y x) {L : Addr} {cl : List (Str × Addr)} {c : Cf} {loc : Loc} {m : Str → Option Value} {rv : Value} {v : MV}
    (hcl : ∀ p ∈ scope.names, p.2 = .free → cl.lookup p.1 = env.cells.lookup p.1) (hl : LocR Y env sc loc c) (hm : c.Mu L = some (.fr m)) (hy : m y = some rv) (hv : VR Y c.Z c.φ v rv) :
    LocR Y (compEnv env scope L cl) (sc.inner scope.names y x) (loc.set x (.val v)) c := by
  intro z i hz hu
  obtain ⟨⟨k, hk, hkk⟩, hd, hvars⟩ := slot_of hz
  obtain ⟨k₀, q, ik⟩ := inner_kind F hk
  have K := ((compEnv_ok V F L cl).k z).trans hk
  cases ik with
  | var e =>
    subst e
    cases (lookup_hit (r := sc.vars)).symm.trans hvars
    rcases lget_set loc x (.val v) with e | e
    · exact ⟨rv, .inl ⟨K, m, hm, hy⟩, e.symm ▸ hv⟩
    · exact absurd e hu
  | zero e =>
    subst e
    cases ((lookup_skip (Ne.symm F.y0)).trans F.zero).symm.trans hvars
  | glob => rcases hkk with h | h | h <;> cases h
  | cell hne b =>
    have hvars : sc.vars.lookup z = some i := (lookup_skip hne).symm.trans hvars
    have hlg := lget_set_ne loc (.val v) (F.vars (z, i) (lookup_mem hvars))
    rw [hlg] at hu ⊢
    obtain ⟨r, hs, hr⟩ := hl z i (slot_cell b hd hvars) hu
    refine ⟨r, .inr ⟨.inl K, ?_⟩, hr⟩
    rcases hs with ⟨kd, _⟩ | ⟨_, a, e1, e2⟩
    · cases ((V.k z).trans b).symm.trans kd
    · exact ⟨a, (hcl _ (lookup_mem q) rfl).trans e1, e2⟩
theorem compEnv_cells (F : CompFacts sc scope y x) {L : Addr} {cl : List (Str × Addr)}
    (hcl : ∀ p ∈ scope.names, p.2 = .free → cl.lookup p.1 = env.cells.lookup p.1) (hc : ∀ z, sc.names.lookup z = some .cell → ∃ a, env.cells.lookup z = some a) :
    ∀ z, (sc.inner scope.names y x).names.lookup z = some .cell → ∃ a, (compEnv env scope L cl).cells.lookup z = some a := fun z hz => by
  obtain ⟨k₀, q, ik⟩ := inner_kind F hz
  cases ik with
  | cell hne b =>
    obtain ⟨d, e⟩ := hc z b
    exact ⟨d, (hcl _ (lookup_mem q) rfl).trans e⟩
abbrev testsOf (ifs : List Expr) (cenv : Env) : Sem Bool := forIn ifs true fun c r => if r = true then do let ok ← isTrue c cenv (eval c cenv); pure (ForInStep.yield ok) else pure (ForInStep.yield r)
noncomputable def Turn (Y : Sys) (A : Around) (c : Cf) (cenv : Env) (ifs : List Expr) (elt : Expr) (y : Str) (g : MV → MH → RS (Option MV)) : Prop :=
  ∀ (c' : Cf) (rv : Value) (v : MV) (m : Str → Option Value) (r : Option MV) (H : MH) (E : Value → Shared → Prop) (Q₁ : Value → Shared → Prop) (Q₂ : Shared → Prop), c'.Ok Y → Step c c' → c'.Mu cenv.locals = some (.fr m) → m y = some rv → VR Y c'.Z c'.φ v rv → g v c'.H = .ok r H →
    (∀ c₂ x mv, c₂.Ok Y → Step c' c₂ → r = some mv → H = c₂.H → VR Y c₂.Z c₂.φ mv x → Q₁ x c₂.s) → (∀ c₂, c₂.Ok Y → Step c' c₂ → r = none → H = c₂.H → Q₂ c₂.s) →
    wpAny Y.M A (testsOf ifs cenv) (fun ok s₃ => if ok = true then wpAny Y.M A (eval elt cenv) Q₁ E s₃ else Q₂ s₃) E c'.s
structure LoopI (Y : Sys) (c c' : Cf) (g : MV → MH → RS (Option MV)) (tgt : RS (List MV)) (L D it : Addr) (rest don : List MV) (dvs : List Value) (dn : Nat) (m : Str → Option Value) (o : Obj) : Prop where
  ok : c'.Ok Y
  st : Step c c'
  it : Iter Y c' it rest o
  fr : c'.Mu L = some (.fr m)
  acc : c'.Mu D = some (.ex (listOf dvs.toArray dn))
  vr : VRs Y c'.Z c'.φ don dvs
  eq : ((mapR g rest c'.H).bind fun ws H => .ok (don ++ ws) H) = tgt
  le : don.length + rest.length ≤ 1000
theorem RS.assoc {α β γ : Type} (r : RS α) (f : α → MH → RS β) (g : β → MH → RS γ) : (r.bind f).bind g = r.bind fun a H => (f a H).bind g := by cases r <;> rfl
theorem mapR_cons {g : MV → MH → RS (Option MV)} {v : MV} {r : List MV} {H : MH} {f : List MV → MH → RS (List MV)} (h : (mapR g (v :: r) H).bind f ≠ .bad) : ∃ o H₁, g v H = .ok o H₁ := by
  unfold mapR at h
  cases q : g v H with
  | ok o H => exact ⟨o, H, rfl⟩
  | ex _ _ => rw [q] at h; exact absurd rfl h
  | bad => rw [q] at h; exact absurd rfl h
theorem comp_loop {cenv : Env} {elt iter : Expr} {yp : Pos} {ifs : List Expr} {scope : Scope} {pos : Pos} {D it : Addr} {c c₁ : Cf} {g : MV → MH → RS (Option MV)} {tgt : RS (List MV)} {vs : List MV} {m₀ : Str → Option Value} {n₀ : Nat} {o : Obj}
    {R : Result → Shared → Prop} (hk : cenv.kindOf y = some .local) (hkind : cenv.scope.kind = .function) (hh : A.handled = none) (body : Turn Y A c cenv ifs elt y g)
    (f1 : c.Mu cenv.locals = none) (f2 : c.Mu D = none) (f3 : c.Mu it = none) (I₀ : LoopI Y c c₁ g tgt cenv.locals D it vs [] [] n₀ m₀ o) (hb : tgt ≠ .bad)
    (done : ∀ c' ws m dvs n, c'.Ok Y → Step c c' → tgt = .ok ws c'.H → c'.Mu cenv.locals = some (.fr m) → c'.Mu D = some (.ex (listOf (dvs : List Value).toArray n)) → VRs Y c'.Z c'.φ ws dvs → ws.length ≤ 1000 → R (.ok .next) c'.s) :
    codeAny Y.M A (.compLoop (.ListComp elt [⟨.Name y yp, iter, ifs, 0⟩] scope pos) 0 (.ref it) (.ref D) cenv) R c₁.s := by
  refine codeAny_compLoop_tests (fun n s => ∃ rest don c' dvs dn m o, (rest : List MV).length = n ∧ c'.s = s ∧ LoopI Y c c' g tgt cenv.locals D it rest don dvs dn m o) (fun n s hI => ?_) vs.length ⟨vs, [], c₁, [], n₀, m₀, o, rfl, rfl, I₀⟩
  obtain ⟨rest, don, c', dvs, dn, m, o, rfl, rfl, I⟩ := hI
  cases rest with
  | nil =>
    refine wp_next_end I.ok I.it hh fun hp ok' => ?_
    exact done (c'.setM it none hp c'.s.toks) don m dvs dn ok' (I.st.setM f3) (I.eq.symm.trans (by rw [mapR]; exact congrArg (RS.ok · _) (List.append_nil _))) ((Cf.setM_ne (Ne.symm (fr_ne_ex I.it.mu I.fr))).trans I.fr) ((Cf.setM_ne (Ne.symm (I.it.neD I.acc))).trans I.acc) I.vr I.le
  | cons v rest =>
    obtain ⟨ro, Hr, hg⟩ := mapR_cons (fun e => hb (I.eq.symm.trans e))
    refine wp_next I.ok I.it fun r o' hp tk ok2 hr hI2 => ?_
    refine wpAny_assign_Name (wpAny_storeName_local hk (ok2.ns ((Cf.setM_ne (Ne.symm (fr_ne_ex I.it.mu I.fr))).trans I.fr)) (fun h' hns hsb => ?_) (by rw [hkind]; rfl))
    have ok3 := ok2.setM (x := some (.fr (fun z => if z = y then some r else m z))) (tk + 1) (ok2.un ((Cf.setM_ne (Ne.symm (fr_ne_ex I.it.mu I.fr))).trans I.fr) rfl) (fun b x n e => (hsb.2 b n).trans e) fun z hz => Option.some.inj hz ▸ at_fr hns
    have st3 := (I.st.setM (x := some (.ex o')) (h := hp) (tk := tk) f3).setM (x := some (.fr (fun z => if z = y then some r else m z))) (h := h') (tk := tk + 1) f1
    have it3 : Iter Y ((c'.setM it (some (.ex o')) hp tk).setM cenv.locals (some (.fr (fun z => if z = y then some r else m z))) h' (tk + 1)) it rest o' :=
      ⟨(Cf.setM_ne (fr_ne_ex I.it.mu I.fr)).trans (Cf.setM_m ..), ItO.mono (c := c') ⟨ZLe.refl, PLe.refl, rfl⟩ hI2⟩
    have acc3 : ((c'.setM it (some (.ex o')) hp tk).setM cenv.locals (some (.fr (fun z => if z = y then some r else m z))) h' (tk + 1)).Mu D = some (.ex (listOf dvs.toArray dn)) :=
      (Cf.setM_ne (fr_ne_ex I.acc I.fr)).trans ((Cf.setM_ne (Ne.symm (I.it.neD I.acc))).trans I.acc)
    have fr3 : ((c'.setM it (some (.ex o')) hp tk).setM cenv.locals (some (.fr (fun z => if z = y then some r else m z))) h' (tk + 1)).Mu cenv.locals = some (.fr (fun z => if z = y then some r else m z)) := Cf.setM_m ..
    refine wpAny_mono (body ((c'.setM it (some (.ex o')) hp tk).setM cenv.locals (some (.fr (fun z => if z = y then some r else m z))) h' (tk + 1)) r v _ ro Hr _ _ _ ok3 st3 fr3 (if_pos rfl) hr hg (fun c₂ x mv k2 t2 e1 e2 hx => ?_) fun c₂ k2 t2 e1 e2 => ?_) (fun _ _ h => h) fun _ _ h => h
    · subst e1 e2
      have hd2 := t2.keep rfl acc3
      have hv2 := VRs.mono t2.z t2.p don I.vr
      have hle : (don ++ [mv]).length + rest.length ≤ 1000 := by rw [List.length_append, Nat.add_assoc, Nat.add_comm [mv].length]; exact I.le
      have hz : dvs.length ≤ 999 := hv2.length ▸ Nat.le_of_succ_le_succ (Nat.le_trans (by rw [List.length_append]; exact Nat.le_add_right _ _) hle)
      refine wpAny_list_append_plain ⟨dn, ex_at (k2.inv.m _ _ hd2)⟩ (fun h4 ⟨n4, hp4⟩ hs4 => ?_) (line_ok (Nat.le_trans (m := 999) hz (by decide)))
      have ok4 := k2.setM (x := some (.ex (listOf (dvs ++ [x]).toArray n4))) c₂.s.toks (k2.un hd2 rfl) (fun b x n e => (hs4.2 b n).trans e) fun z hz => Option.some.inj hz ▸ at_ex (hp4.trans (by rw [List.push_toArray]))
      have ne := I.it.neD I.acc
      refine ⟨rest.length, Nat.lt_succ_self _, rest, don ++ [mv], c₂.setM D (some (.ex (listOf (dvs ++ [x]).toArray n4))) h4 c₂.s.toks, dvs ++ [x], n4, _, o', rfl, rfl, ok4, (st3.trans t2).setM f2,
        ⟨(Cf.setM_ne ne).trans (it3.step t2).mu, ItO.mono (c := c₂) ⟨ZLe.refl, PLe.refl, rfl⟩ (it3.step t2).o⟩, (Cf.setM_ne (Ne.symm (fr_ne_ex I.acc I.fr))).trans (t2.keep rfl fr3), Cf.setM_m .., hv2.append ⟨x, [], rfl, hx, rfl⟩, ?_, hle⟩
      rw [← I.eq, mapR]
      show _ = (RS.bind (match g v c'.H with | .ok (some w) H₁ => (mapR g rest H₁).bind fun ws H₂ => .ok (w :: ws) H₂ | .ok Option.none H₁ => mapR g rest H₁ | _ => .bad) _)
      rw [show g v c'.H = .ok (some mv) c₂.H from hg]
      show (mapR g rest c₂.H).bind _ = ((mapR g rest c₂.H).bind _).bind _
      rw [RS.assoc]
      exact congrArg _ (funext fun ws => funext fun H => congrArg (RS.ok · H) (List.append_assoc don [mv] ws))
    · subst e1 e2
      refine ⟨rest.length, Nat.lt_succ_self _, rest, don, c₂, dvs, dn, _, o', rfl, rfl, k2, st3.trans t2, it3.step t2, t2.keep rfl fr3, t2.keep rfl acc3, VRs.mono t2.z t2.p don I.vr, ?_, Nat.le_trans (Nat.add_le_add_left (Nat.le_succ _) _) I.le⟩
      rw [← I.eq, mapR]
      show _ = (RS.bind (match g v c'.H with | .ok (some w) H₁ => (mapR g rest H₁).bind fun ws H₂ => .ok (w :: ws) H₂ | .ok Option.none H₁ => mapR g rest H₁ | _ => .bad) _)
      rw [show g v c'.H = .ok none c₂.H from hg]
end
end Mini
end
noncomputable section
namespace Mini
open PySem PySem.W PySem.Calls PyProof.Rows
noncomputable def compR (ri : RS (List MV)) (g : MV → MH → RS (Option MV)) : RS MV := ri.bind fun vs H => if 1000 < vs.length then RS.bad else (mapR g vs H).bind fun ws H => .ok (MV.list ws) H
section
variable {Y : Sys} {A : Around} {l : List Env} {env : Env} {sc : SC} {scope : Scope} {y : Str} {x : Nat} {c : Cf} {Q : Value → Shared → Prop} {E : Value → Shared → Prop}
noncomputable def SI (Y : Sys) (A : Around) (l : List Env) (iter : Expr) (env : Env) (ri : RS (List MV)) (c : Cf) : Prop := ∀ Q E, Go Y l (ItR Y c) ri c Q E → wpAny Y.M A (eval iter env) (fun xv s₁ => wpAny Y.M A (pyIter xv) Q E s₁) E c.s
variable {elt iter : Expr} {yp : Pos} {ifs : List Expr} {pos p₁ : Pos} {ri : RS (List MV)} {g : MV → MH → RS (Option MV)} {use : Option (Value → Sem Unit)} {cl : List (Str × Addr)} {vs : List MV} {H₁ : MH} {it D L : Addr} {o : Obj}
noncomputable def CompFin (Y : Sys) (A : Around) (c : Cf) (ri : RS (List MV)) (g : MV → MH → RS (Option MV)) (use : Option (Value → Sem Unit)) (Q : Value → Shared → Prop) (E : Value → Shared → Prop) : Prop :=
  ∀ c' D ws m L, c'.Ok Y → Step c c' → compR ri g = .ok (.list ws) c'.H → VR Y c'.Z c'.φ (.list ws) (.ref D) → c'.Mu L = some (.fr m) → c.Mu L = none → compPost Y.M A E use Q (.ref D) L (.ok .next) c'.s
theorem comp_in {c₃ : Cf} (V : EnvOk env sc) (F : CompFacts sc scope y x) (hh : A.handled = none) (body : Turn Y A c (compEnv env scope L cl) ifs elt y g)
    (er : compR ri g = (mapR g vs c₃.H).bind fun ws H => .ok (MV.list ws) H) (hb : compR ri g ≠ .bad) (hle : vs.length ≤ 1000) (fin : CompFin Y A c ri g use Q E)
    (k : c₃.Ok Y) (t : Step c c₃) (i : Iter Y c₃ it vs o) (fi : c.Mu it = none) (hD : c₃.Mu D = some (.ex (listOf #[] 0))) (fD : c.Mu D = none) (hL : c₃.Mu L = some (.fr fun _ => none)) (fL : c.Mu L = none) :
    codeAny Y.M A (.compStart (.ListComp elt [⟨.Name y yp, iter, ifs, 0⟩] scope pos) 0 (.ref it) (.ref D) (compEnv env scope L cl)) (compPost Y.M A E use Q (.ref D) L) c₃.s := by
  have KY : (compEnv env scope L cl).kindOf y = some .local := ((compEnv_ok V F L cl).k y).trans (by rw [inner_lookup, F.yl]; rfl)
  have main : codeAny Y.M A (.compLoop (.ListComp elt [⟨.Name y yp, iter, ifs, 0⟩] scope pos) 0 (.ref it) (.ref D) (compEnv env scope L cl)) (compPost Y.M A E use Q (.ref D) L) c₃.s := by
    refine comp_loop (c := c) (g := g) (tgt := mapR g vs c₃.H) KY F.kind hh body fL fD fi ⟨k, t, i, hL, hD, rfl, by cases mapR g vs c₃.H <;> rfl, by rw [List.length_nil, Nat.zero_add]; exact hle⟩ (fun e => hb (er.trans (by rw [e]; rfl))) ?_
    intro c' ws m dvs n k' t' e' l' d' v' z'
    have u := k'.un d' rfl
    have kf := k'.setZ (o := listOf dvs.toArray n) (h := c'.s.heap) c'.s.toks u (fun _ _ _ e => e) (ex_at (k'.inv.m _ _ d'))
    exact fin (c'.setZ D (listOf dvs.toArray n) c'.s.heap c'.s.toks) D ws m L kf (t'.setZ fD u.z) (er.trans (by rw [e']; rfl)) ⟨D, dvs, n, rfl, upd_self .., VRs.mono (ZLe.upd u.z) PLe.refl _ v', ten_k z'⟩ ((upd_ne (Ne.symm (fr_ne_ex d' l'))).trans l') fL
  refine codeAny_compStart_list main ?_
  obtain ⟨mu, ⟨a, ws, n, j, h⟩ | ⟨x, n, rfl, _⟩⟩ := i
  · exact wpAny_pyIter_listiter ⟨_, ex_at (k.inv.m _ _ mu), h.cls, h.data⟩ main
  · exact wpAny_pyIter_rangeiter (ex_at (k.inv.m _ _ mu)) main
theorem comp_env {c₂ : Cf} (V : EnvOk env sc) (F : CompFacts sc scope y x) (hh : A.handled = none) (body : ∀ L, Turn Y A c (compEnv env scope L cl) ifs elt y g)
    (er : compR ri g = (mapR g vs c₂.H).bind fun ws H => .ok (MV.list ws) H) (hb : compR ri g ≠ .bad) (hle : vs.length ≤ 1000) (fin : CompFin Y A c ri g use Q E)
    (k : c₂.Ok Y) (t : Step c c₂) (i : Iter Y c₂ it vs o) (fi : c.Mu it = none) (hD : c₂.Mu D = some (.ex (listOf #[] 0))) (fD : c.Mu D = none) :
    wpAny Y.M A (newFunctionEnv scope env.globals cl [] env.qual none .none (some env)) (fun cenv s₄ => codeAny Y.M A (.compStart (.ListComp elt [⟨.Name y yp, iter, ifs, 0⟩] scope pos) 0 (.ref it) (.ref D) { cenv with scope := relabel scope env }) (compPost Y.M A E use Q (.ref D) cenv.locals) s₄) E c₂.s := by
  have hnc : ∀ p ∈ scope.names, p.2 ≠ .cell := fun p hp hk => by
    rcases F.names p hp with ⟨a, _⟩ | a | ⟨a, _⟩ <;> cases hk.symm.trans a
  refine wpAny_newFunctionEnv hnc (fun _ h => nomatch h) (fun h' hns hsb => ?_) F.kind
  have fL := k.free (Nat.le_refl c₂.s.heap.objs.size)
  have k₃ := k.setM (x := some (.fr fun _ => none)) (h := h') c₂.s.toks (un_free fL) (fun b o n e => hsb.extBut b o n (Heap.get?_push_of_some _ e)) fun z hz => Option.some.inj hz ▸ at_fr hns
  exact comp_in (c₃ := c₂.setM c₂.s.heap.objs.size (some (.fr fun _ => none)) h' c₂.s.toks) V F hh (body _) er hb hle fin k₃ (t.setM (fresh_step t fL).2) ⟨(Cf.setM_ne (ne_none fL.2 i.mu)).trans i.mu, ItO.mono (c := c₂) ⟨ZLe.refl, PLe.refl, rfl⟩ i.o⟩ fi
    ((Cf.setM_ne (ne_none fL.2 hD)).trans hD) fD (Cf.setM_m ..) (fresh_step t fL).2
theorem comp_core (V : EnvOk env sc) (F : CompFacts sc scope y x) (hh : A.handled = none) (hit : ∀ x, foldedSetIterable iter env x = pure x)
    (hcells : ∀ z, sc.names.lookup z = some .cell → ∃ a, env.cells.lookup z = some a) (hI : SI Y A l iter env ri c)
    (body : ∀ L cl, (∀ p ∈ scope.names, p.2 = .free → cl.lookup p.1 = env.cells.lookup p.1) → Turn Y A c (compEnv env scope L cl) ifs elt y g)
    (hb : compR ri g ≠ .bad) (hx : ∀ c' k e a C B a0, c'.Ok Y → Step c c' → ri = .ex k c'.H → Flown Y c' l e k a C B a0 → E e c'.s) (fin : CompFin Y A c ri g use Q E) :
    wpAny Y.M A (comprehension (.ListComp elt [⟨.Name y yp, iter, ifs, 0⟩] scope pos) scope env p₁ (newList []) false (eval iter env) use) Q E c.s := by
  have hfree : ∀ p ∈ scope.names, p.2 = .free → ∃ a, env.cells.lookup p.1 = some a := fun p hp hk => by
    rcases F.names p hp with ⟨a, _⟩ | a | ⟨_, b⟩
    · cases hk.symm.trans a
    · cases hk.symm.trans a
    · exact hcells _ b
  obtain ⟨cl, hclos, hcl⟩ := closure_of hfree F.nodup
  refine wpAny_comprehension_free (g := ⟨.Name y yp, iter, ifs, 0⟩) (gs := []) rfl hit hclos F.kind (fun p hp hk => (lookup_nodup F.nodup hp).trans (congrArg some hk)) ?_
  refine hI _ _ ⟨fun e => hb (by unfold compR; rw [e]; rfl), fun c₁ _ vs k₁ t₁ e₁ i => ?_, fun c' k e a C B a0 o s e' => hx c' k e a C B a0 o s e'⟩
  obtain ⟨it, o, rfl, i₁, fi⟩ := i
  have er : compR ri g = (if 1000 < vs.length then RS.bad else (mapR g vs c₁.H).bind fun ws H => .ok (MV.list ws) H) := by unfold compR; rw [e₁]; rfl
  have hle : ¬ 1000 < vs.length := fun h => hb (er.trans (if_pos h))
  refine wpAny_newList ?_
  have fD := k₁.free (Nat.le_refl c₁.s.heap.objs.size)
  exact comp_env (c₂ := c₁.setM c₁.s.heap.objs.size (some (.ex (listOf #[] 0))) (c₁.s.heap.push (listOf #[] 0)) c₁.s.toks) V F hh (fun L => body L cl hcl) (er.trans (if_neg hle)) hb (Nat.le_of_not_lt hle) fin
    (k₁.setM c₁.s.toks (un_free fD) (fun _ _ _ e => Heap.get?_push_of_some _ e) fun z hz => Option.some.inj hz ▸ at_ex (Heap.get?_push_size _ rfl)) (t₁.setM (fresh_step t₁ fD).2)
    ⟨(Cf.setM_ne (ne_none fD.2 i₁.mu)).trans i₁.mu, ItO.mono (c := c₁) ⟨ZLe.refl, PLe.refl, rfl⟩ i₁.o⟩ fi (Cf.setM_m ..) (fresh_step t₁ fD).2
end
end Mini
end
noncomputable section
namespace Mini
open PySem PySem.W PySem.Calls PyProof.Rows
structure At (A : Around) (l : List Env) (D U : Nat) : Prop where
  fr : A.frames = some l
  h : A.handled = none
  d : A.depth ≤ D
  u : A.units ≤ U
noncomputable def CallPost (Q : Value → Shared → Prop) (E : Value → Shared → Prop) (r : Result) (s : Shared) : Prop := match r with
  | .ok (.ret v) => Q v s
  | .ok _ => False
  | .error e => E e s
noncomputable def CallOk (Y : Sys) (cf : Nat → List MV → MH → RS MV) (D U : Nat) : Prop :=
  ∀ (f : Nat) (a : Addr) (args : List MV) (vals : List Value) (c : Cf) (A : Around) (l : List Env), flook f Y.T.fadr = some a → NotInit Y.P f → c.Ok Y → VRs Y c.Z c.φ args vals → FramesOk c l → At A l D U →
    ∀ Q E, Go Y l (VRc Y) (cf f args c.H) c Q E → codeAny Y.M A (.call (.ref a) ⟨vals, []⟩) (CallPost Q E) c.s
structure RecD (Y : Sys) (cf : Nat → List MV → MH → RS MV) (c : Cf) (ci : Nat) (k : MCls) (dx : Addr) (args : List MV) (c' : Cf) (ms : List MV) (es : List DictEntry) (n : Nat) (vs : List Value) : Prop where
  ok : c'.Ok Y
  st : ∀ d : Cf, Step d c → d.Mu dx = none → Step d c'
  z : ZLe c.Z c'.Z
  eq : cf k.init args c.H = .ok (.inst ci ms) c'.H
  mu : c'.Mu dx = some (.ex (dictOf es n))
  en : Ents Y.T.hs (k.flds.map (nameOf Y.T)) vs es
  vr : VRs Y c'.Z c'.φ ms vs
noncomputable def RecOk (Y : Sys) (cf : Nat → List MV → MH → RS MV) (D U : Nat) : Prop :=
  ∀ (ci : Nat) (k : MCls) (C a x dx : Addr) (args : List MV) (vals : List Value) (c : Cf) (A : Around) (l : List Env), Y.P.cls[ci]? = some k → k.record = true → Y.T.cadr[ci]? = some C → flook k.init Y.T.fadr = some a → c.Ok Y →
    c.Z x = some (instObj C dx) → c.Mu dx = some (.ex (dictOf [] 0)) → VRs Y c.Z c.φ args vals → FramesOk c l → At A l D U → cf k.init args c.H ≠ .bad →
    ∀ R : Result → Shared → Prop, (∀ c' ms es n vs, RecD Y cf c ci k dx args c' ms es n vs → R (.ok (.ret .none)) c'.s) → codeAny Y.M A (.call (.ref a) ⟨.ref x :: vals, []⟩) R c.s
section
variable {Y : Sys} {A : Around} {l : List Env} {c : Cf}
theorem At.type {D U : Nat} (h : At A l D U) (C : Addr) (vals : List Value) : At (A.under (.builtin "type.__call__" ⟨.ref C :: vals, []⟩)) l (D + 1) (U + 1) :=
  ⟨h.fr, h.h, (depth_under_make A C vals).symm ▸ Nat.succ_le_succ h.d, Nat.succ_le_succ h.u⟩
theorem free_of (k : c.Ok Y) {L x dx : Addr} (h1 : ∀ p ∈ full [L] c.s.heap, p.1 < dx) (h2 : dx ≤ x) (hx : x ≠ L) : c.Z x = none ∧ c.Mu x = none :=
  have hn : ∀ o, c.s.heap.get? x ≠ some o := fun o e => Nat.lt_irrefl _ (Nat.lt_of_lt_of_le (h1 (x, o) (mem_full (fun q => hx (List.mem_singleton.mp q)) e)) h2)
  ⟨Option.eq_none_iff_forall_ne_some.mpr fun o e => hn o (k.inv.z _ _ e), Option.eq_none_iff_forall_ne_some.mpr fun o e => let ⟨o, q, _⟩ := k.inv.m _ _ e; hn o q⟩
theorem FramesOk.some (F : FramesOk c l) (hl : l ≠ []) : ∃ L m, c.Mu L = some (.fr m) := match l, hl, F with
  | e :: _, _, F => let ⟨_, L, m, _, h⟩ := F e (.head _); ⟨L, m, h⟩
noncomputable def Cf.addO (c : Cf) (x dx C : Addr) (ci : Nat) (h : Heap) : Cf := { Z := upd c.Z x (some (instObj C dx)), Mu := upd c.Mu dx (some (.st (dictOf [] 0))), φ := c.φ ++ [(x, dx)], H := c.H ++ [⟨ci, []⟩], s := { c.s with heap := h } }
theorem addO_ok {x dx C : Addr} {ci : Nat} {k : MCls} {h : Heap} (ok : c.Ok Y) (hk : Y.P.cls[ci]? = some k) (hr : k.record = false) (hC : Y.T.cadr[ci]? = some C) (okh : (c.heap h c.s.toks).Ok Y) (fx : c.Z x = none ∧ c.Mu x = none) (fd : c.Z dx = none ∧ c.Mu dx = none) (hxd : x ≠ dx)
    (gx : h.get? x = some (instObj C dx)) (gd : h.get? dx = some (dictOf [] 0)) : (c.addO x dx C ci h).Ok Y ∧ Step c (c.addO x dx C ci h) := by
  have zle : ZLe c.Z (upd c.Z x (some (instObj C dx))) := ZLe.upd fx.1
  have hlen := ok.hr.len
  refine ⟨⟨?_, ⟨by show (c.φ ++ _).length = (c.H ++ _).length; rw [List.length_append, List.length_append, hlen]; rfl, fun i o e => ?_, ?_⟩, fun a o e => zle a o (ok.base a o e)⟩, ⟨zle, PLe.append, rfl⟩, fun a y e => ⟨y, (upd_ne (ne_none fd.2 e)).trans e, fun _ => rfl⟩⟩
  · refine ⟨fun a o e => ?_, fun a y e => ?_, fun a y e => ?_⟩
    · exact (upd_cases e).elim (fun q => by cases q.2; exact q.1 ▸ gx) fun q => okh.inv.z a o q.2
    · rcases upd_cases e with ⟨rfl, q⟩ | q
      · cases q; exact ⟨_, gd, rfl⟩
      · exact okh.inv.m a y q.2
    · refine (upd_cases e).elim (fun q => q.1 ▸ (upd_ne (Ne.symm hxd)).trans fd.1) fun q => (upd_ne (ne_none fx.2 q.2)).trans (ok.inv.d a y q.2)
  · rcases Nat.lt_or_ge i c.H.length with hi | hi
    · obtain ⟨x', dx', es, n, vs, kk, C', q1, O⟩ := ok.hr.obj i o ((List.getElem?_append_left hi).symm.trans e)
      exact ⟨x', dx', es, n, vs, kk, C', PLe.append _ _ q1, O.mono zle PLe.append ((upd_ne (ne_none fd.2 O.mu)).trans O.mu)⟩
    · have e' : [(⟨ci, []⟩ : MObj)][i - c.H.length]? = some o := (List.getElem?_append_right hi).symm.trans e
      have hi' : i = c.H.length := Nat.le_antisymm (Nat.le_of_not_lt fun hlt => by rw [List.getElem?_eq_none (Nat.le_sub_of_add_le (by rw [Nat.add_comm]; exact hlt))] at e'; cases e') hi
      subst hi'
      rw [Nat.sub_self] at e'
      cases e'
      exact ⟨x, dx, [], 0, [], k, C, (hlen ▸ List.getElem?_concat_length : (c.φ ++ [(x, dx)])[c.H.length]? = _), upd_self .., .nil, rfl, hk, hr, hC, upd_self .., fun _ h => nomatch h⟩
  · show ((c.φ ++ [(x, dx)]).map (·.2)).Nodup
    rw [List.map_append, List.nodup_append]
    refine ⟨ok.hr.nd, List.nodup_cons.mpr ⟨(fun h => nomatch h), List.nodup_nil⟩, fun a ha b hb' => ?_⟩
    rw [List.mem_singleton.mp hb']
    obtain ⟨⟨px, pd⟩, hp, rfl⟩ := List.mem_map.mp ha
    obtain ⟨i, hi, ei⟩ := List.getElem_of_mem hp
    obtain ⟨x', dx', es, n, vs, kk, C', q1, O⟩ := ok.hr.obj i _ (List.getElem?_eq_getElem (hlen ▸ hi))
    have q := (List.getElem?_eq_getElem hi).symm.trans q1
    rw [ei] at q
    cases q
    exact ne_none fd.2 O.mu
theorem wp_new_obj {cf : Nat → List MV → MH → RS MV} {D U : Nat} (CO : CallOk Y cf (D + 1) (U + 1)) {ci : Nat} {k : MCls} {C : Addr} {args : List MV} {vals : List Value} (ok : c.Ok Y) (hk : Y.P.cls[ci]? = some k) (hr : k.record = false)
    (hC : Y.T.cadr[ci]? = some C) (hv : VRs Y c.Z c.φ args vals) (F : FramesOk c l) (hl : l ≠ []) (hA : At A l D U) :
    Wk Y A l (call (.ref C) vals) (VRc Y) ((cf k.init (.obj c.H.length :: args) (c.H ++ [⟨ci, []⟩])).bind fun r H' => opt r.none? fun _ => RS.ok (MV.obj c.H.length) H') c := fun Q E g => by
  have CK := cls_at hk hC
  obtain ⟨fI, e1, e2, e3⟩ := CK.init
  obtain ⟨L, fm, hL⟩ := F.some hl
  refine wpAny_call (make_K (ok.fr hL) (ok.news L) ok.kin CK.makes e2 (beq_iff_eq.mp e3) fun x dx h' F' N' lt1 lt2 => ?_)
  have hfx := free_of ok lt1 (Nat.le_of_lt lt2) (N' _ (.head _)).2.1
  have hfd := free_of ok lt1 (Nat.le_refl _) (N' _ (.tail _ (.head _))).2.1
  obtain ⟨ok1, st1⟩ := addO_ok (ci := ci) ok hk hr hC (ok.led hL _ F'.ns (led_get N' fun p hp => .tail _ (.tail _ hp))) hfx hfd (Nat.ne_of_gt lt2) (N' _ (.head _)).1 (N' _ (.tail _ (.head _))).1
  have hself : VR Y (c.addO x dx C ci h').Z (c.addO x dx C ci h').φ (.obj c.H.length) (.ref x) := ⟨x, dx, rfl, (ok.hr.len ▸ List.getElem?_concat_length : (c.φ ++ [(x, dx)])[c.H.length]? = _)⟩
  refine codeAny_mono (CO k.init fI (.obj c.H.length :: args) (.ref x :: vals) (c.addO x dx C ci h') _ l e1 (Y.recs ci k hk hr) ok1 ⟨_, _, rfl, hself, VRs.mono st1.z st1.p _ hv⟩ (F.step st1) (hA.type C vals)
    (fun v s => v = .none ∧ Q (.ref x) s) E ⟨RS.bind_nb g.nb, fun c' v m k' s' e rv => ?_, fun c' k e a C' B a0 o s e' => g.ex c' k e a C' B a0 o (st1.trans s) (by rw [show c.H ++ [⟨ci, []⟩] = (c.addO x dx C ci h').H from rfl, e']; rfl)⟩) fun r' s' h => ?_
  · have q : ((cf k.init (.obj c.H.length :: args) (c.H ++ [⟨ci, []⟩])).bind fun r H' => opt r.none? fun _ => RS.ok (MV.obj c.H.length) H') = opt m.none? fun _ => RS.ok (MV.obj c.H.length) c'.H := by
      rw [show c.H ++ [⟨ci, []⟩] = (c.addO x dx C ci h').H from rfl, e]; rfl
    cases m with
    | none => exact ⟨rv, g.ok c' _ _ k' (st1.trans s') q (VR.mono s'.z s'.p _ hself)⟩
    | _ => exact absurd q g.nb
  · cases r' with
    | error e => exact h
    | ok f => cases f with
      | ret v => obtain ⟨rfl, h⟩ := h; exact ⟨rfl, h⟩
      | _ => exact h.elim
where RS.bind_nb {α β : Type} {r : RS α} {f : α → MH → RS β} (h : r.bind f ≠ .bad) : r ≠ .bad := fun e => h (e ▸ rfl)
theorem wp_new_rec {cf : Nat → List MV → MH → RS MV} {D U : Nat} (RO : RecOk Y cf (D + 1) (U + 1)) {ci : Nat} {k : MCls} {C : Addr} {args : List MV} {vals : List Value} (ok : c.Ok Y) (hk : Y.P.cls[ci]? = some k) (hr : k.record = true)
    (hC : Y.T.cadr[ci]? = some C) (hv : VRs Y c.Z c.φ args vals) (F : FramesOk c l) (hl : l ≠ []) (hA : At A l D U) :
    Wk Y A l (call (.ref C) vals) (VRc Y) (cf k.init args c.H) c := fun Q E g => by
  have CK := cls_at hk hC
  obtain ⟨fI, e1, e2, e3⟩ := CK.init
  obtain ⟨L, fm, hL⟩ := F.some hl
  refine wpAny_call (make_K (ok.fr hL) (ok.news L) ok.kin CK.makes e2 (beq_iff_eq.mp e3) fun x dx h' F' N' lt1 lt2 => ?_)
  have hfx := free_of ok lt1 (Nat.le_of_lt lt2) (N' _ (.head _)).2.1
  have hfd := free_of ok lt1 (Nat.le_refl _) (N' _ (.tail _ (.head _))).2.1
  have p := ok.ledZ' hL c.s.toks F'.ns (led_get N' fun p hp => .tail _ (.tail _ hp)) (N' _ (.head _)).1 hfx
  have ok2 := p.1.setM (x := some (.ex (dictOf [] 0))) (h := h') (a := dx) c.s.toks (un_free ⟨(upd_ne (Nat.ne_of_lt lt2)).trans hfd.1, (upd_ne (Nat.ne_of_lt lt2)).trans hfd.2⟩) (fun _ _ _ e => e) fun z hz => Option.some.inj hz ▸ at_ex (N' _ (.tail _ (.head _))).1
  have st2 := p.2.setM (x := some (.ex (dictOf [] 0))) (h := h') (tk := c.s.toks) hfd.2
  refine RO ci k C fI x dx args vals ((c.setZ x (instObj C dx) h' c.s.toks).setM dx (some (.ex (dictOf [] 0))) h' c.s.toks) _ l hk hr hC e1 ok2 (upd_self ..) (upd_self ..) (VRs.mono st2.z st2.p _ hv) (F.step st2) (hA.type C vals) g.nb _ fun c' ms es n vs d => ⟨rfl, ?_⟩
  have u := d.ok.un d.mu rfl
  refine g.ok (c'.setZ dx (dictOf es n) c'.s.heap c'.s.toks) _ (.inst ci ms) (d.ok.setZ c'.s.toks u (fun _ _ _ e => e) (ex_at (d.ok.inv.m _ _ d.mu))) ((d.st c st2 hfd.2).setZ hfd.2 u.z) d.eq ?_
  have zle := ZLe.upd (o := some (dictOf es n)) u.z
  exact ⟨x, dx, k, C, es, n, vs, rfl, ⟨hk, hr, hC, zle _ _ (d.z _ _ (upd_self ..)), upd_self ..⟩, d.en, VRs.mono zle PLe.refl _ d.vr⟩
end
end Mini
end
noncomputable section
namespace Mini
open PySem PySem.W PySem.Calls PyProof.Rows
structure Blk (Y : Sys) where
  A : Around
  l : List Env
  env : Env
  sc : SC
  cf : Nat → List MV → MH → RS MV
  D : Nat
  U : Nat
  V : EnvOk env sc
  N : l ≠ []
  C : ∀ z, sc.names.lookup z = some .cell → ∃ a, env.cells.lookup z = some a
  CO : CallOk Y cf (D + 1) (U + 1)
  RO : RecOk Y cf (D + 1) (U + 1)
  at_ : At A l D U
  u : A.units + 20 < cLine
structure Ex {Y : Sys} (B : Blk Y) (loc : Loc) (c : Cf) : Prop where
  L : LocR Y B.env B.sc loc c
  K : c.Ok Y
  F : FramesOk c B.l
section
variable {Y : Sys}
theorem Ex.step {B : Blk Y} {loc : Loc} {c c' : Cf} (x : Ex B loc c) (s : Step c c') (k : c'.Ok Y) : Ex B loc c' := ⟨x.L.step s, k, x.F.step s⟩
theorem Ex.top {B : Blk Y} {loc : Loc} {c : Cf} (x : Ex B loc c) : ∃ L m, c.Mu L = some (.fr m) := x.F.some B.N
abbrev Blk.E (B : Blk Y) (me : ME) (loc : Loc) (H : MH) : RS MV := evalE Y.P B.cf me loc H
noncomputable def SE (Y : Sys) (me : ME) : Prop := ∀ (B : Blk Y) (e : Expr) (loc : Loc) (c : Cf), ok Y.T B.sc me e = true → Ex B loc c → Wk Y B.A B.l (eval (ex Y.T me e) B.env) (VRc Y) (evalE Y.P B.cf me loc c.H) c
structure SEs (Y : Sys) (es : MEs) : Prop where
  args : ∀ (B : Blk Y) (xs : List Expr) (loc : Loc) (c : Cf) (p : Pos), oks Y.T B.sc es xs = true → Ex B loc c → Wk Y B.A B.l (spliced (backTo p (starEach (exs Y.T es xs) B.env))) (VRsc Y) (evalEs Y.P B.cf es loc c.H) c
  stars : ∀ (sc : SC) (xs : List Expr), oks Y.T sc es xs = true → NoStars (exs Y.T es xs)
  bool : ∀ (a : Bool) (B : Blk Y) (xs : List Expr) (loc : Loc) (c : Cf) (p : Pos), oks Y.T B.sc es xs = true → Ex B loc c → Wk Y B.A B.l (boolOp p (if a then .And else .Or) (evalEach (exs Y.T es xs) B.env)) (VRc Y) (evalB Y.P B.cf a es loc c.H) c
structure SC' (Y : Sys) (cs : MCs) : Prop where
  chain : ∀ (B : Blk Y) (xs : List Expr) (loc : Loc) (c : Cf) (v : Value) (m : MV) (p : Pos), okC Y.T B.sc cs xs = true → Ex B loc c → VRc Y c v m → Wk Y B.A B.l (compareChain p v (opsC cs) (evalEach (exC Y.T cs xs) B.env)) (VRc Y) ((evalC Y.P B.cf m cs loc c.H).bind fun b H => .ok (.bool b) H) c
  test : ∀ (B : Blk Y) (xs : List Expr) (loc : Loc) (c : Cf) (v : Value) (m : MV) (p : Pos), okC Y.T B.sc cs xs = true → Ex B loc c → VRc Y c v m → Wk Y B.A B.l (testChain p v (opsC cs) (evalEach (exC Y.T cs xs) B.env)) Bc (evalC Y.P B.cf m cs loc c.H) c
  marks : ∀ (sc : SC) (xs : List Expr) (env : Env), okC Y.T sc cs xs = true → markedEach (opsC cs) (exC Y.T cs xs) (evalEach (exC Y.T cs xs) env) = evalEach (exC Y.T cs xs) env
noncomputable def ST (Y : Sys) (t : MT) : Prop := ∀ (B : Blk Y) (e : Expr) (loc : Loc) (c : Cf), okT Y.T B.sc t e = true → Ex B loc c → Wk Y B.A B.l (isTrue (exT Y.T t e) B.env (eval (exT Y.T t e) B.env)) Bc (evalT Y.P B.cf t loc c.H) c
noncomputable def STs (Y : Sys) (ts : MTs) : Prop := ∀ (a : Bool) (B : Blk Y) (xs : List Expr) (loc : Loc) (c : Cf), okTs Y.T B.sc ts xs = true → Ex B loc c → Wk Y B.A B.l (allTrue (if a then .And else .Or) (exTs Y.T ts xs) B.env) Bc (evalTs Y.P B.cf a ts loc c.H) c
structure SIt (Y : Sys) (it : MI) : Prop where
  run : ∀ (B : Blk Y) (e : Expr) (loc : Loc) (c : Cf), okI Y.T B.sc it e = true → Ex B loc c → SI Y B.A B.l (exI Y.T it e) B.env (evalI Y.P B.cf it loc c.H) c
  plain : ∀ (sc : SC) (e : Expr) (env : Env) (x : Value), okI Y.T sc it e = true → foldedSetIterable (exI Y.T it e) env x = pure x
theorem wp_of {A : Around} {α : Type} {t t' : Sem α} {Q : α → Shared → Prop} {E : Value → Shared → Prop} {s : Shared} (e : t = t') (h : wpAny Y.M A t' Q E s) : wpAny Y.M A t Q E s := e ▸ h
theorem se_bad : SE Y .bad := fun _ _ _ _ _ _ _ _ g => absurd rfl g.nb
theorem se_none : SE Y .none := fun _ _ _ _ _ x _ _ g => wpAny_Constant_none (g.here x.K rfl)
theorem se_tt : SE Y .tt := fun _ _ _ _ _ x _ _ g => wpAny_Constant_bool (g.here x.K rfl)
theorem se_ff : SE Y .ff := fun _ _ _ _ _ x _ _ g => wpAny_Constant_bool (g.here x.K rfl)
theorem se_int (i : Nat) : SE Y (.int i) := fun _ _ _ _ _ x _ _ g => wpAny_Constant_int (g.tok x.K _ ⟨_, rfl⟩)
theorem se_neg (i : Nat) : SE Y (.neg i) := fun _ _ _ _ _ x _ _ g => wpAny_UnaryOp (wpAny_Constant_int (neg_int (g.tok x.K _ ⟨_, rfl⟩)))
theorem se_bnil : SE Y .bnil := fun _ _ _ _ _ x _ _ g => Constant_bytes (g.tok x.K _ ⟨_, rfl, (fun _ h => nomatch h), Nat.zero_le _⟩)
theorem se_gint (n : Nat) (i : Int) : SE Y (.gint n i) := fun B _ _ _ h x _ _ g => glob_int B.V x.K h fun t => g.here x.K ⟨t, rfl⟩
theorem se_var (i : Nat) : SE Y (.var i) := fun B e loc c h x Q E g => by
  obtain ⟨v, q, g⟩ := Go.opt (o := (lget loc i).val?) g
  exact eval_slot B.V x.K x.L (beq_iff_eq.mp h) (LV.val_of q) (fun z => nomatch z) fun r _ hv => g.here x.K hv
theorem se_attr (a : ME) (f : Nat) (ha : SE Y a) : SE Y (.attr a f) := fun B e loc c h x Q E g => by
  refine Attribute_any_ ((ha B _ loc c (and_l h) x).seq g fun c₁ v m k₁ s₁ r₁ g => ?_) (by
    have := not_t (and_r h)
    revert this
    cases ex Y.T a (parts e).a <;> first | exact fun _ => rfl | exact fun h => nomatch h)
  obtain ⟨r, q, g⟩ := g.opt
  exact wp_getAttr k₁ r₁ q g
theorem eval_Bin (a : Expr) (o : Operator) (b : Expr) (pos : Pos) (env : Env) : eval (.BinOp a o b pos) env = (eval a env >>= fun x => holding [x] (eval b env) >>= fun y => standAt pos >>= fun _ => operate [x, y] (binaryOp o x y)) := rfl
theorem se_bin (o : Op) (a b : ME) (ha : SE Y a) (hb : SE Y b) : SE Y (.bin o a b) := fun B e loc c h x Q E g => by
  refine wp_of (eval_Bin _ _ _ _ _) (wpAny_bind ((ha B _ loc c (and_l h) x).seq g fun c₁ v m k₁ s₁ r₁ g => wpAny_bind (wpAny_holding ((hb B _ loc c₁ (and_r h) (x.step s₁ k₁)).seq g fun c₂ w n k₂ s₂ r₂ g => wpAny_bind (wpAny_standAt (wpAny_operateT ?_))))))
  obtain ⟨L, fm, hL⟩ := ((x.step s₁ k₁).step s₂ k₂).top
  obtain ⟨r, q, g⟩ := g.opt
  exact wp_binop k₂ hL (r₁.step s₂.toStB) r₂ q g
theorem se_cmp (a : ME) (cs : MCs) (ha : SE Y a) (hc : SC' Y cs) : SE Y (.cmp a cs) := fun B e loc c h x Q E g => by
  refine wp_of (arm_eval_Compare ..) (wpAny_bind ((ha B _ loc c (and_l h) x).seq g fun c₁ v m k₁ s₁ r₁ g => ?_))
  rw [hc.marks B.sc _ _ (and_r h)]
  exact hc.chain B _ loc c₁ v m _ (and_r h) (x.step s₁ k₁) r₁ _ _ g
theorem se_isNone (a : ME) (ha : SE Y a) : SE Y (.isNone a) := fun B e loc c h x Q E g =>
  wpAny_Compare1 ((ha B _ loc c h x).seq g fun c₁ v m k₁ s₁ r₁ g => wpAny_Constant_none (wpAny_is_plain (vr_none r₁).1 ((vr_none r₁).2 ▸ g.here k₁ rfl))) rfl
theorem se_notNone (a : ME) (ha : SE Y a) : SE Y (.notNone a) := fun B e loc c h x Q E g =>
  wpAny_Compare1 ((ha B _ loc c h x).seq g fun c₁ v m k₁ s₁ r₁ g => wpAny_Constant_none (wpAny_isNot_plain (vr_none r₁).1 ((vr_none r₁).2 ▸ g.here k₁ rfl))) rfl
theorem se_and (es : MEs) (hs : SEs Y es) : SE Y (.and es) := fun B e loc c h x Q E g => hs.bool true B _ loc c _ h x Q E g
theorem se_or (es : MEs) (hs : SEs Y es) : SE Y (.or es) := fun B e loc c h x Q E g => hs.bool false B _ loc c _ h x Q E g
theorem se_not (a : ME) (ha : SE Y a) : SE Y (.not a) := fun B e loc c h x Q E g =>
  wpAny_UnaryOp ((ha B _ loc c h x).seq g fun c₁ v m k₁ s₁ r₁ g => let ⟨_, q, g⟩ := g.opt; not_of (wp_truth r₁ q (g.here k₁ rfl)))
theorem se_ite (t : MT) (a b : ME) (ht : ST Y t) (ha : SE Y a) (hb : SE Y b) : SE Y (.ite t a b) := fun B e loc c h x Q E g =>
  wpAny_IfExp ((ht B _ loc c (and_l h) x).seq g fun c₁ v b' k₁ s₁ r₁ g => match v, b', r₁, g with
    | true, _, rfl, g => ha B _ loc c₁ (and_l (and_r h)) (x.step s₁ k₁) Q E g
    | false, _, rfl, g => hb B _ loc c₁ (and_r (and_r h)) (x.step s₁ k₁) Q E g)
theorem eval_Sub (v s : Expr) (pos : Pos) (env : Env) : eval (.Subscript v s pos) env = (eval v env >>= fun o => holding [o] (eval s env) >>= fun i => standAt pos >>= fun _ => subscriptTail v s o i) := rfl
theorem se_idx (a b : ME) (ha : SE Y a) (hb : SE Y b) : SE Y (.idx a b) := fun B e loc c h x Q E g =>
  wp_of (eval_Sub ..) (wpAny_bind ((ha B _ loc c (and_l h) x).seq g fun c₁ v m k₁ s₁ r₁ g => wpAny_bind (wpAny_holding ((hb B _ loc c₁ (and_l (and_r h)) (x.step s₁ k₁)).seq g fun c₂ w n k₂ s₂ r₂ g => wpAny_bind (wpAny_standAt (let ⟨_, q, g⟩ := g.opt; wp_idx k₂ (and_r (and_r h)) (r₁.step s₂.toStB) r₂ q g))))))
end
end Mini
end
noncomputable section
namespace Mini
open PySem PySem.W PySem.Calls PyProof.Rows
section
variable {Y : Sys}
section
variable {A : Around} {s : Shared} {E : Value → Shared → Prop} {Q : Value → Shared → Prop} {env : Env} {p q : Pos} {x : Expr} {o : Value}
theorem slice_end {vl vu : Value} {lo hi : Option Expr} (h : wpAny Y.M A (newFields "slice" [vl, vu, .none]) (fun i s₂ => wpAny Y.M A (subscriptTail x (.Slice lo hi none p) o i) Q E s₂) E s) :
    wpAny Y.M A (newFields "slice" [vl, vu, .none]) (fun i s' => wpAny Y.M A (standAt q >>= fun _ => subscriptTail x (.Slice lo hi none p) o i) Q E s') E s :=
  wpAny_mono h (fun _ _ h => wpAny_bind (wpAny_standAt h)) fun _ _ h => h
theorem slice_0 {Q : Value → Shared → Prop} (h : wpAny Y.M A (newFields "slice" [.none, .none, .none]) Q E s) : wpAny Y.M A (eval (.Slice none none none p) env) Q E s :=
  wpAny_bind (wpAny_pure (wpAny_bind (wpAny_holding (wpAny_pure (wpAny_bind (wpAny_holding (wpAny_pure h)))))))
theorem slice_L {lo : Expr} {Q : Value → Shared → Prop} (h : wpAny Y.M A (eval lo env) (fun vl s₁ => wpAny Y.M A (newFields "slice" [vl, .none, .none]) Q E s₁) E s) : wpAny Y.M A (eval (.Slice (some lo) none none p) env) Q E s :=
  wpAny_bind (wpAny_mono h (fun _ _ h => wpAny_bind (wpAny_holding (wpAny_pure (wpAny_bind (wpAny_holding (wpAny_pure h)))))) fun _ _ h => h)
theorem slice_U {hi : Expr} {Q : Value → Shared → Prop} (h : wpAny Y.M A (eval hi env) (fun vu s₁ => wpAny Y.M A (newFields "slice" [.none, vu, .none]) Q E s₁) E s) : wpAny Y.M A (eval (.Slice none (some hi) none p) env) Q E s :=
  wpAny_bind (wpAny_pure (wpAny_bind (wpAny_holding (wpAny_mono h (fun _ _ h => wpAny_bind (wpAny_holding (wpAny_pure h))) fun _ _ h => h))))
theorem slice_LU {lo hi : Expr} {Q : Value → Shared → Prop} (h : wpAny Y.M A (eval lo env) (fun vl s₁ => wpAny Y.M A (eval hi env) (fun vu s₂ => wpAny Y.M A (newFields "slice" [vl, vu, .none]) Q E s₂) E s₁) E s) : wpAny Y.M A (eval (.Slice (some lo) (some hi) none p) env) Q E s :=
  wpAny_bind (wpAny_mono h (fun _ _ h => wpAny_bind (wpAny_holding (wpAny_mono h (fun _ _ h => wpAny_bind (wpAny_holding (wpAny_pure h))) fun _ _ h => h))) fun _ _ h => h)
end
theorem part_of {Z : ZM} {φ : PH} {d : Bool} {v : Value} {m : MV} (h : VR Y Z φ m v) {xs : List MV} {b : Nat} (e : bd m xs.length = some b) : ∃ i, PartIs (bd m) d v (some i) := by
  obtain ⟨i, q, _⟩ := Option.map_eq_some_iff.mp e
  cases MV.int_of q
  obtain ⟨t, rfl⟩ := h
  exact ⟨i, .int i t, fun _ => rfl⟩
theorem sliceO_of {m r : MV} {fl fu : Nat → Option Nat} (h : sliceO m fl fu = some r) : ∃ xs a b, m = .list xs ∧ fl xs.length = some a ∧ fu xs.length = some b := by
  obtain ⟨xs, q, h1⟩ := of_bind h
  obtain ⟨a, h2, h3⟩ := of_bind h1
  obtain ⟨b, h4, _⟩ := Option.map_eq_some_iff.mp h3
  exact ⟨xs, a, b, MV.list_of q, h2, h4⟩
theorem slice_go {A : Around} {l : List Env} {c : Cf} {Q : Value → Shared → Prop} {E : Value → Shared → Prop} {x : Expr} {lo hi : Option Expr} {p : Pos} {vl vu o : Value} {fl fu : Nat → Option Nat} {il iu : Option Int} {m r : MV} (k : c.Ok Y)
    (ho : VR Y c.Z c.φ m o) (pl : PartIs fl false vl il) (pu : PartIs fu true vu iu) (e : sliceO m fl fu = some r) (g : Go Y l (VRc Y) (.ok r c.H) c Q E) :
    wpAny Y.M A (newFields "slice" [vl, vu, .none]) (fun i s₂ => wpAny Y.M A (subscriptTail x (.Slice lo hi none p) o i) Q E s₂) E c.s :=
  wp_slice k ho pl pu e fun q hv hl hs he ha => by subst q; exact g.list k _ ha (k.free hs) (fun b o _ q => he b o q) hv hl
theorem se_sliceA (a : ME) (ha : SE Y a) : SE Y (.sliceA a) := fun B e loc c h x Q E g =>
  wp_of (eval_Sub ..) (wpAny_bind ((ha B _ loc c h x).seq g fun c₁ v m k₁ s₁ r₁ g => wpAny_bind (wpAny_holding (slice_0 (slice_end (let ⟨_, q, g⟩ := g.opt; slice_go k₁ r₁ part_lo part_hi q g))))))
theorem se_sliceL (a b : ME) (ha : SE Y a) (hb : SE Y b) : SE Y (.sliceL a b) := fun B e loc c h x Q E g =>
  wp_of (eval_Sub ..) (wpAny_bind ((ha B _ loc c (and_l h) x).seq g fun c₁ v m k₁ s₁ r₁ g => wpAny_bind (wpAny_holding (slice_L ((hb B _ loc c₁ (and_r h) (x.step s₁ k₁)).seq g fun c₂ w n k₂ s₂ r₂ g => slice_end (by
    obtain ⟨r, q, g⟩ := g.opt
    obtain ⟨xs, _, _, _, e1, _⟩ := sliceO_of q
    obtain ⟨i, hp⟩ := part_of (d := false) r₂ e1
    exact slice_go k₂ (r₁.step s₂.toStB) hp part_hi q g))))))
theorem se_sliceU (a b : ME) (ha : SE Y a) (hb : SE Y b) : SE Y (.sliceU a b) := fun B e loc c h x Q E g =>
  wp_of (eval_Sub ..) (wpAny_bind ((ha B _ loc c (and_l h) x).seq g fun c₁ v m k₁ s₁ r₁ g => wpAny_bind (wpAny_holding (slice_U ((hb B _ loc c₁ (and_r h) (x.step s₁ k₁)).seq g fun c₂ w n k₂ s₂ r₂ g => slice_end (by
    obtain ⟨r, q, g⟩ := g.opt
    obtain ⟨xs, _, _, _, _, e1⟩ := sliceO_of q
    obtain ⟨i, hp⟩ := part_of (d := true) r₂ e1
    exact slice_go k₂ (r₁.step s₂.toStB) part_lo hp q g))))))
theorem se_sliceLU (a b d : ME) (ha : SE Y a) (hb : SE Y b) (hd : SE Y d) : SE Y (.sliceLU a b d) := fun B e loc c h x Q E g =>
  wp_of (eval_Sub ..) (wpAny_bind ((ha B _ loc c (and_l h) x).seq g fun c₁ v m k₁ s₁ r₁ g => wpAny_bind (wpAny_holding (slice_LU ((hb B _ loc c₁ (and_l (and_r h)) (x.step s₁ k₁)).seq g fun c₂ w n k₂ s₂ r₂ g =>
    (hd B _ loc c₂ (and_r (and_r h)) ((x.step s₁ k₁).step s₂ k₂)).seq g fun c₃ w' n' k₃ s₃ r₃ g => slice_end (by
    obtain ⟨r, q, g⟩ := g.opt
    obtain ⟨xs, _, _, _, e1, e2⟩ := sliceO_of q
    obtain ⟨i, hp⟩ := part_of (d := false) (r₂.step s₃.toStB) e1
    obtain ⟨j, hq⟩ := part_of (d := true) r₃ e2
    exact slice_go k₃ (r₁.step (s₂.trans s₃).toStB) hp hq q g))))))
theorem evalEs_len {P : Prg} {T : Tie} {cf : Nat → List MV → MH → RS MV} {loc : Loc} : ∀ {es : MEs} {xs : List Expr} {H H' : MH} {vs : List MV}, evalEs P cf es loc H = .ok vs H' → (exs T es xs).length = vs.length
  | .nil, _, _, _, _, e => by cases e; rfl
  | .cons e r, xs, H, H', vs, q => by
    have q' : ((evalE P cf e loc H).bind fun v H => (evalEs P cf r loc H).bind fun vs H => RS.ok (v :: vs) H) = .ok vs H' := q
    cases h1 : evalE P cf e loc H with
    | bad => rw [h1] at q'; cases q'
    | ex => rw [h1] at q'; cases q'
    | ok v H1 =>
      rw [h1] at q'
      have q' : ((evalEs P cf r loc H1).bind fun vs H => RS.ok (v :: vs) H) = .ok vs H' := q'
      cases h2 : evalEs P cf r loc H1 with
      | bad => rw [h2] at q'; cases q'
      | ex => rw [h2] at q'; cases q'
      | ok ws H2 => rw [h2] at q'; cases q'; exact congrArg (· + 1) (evalEs_len h2)
theorem SEs.seqL {es : MEs} (hs : SEs Y es) {B : Blk Y} {xs : List Expr} {loc : Loc} {c : Cf} {p : Pos} {γ δ : Type} {R' : Cf → γ → δ → Prop} {f : List MV → MH → RS δ} {Q : List Value → Shared → Prop} {Q' : γ → Shared → Prop} {E : Value → Shared → Prop} (h : oks Y.T B.sc es xs = true) (x : Ex B loc c)
    (g : Go Y B.l R' ((evalEs Y.P B.cf es loc c.H).bind f) c Q' E) (k : ∀ c' v b, c'.Ok Y → Step c c' → VRsc Y c' v b → b.length = (exs Y.T es xs).length → Go Y B.l R' (f b c'.H) c' Q' E → Q v c'.s) : wpAny Y.M B.A (spliced (backTo p (starEach (exs Y.T es xs) B.env))) Q E c.s :=
  hs.args B xs loc c p h x Q E ⟨fun e => g.nb (e ▸ rfl), fun c' v b o s e q => k c' v b o s q (evalEs_len e).symm (g.next s e), fun c' k' e' a C B a0 o s e fl => g.ex c' k' e' a C B a0 o s (e ▸ rfl) fl⟩
theorem se_tup (es : MEs) (hs : SEs Y es) : SE Y (.tup es) := fun B e loc c h x Q E g => by
  show wpAny _ _ (standAt _ >>= fun _ => spliced (backTo _ (starEach _ _)) >>= fun vs => newTuple vs) _ _ _
  refine wpAny_bind (wpAny_standAt (wpAny_bind (hs.seqL (and_l h) x g fun c₁ vs ms k₁ s₁ r₁ hl g => ?_)))
  have hz : ms.length ≤ 1000 := hl ▸ of_decide_eq_true (and_r h)
  exact wpAny_newTuple (g.tup k₁ _ (Heap.get?_push_size _ rfl) (k₁.free (Nat.le_refl _)) (fun _ _ _ e => Heap.get?_push_of_some _ e) r₁ (ten_k hz)) (line_k ((VRs.length r₁).symm ▸ hz : vs.length ≤ 1000))
theorem se_list (es : MEs) (hs : SEs Y es) : SE Y (.list es) := fun B e loc c h x Q E g => by
  show wpAny _ _ (standAt _ >>= fun _ => spliced (backTo _ (starEach _ _)) >>= fun vs => newList vs) _ _ _
  refine wpAny_bind (wpAny_standAt (wpAny_bind (hs.seqL (and_l h) x g fun c₁ vs ms k₁ s₁ r₁ hl g => ?_)))
  have hz : ms.length ≤ 1000 := hl ▸ of_decide_eq_true (and_r h)
  exact wpAny_newList (g.list (n := 0) k₁ _ (Heap.get?_push_size _ rfl) (k₁.free (Nat.le_refl _)) (fun _ _ _ e => Heap.get?_push_of_some _ e) r₁ (ten_k hz)) (line_k ((VRs.length r₁).symm ▸ hz : vs.length ≤ 1000))
theorem eval_Call (t : Pt) (xs : List Expr) (env : Env) : eval (exCall t xs) env = (eval (.Name t.s t.q) env >>= fun g => callWith t.p g [] (backTo t.p (starEach xs env)) []) := rfl
theorem At.mono {A : Around} {l : List Env} {D U : Nat} (h : At A l D U) : At A l (D + 1) (U + 1) := ⟨h.fr, h.h, Nat.le_succ_of_le h.d, Nat.le_succ_of_le h.u⟩
theorem wp_cf {B : Blk Y} {f : Nat} {a : Addr} {args : List MV} {vals : List Value} {c : Cf} (hf : flook f Y.T.fadr = some a) (hnr : NotInit Y.P f) (k : c.Ok Y) (F : FramesOk c B.l) (hv : VRs Y c.Z c.φ args vals) :
    Wk Y B.A B.l (call (.ref a) vals) (VRc Y) (B.cf f args c.H) c := fun Q E g => wpAny_call (codeAny_mono (B.CO f a args vals c B.A B.l hf hnr k hv F B.at_.mono Q E g) fun r s' h => by
  cases r with
  | ok fl => cases fl <;> first | exact h | exact h.elim
  | error e => exact h)
theorem se_call (f : Nat) (es : MEs) (hs : SEs Y es) : SE Y (.call f es) := fun B e loc c h x Q E g =>
  wp_of (eval_Call ..) (wpAny_bind (glob_fn B.V x.K (and_l h) fun a e1 e2 => wp_callRef (first := []) (hs.stars _ _ (and_r h)) e2 (hs.seqL (and_r h) x g fun c₁ vs ms k₁ s₁ r₁ hl g => ⟨k₁.kin, wp_cf e1 (Y.rfun _ f (gOk_of (and_l h)).2.1) k₁ (x.F.step s₁) r₁ Q E g⟩)))
theorem se_new (ci : Nat) (es : MEs) (hs : SEs Y es) : SE Y (.new ci es) := fun B e loc c h x Q E g =>
  wp_of (eval_Call ..) (wpAny_bind (glob_cls B.V x.K (and_l h) fun C e1 e2 => wp_callRef (first := []) (hs.stars _ _ (and_r h)) e2 (hs.seqL (and_r h) x g fun c₁ vs ms k₁ s₁ r₁ hl g => ⟨k₁.kin, by
    obtain ⟨k, ek, g⟩ := g.opt
    cases hr : k.record with
    | true => rw [if_pos hr] at g; exact wp_new_rec B.RO k₁ ek hr e1 r₁ (x.F.step s₁) B.N B.at_ Q E g
    | false => rw [if_neg (show ¬ k.record = true from fun q => Bool.noConfusion (hr.symm.trans q))] at g; exact wp_new_obj B.CO k₁ ek hr e1 r₁ (x.F.step s₁) B.N B.at_ Q E g⟩)))
theorem meth_init {P : Prg} {T : Tie} (rm : ∀ (cj : Nat) (k' : MCls) (m f : Nat), P.cls[cj]? = some k' → flook m k'.meths = some f → NotInit P f) {v : MV} {m f : Nat} {H : MH} (e : methOf P v m H = some f) : NotInit P f :=
  let ⟨ci, _, e⟩ := of_bind e; let ⟨k, h, e⟩ := of_bind e; rm ci k m f h e
theorem se_meth (a : ME) (mn : Nat) (es : MEs) (ha : SE Y a) (hs : SEs Y es) : SE Y (.meth a mn es) := fun B e loc c h x Q E g => by
  have h2 := and_r h
  have hc := not_t (and_l h2)
  have h3 := and_r h2
  have h4 := and_r h3
  have hst := hs.stars B.sc _ (and_l h3)
  refine wp_of (arm_eval_Call ..) ?_
  have hbase : attributeBase (ex Y.T a (parts e).a) (nameOf Y.T mn) B.env (eval (ex Y.T a (parts e).a) B.env) = eval (ex Y.T a (parts e).a) B.env := by
    revert hc
    cases ex Y.T a (parts e).a <;> first | exact fun _ => rfl | exact fun h => nomatch h
  rw [hbase]
  refine wpAny_bind ((ha B _ loc c (and_l h) x).seq g fun c₁ ov m k₁ s₁ r₁ g => wpAny_bind (wpAny_standAt ?_))
  obtain ⟨f, ef, g⟩ := g.opt
  have hform : methodCallForm ((exs Y.T es (parts e).xs).length + 0) (backTo (parts e).p (starEach (exs Y.T es (parts e).xs) B.env)) (backToKw (parts e).p (keywordEach [] B.env)) = true := by
    have hx : (exs Y.T es (parts e).xs).length ≤ 20 := of_decide_eq_true (and_l h4)
    have hall : (backTo (parts e).p (starEach (exs Y.T es (parts e).xs) B.env)).all (!·.1) = true := by
      have := backTo_plain (p := (parts e).p) (env := B.env) hst
      rw [List.all_eq_not_any_not]; simpa using this
    unfold methodCallForm
    rw [hall]
    simp [keywordEach, backToKw]; omega
  have hpos : methodCallPos true (ex Y.T a (parts e).a) B.env (parts e).q (parts e).p = pure (parts e).p := by
    unfold methodCallPos; rw [and_r h4]; rfl
  unfold methodCall
  rw [show ([] : List Keyword).length = 0 from rfl, hform]
  refine wpAny_bind (wpAny_holding (wp_method k₁ r₁ ef fun a e1 e2 => ?_))
  show wpAny _ _ (methodCallPos true _ B.env (parts e).q (parts e).p >>= fun cp => callWith cp (.ref a) [ov] (backTo (parts e).p (starEach _ B.env)) (backToKw (parts e).p (keywordEach [] B.env))) _ _ _
  rw [hpos]
  exact wpAny_bind (wpAny_pure (wp_callRef (first := [ov]) hst e2 (hs.seqL (and_l h3) (x.step s₁ k₁) g fun c₂ vs ms k₂ s₂ r₂ hl g => ⟨k₂.kin, wp_cf e1 (meth_init (T := Y.T) Y.rmeth ef) k₂ (x.F.step (s₁.trans s₂)) (show VRs Y c₂.Z c₂.φ (m :: ms) ([ov] ++ vs) from ⟨ov, vs, rfl, r₁.step s₂.toStB, r₂⟩) Q E g⟩)))
theorem wp_blt1 {B : Blk Y} {b : Nat} {a : ME} (ha : SE Y a) (hk : keeperOf (bltV b) = keeperOf (.builtin "len")) {e : Expr} {loc : Loc} {c : Cf} (h : okG Y.T B.sc e (.blt b) = true) (h2 : (ok Y.T B.sc a (hd1 (parts e).xs) && noStar (ex Y.T a (hd1 (parts e).xs))) = true) (x : Ex B loc c)
    {γ δ : Type} {R' : Cf → γ → δ → Prop} {f : MV → MH → RS δ} {Q : Value → Shared → Prop} {Q' : γ → Shared → Prop} {E : Value → Shared → Prop} (g : Go Y B.l R' ((evalE Y.P B.cf a loc c.H).bind f) c Q' E)
    (k : ∀ c₁ v m, c₁.Ok Y → Step c c₁ → VRc Y c₁ v m → Go Y B.l R' (f m c₁.H) c₁ Q' E → wpAny Y.M B.A (call (bltV b) [v]) Q E c₁.s) : wpAny Y.M B.A (eval (exCall (parts e) [ex Y.T a (hd1 (parts e).xs)]) B.env) Q E c.s :=
  wp_of (eval_Call ..) (wpAny_bind (glob_blt B.V x.K h (wp_callBlt (NoStars.cons (and_r h2) NoStars.nil) hk (by
    rw [backTo_cons (and_r h2)]
    exact spliced_cons ((ha B _ loc c (and_l h2) x).seq g fun c₁ v m k₁ s₁ r₁ g => spliced_nil (k c₁ v m k₁ s₁ r₁ g))))))
theorem wp_blt2 {B : Blk Y} {n : Nat} {a b : ME} (ha : SE Y a) (hb : SE Y b) (hk : keeperOf (bltV n) = keeperOf (.builtin "len")) {e : Expr} {loc : Loc} {c : Cf} (h : okG Y.T B.sc e (.blt n) = true) (h2 : (ok Y.T B.sc a (hd1 (parts e).xs) && noStar (ex Y.T a (hd1 (parts e).xs))) = true) (h3 : (ok Y.T B.sc b (hd2 (parts e).xs) && noStar (ex Y.T b (hd2 (parts e).xs))) = true) (x : Ex B loc c)
    {γ δ : Type} {R' : Cf → γ → δ → Prop} {f : MV → MV → MH → RS δ} {Q : Value → Shared → Prop} {Q' : γ → Shared → Prop} {E : Value → Shared → Prop} (g : Go Y B.l R' ((evalE Y.P B.cf a loc c.H).bind fun v H => (evalE Y.P B.cf b loc H).bind fun w H => f v w H) c Q' E)
    (k : ∀ c₂ v m w m', c₂.Ok Y → Step c c₂ → VRc Y c₂ v m → VRc Y c₂ w m' → Go Y B.l R' (f m m' c₂.H) c₂ Q' E → wpAny Y.M B.A (call (bltV n) [v, w]) Q E c₂.s) : wpAny Y.M B.A (eval (exCall (parts e) [ex Y.T a (hd1 (parts e).xs), ex Y.T b (hd2 (parts e).xs)]) B.env) Q E c.s :=
  wp_of (eval_Call ..) (wpAny_bind (glob_blt B.V x.K h (wp_callBlt (NoStars.cons (and_r h2) (NoStars.cons (and_r h3) NoStars.nil)) hk (by
    rw [backTo_cons (and_r h2), backTo_cons (and_r h3)]
    exact spliced_cons ((ha B _ loc c (and_l h2) x).seq g fun c₁ v m k₁ s₁ r₁ g => spliced_cons ((hb B _ loc c₁ (and_l h3) (x.step s₁ k₁)).seq g fun c₂ w m' k₂ s₂ r₂ g => spliced_nil (k c₂ v m w m' k₂ (s₁.trans s₂) (r₁.step s₂.toStB) r₂ g)))))))
theorem se_len (a : ME) (ha : SE Y a) : SE Y (.len a) := fun B e loc c h x Q E g => wp_blt1 ha rfl (and_l h) (and_r h) x g fun c₁ v m k₁ s₁ r₁ g => let ⟨_, q, g⟩ := g.opt; blt_len k₁ r₁ q g
theorem se_max1 (a : ME) (ha : SE Y a) : SE Y (.max1 a) := fun B e loc c h x Q E g => wp_blt1 ha rfl (and_l h) (and_r h) x g fun c₁ v m k₁ s₁ r₁ g => let ⟨_, q, g⟩ := g.opt; let ⟨_, _, hL⟩ := (x.step s₁ k₁).top; blt_max1 k₁ hL B.at_.h r₁ q g
theorem se_tupleOf (a : ME) (ha : SE Y a) : SE Y (.tupleOf a) := fun B e loc c h x Q E g => wp_blt1 ha rfl (and_l h) (and_r h) x g fun c₁ v m k₁ s₁ r₁ g => let ⟨_, q, g⟩ := g.opt; blt_tuple k₁ (MV.list_of q ▸ r₁) g
theorem se_bytesOf (a : ME) (ha : SE Y a) : SE Y (.bytesOf a) := fun B e loc c h x Q E g => wp_blt1 ha rfl (and_l h) (and_r h) x g fun c₁ v m k₁ s₁ r₁ g => let ⟨_, q, g⟩ := g.opt; blt_bytes k₁ r₁ q B.at_.h g
theorem se_min2 (a b : ME) (ha : SE Y a) (hb : SE Y b) : SE Y (.min2 a b) := fun B e loc c h x Q E g => wp_blt2 ha hb rfl (and_l h) (and_l (and_r h)) (and_r (and_r h)) x g fun c₂ v m w n k₂ s₂ r₁ r₂ g => by
  obtain ⟨_, q, g⟩ := g.opt
  obtain ⟨i, j, rfl, rfl, q⟩ := intz_of q
  obtain ⟨t, rfl⟩ := r₁; obtain ⟨u, rfl⟩ := r₂; cases q
  obtain ⟨L, fm, hL⟩ := (x.step s₂ k₂).top
  exact blt_min k₂ hL B.at_.h g
theorem se_max2 (a b : ME) (ha : SE Y a) (hb : SE Y b) : SE Y (.max2 a b) := fun B e loc c h x Q E g => wp_blt2 ha hb rfl (and_l h) (and_l (and_r h)) (and_r (and_r h)) x g fun c₂ v m w n k₂ s₂ r₁ r₂ g => by
  obtain ⟨_, q, g⟩ := g.opt
  obtain ⟨i, j, rfl, rfl, q⟩ := intz_of q
  obtain ⟨t, rfl⟩ := r₁; obtain ⟨u, rfl⟩ := r₂; cases q
  obtain ⟨L, fm, hL⟩ := (x.step s₂ k₂).top
  exact blt_max k₂ hL B.at_.h g
end
end Mini
end
noncomputable section
namespace Mini
open PySem PySem.W PySem.Calls PyProof.Rows
section
variable {Y : Sys}
noncomputable def Blk.inner (B : Blk Y) {scope : Scope} {y : Str} {x : Nat} (F : CompFacts B.sc scope y x) (L : Addr) (cl : List (Str × Addr)) (hcl : ∀ p ∈ scope.names, p.2 = .free → cl.lookup p.1 = B.env.cells.lookup p.1) : Blk Y :=
  { B with env := compEnv B.env scope L cl, sc := B.sc.inner scope.names y x, V := compEnv_ok B.V F L cl, C := compEnv_cells F hcl B.C }
theorem Ex.inner {B : Blk Y} {loc : Loc} {c c' : Cf} {scope : Scope} {y : Str} {x : Nat} {L : Addr} {cl : List (Str × Addr)} {m : Str → Option Value} {rv : Value} {v : MV} (xx : Ex B loc c) (F : CompFacts B.sc scope y x)
    (hcl : ∀ p ∈ scope.names, p.2 = .free → cl.lookup p.1 = B.env.cells.lookup p.1) (s : Step c c') (k : c'.Ok Y) (hm : c'.Mu L = some (.fr m)) (hy : m y = some rv) (hv : VR Y c'.Z c'.φ v rv) :
    Ex (B.inner F L cl hcl) (loc.set x (.val v)) c' := ⟨compEnv_loc B.V F hcl (xx.L.step s) hm hy hv, k, xx.F.step s⟩
noncomputable def compG (P : Prg) (cf : Nat → List MV → MH → RS MV) (elt : ME) (y : Nat) (loc : Loc) : MV → MH → RS (Option MV) := fun v H => (evalE P cf elt (loc.set y (.val v)) H).bind fun w H => .ok (some w) H
noncomputable def compIfG (P : Prg) (cf : Nat → List MV → MH → RS MV) (elt : ME) (t : MT) (y : Nat) (loc : Loc) : MV → MH → RS (Option MV) := fun v H => (evalT P cf t (loc.set y (.val v)) H).bind fun b H => if b then (evalE P cf elt (loc.set y (.val v)) H).bind fun w H => .ok (some w) H else .ok none H
theorem Go.some {l : List Env} {c' : Cf} {r : RS MV} {ro : Option MV} {H : MH} {E : Value → Shared → Prop} {Q₁ : Value → Shared → Prop} (hg : (r.bind fun w H => RS.ok (some w) H) = .ok ro H)
    (q : ∀ c₂ x mv, c₂.Ok Y → Step c' c₂ → ro = some mv → H = c₂.H → VR Y c₂.Z c₂.φ mv x → Q₁ x c₂.s) : Go Y l (VRc Y) r c' Q₁ E :=
  ⟨fun e => (by rw [e] at hg; cases hg), fun c₂ v b k s e rv => (by rw [e] at hg; cases hg; exact q c₂ v b k s rfl rfl rv), fun c₂ k e a C B a0 _ _ e' _ => (by rw [e'] at hg; cases hg)⟩
theorem turn_comp {B : Blk Y} {elt : ME} (he : SE Y elt) {e : Expr} {loc : Loc} {c : Cf} {scope : Scope} {y : Str} {x : Nat} (xx : Ex B loc c) (F : CompFacts B.sc scope y x) (h : ok Y.T (B.sc.inner scope.names y x) elt e = true) (L : Addr) (cl : List (Str × Addr))
    (hcl : ∀ p ∈ scope.names, p.2 = .free → cl.lookup p.1 = B.env.cells.lookup p.1) : Turn Y B.A c (compEnv B.env scope L cl) [] (ex Y.T elt e) y (compG Y.P B.cf elt x loc) :=
  fun c' _ _ _ _ _ E Q₁ _ k' s' hm hy hv hg q1 _ => wpAny_pure (he (B.inner F L cl hcl) e _ c' h (xx.inner F hcl s' k' hm hy hv) Q₁ E (Go.some hg q1))
theorem turn_compIf {B : Blk Y} {elt : ME} {t : MT} (he : SE Y elt) (ht : ST Y t) {e e' : Expr} {loc : Loc} {c : Cf} {scope : Scope} {y : Str} {x : Nat} (xx : Ex B loc c) (F : CompFacts B.sc scope y x) (h : ok Y.T (B.sc.inner scope.names y x) elt e = true) (h' : okT Y.T (B.sc.inner scope.names y x) t e' = true) (L : Addr) (cl : List (Str × Addr))
    (hcl : ∀ p ∈ scope.names, p.2 = .free → cl.lookup p.1 = B.env.cells.lookup p.1) : Turn Y B.A c (compEnv B.env scope L cl) [exT Y.T t e'] (ex Y.T elt e) y (compIfG Y.P B.cf elt t x loc) := by
  intro c' rv v m r H E Q₁ Q₂ k' s' hm hy hv hg q1 q2
  have xi := xx.inner F hcl s' k' hm hy hv
  unfold compIfG at hg
  refine wpAny_tests_one (ht (B.inner F L cl hcl) e' _ c' h' xi _ E ⟨fun e => (by rw [show evalT Y.P B.cf t (loc.set x (.val v)) c'.H = .bad from e] at hg; cases hg), fun c₂ b b' k₂ t₂ e₂ r₂ => ?_, fun c₂ kk e a C B' a0 _ _ e₂ _ => (by rw [show evalT Y.P B.cf t (loc.set x (.val v)) c'.H = _ from e₂] at hg; cases hg)⟩)
  rw [show evalT Y.P B.cf t (loc.set x (.val v)) c'.H = _ from e₂] at hg
  cases r₂
  cases b with
  | false => cases hg; exact q2 c₂ k₂ t₂ rfl rfl
  | true => exact he (B.inner F L cl hcl) e _ c₂ h (xi.step t₂ k₂) Q₁ E (Go.some hg fun c₃ z mv k₃ t₃ => q1 c₃ z mv k₃ (t₂.trans t₃))
theorem comp_fin {l : List Env} {A : Around} {c : Cf} {ri : RS (List MV)} {g : MV → MH → RS (Option MV)} {Q : Value → Shared → Prop} {E : Value → Shared → Prop} (gg : Go Y l (VRc Y) (compR ri g) c Q E) : CompFin Y A c ri g none Q E := fun c' D ws m L k' t' e' v' l' hL =>
  ⟨m, k'.ns l', fun h' hs => gg.ok (c'.setM L none h' c'.s.toks) _ _ (k'.setM c'.s.toks (k'.un l' rfl) (fun b o n e => (hs.2 b n).trans e) fun _ h => nomatch h) (t'.setM hL) e' v'⟩
theorem comp_ex {l : List Env} {c : Cf} {ri : RS (List MV)} {g : MV → MH → RS (Option MV)} {Q : Value → Shared → Prop} {E : Value → Shared → Prop} (gg : Go Y l (VRc Y) (compR ri g) c Q E) : ∀ c' k e a C B a0, c'.Ok Y → Step c c' → ri = .ex k c'.H → Flown Y c' l e k a C B a0 → E e c'.s :=
  fun c' k e a C B a0 o s e' => gg.ex c' k e a C B a0 o s (by unfold compR; rw [e']; rfl)
theorem se_comp (elt : ME) (x : Nat) (it : MI) (he : SE Y elt) (hi : SIt Y it) : SE Y (.comp elt x it) := fun B e loc c h xx Q E g => by
  have F := compFacts (and_l h)
  have h2 := and_r h
  exact wp_of (arm_eval_ListComp ..) (comp_core (use := none) (g := compG Y.P B.cf elt x loc) (l := B.l) B.V F B.at_.h (hi.plain _ _ _ · (and_l h2)) B.C (hi.run B _ loc c (and_l h2) xx) (turn_comp he xx F (and_r h2)) g.nb (comp_ex g) (comp_fin g))
theorem se_compIf (elt : ME) (x : Nat) (it : MI) (t : MT) (he : SE Y elt) (hi : SIt Y it) (ht : ST Y t) : SE Y (.compIf elt x it t) := fun B e loc c h xx Q E g => by
  have F := compFacts (and_l h)
  have h2 := and_r h
  exact wp_of (arm_eval_ListComp ..) (comp_core (use := none) (g := compIfG Y.P B.cf elt t x loc) (l := B.l) B.V F B.at_.h (hi.plain _ _ _ · (and_l h2)) B.C (hi.run B _ loc c (and_l h2) xx) (turn_compIf he ht xx F (and_l (and_r h2)) (and_r (and_r h2))) g.nb (comp_ex g) (comp_fin g))
theorem own_slot {sc : SC} {x : Str} {i : Nat} (h : sc.own x = some i) : sc.slot x = some i := by
  unfold SC.own at h; unfold SC.slot
  split at h
  · rename_i q
    rw [if_pos (by rw [and_l q, not_t (and_r q)]; rfl)]; exact h
  · cases h
theorem own_of {sc : SC} {e : Expr} {i : Nat} (h : okAcc sc e i = true) : sc.own (parts e).s = some i := beq_iff_eq.mp (and_l h)
theorem eval_acc {B : Blk Y} {A : Around} {loc : Loc} {c : Cf} (x : Ex B loc c) {e : Expr} {i : Nat} {xs : List MV} {Q : Value → Shared → Prop} {E : Value → Shared → Prop} (h : okAcc B.sc e i = true) (q : (lget loc i).acc? = some xs)
    (k : ∀ a vs n, c.Mu a = some (.ex (listOf (vs : List Value).toArray n)) → VRs Y c.Z c.φ xs vs → xs.length ≤ 2000 → Q (.ref a) c.s) : wpAny Y.M A (eval (asName e) B.env) Q E c.s :=
  eval_slot B.V x.K x.L (own_slot (own_of h)) (LV.acc_of q) (fun z => nomatch z) fun r _ ⟨a, vs, n, e, h1, h2, h3⟩ => e ▸ k a vs n h1 h2 h3
theorem two_k {n : Nat} (h : n ≤ 2000) : n ≤ 10000000 := Nat.le_trans h (by decide)
theorem se_accLast (i : Nat) : SE Y (.accLast i) := fun B e loc c h x Q E g => by
  obtain ⟨xs, q, g⟩ := Go.opt (o := (lget loc i).acc?) g
  obtain ⟨r, er, g⟩ := g.opt
  refine wp_Subscript (eval_acc x h q fun a vs n hm hv hz => wpAny_UnaryOp (wpAny_Constant_int (neg_int ?_)))
  have hlen : 0 < xs.length := match xs, er with | _ :: _, _ => Nat.succ_pos _
  have k2 := x.K.heap (c.s.toks + 1 + 1) fun _ _ e => e
  refine tail_any (x.K.isListM hm).typeIs slot_list_getitem.lookup (wp_item (c := c.heap c.s.heap (c.s.toks + 1 + 1)) (j := xs.length - 1) (k2.isListM hm) hv (two_k hz) ?_ (by rw [← List.getLast?_eq_getElem?]; exact er) fun v hv => g.tok x.K _ hv) rfl
  unfold place guardO
  rw [if_neg (by decide), if_pos (by simp; omega)]
  congr 1; omega
theorem se_accIdx (i : Nat) (a : ME) (ha : SE Y a) : SE Y (.accIdx i a) := fun B e loc c h x Q E g => by
  obtain ⟨xs, q, g⟩ := Go.opt (o := (lget loc i).acc?) g
  refine wp_of (eval_Sub ..) (wpAny_bind (eval_acc x (and_l h) q fun ad vs n hm hv hz => wpAny_bind (wpAny_holding ((ha B _ loc c (and_l (and_r h)) x).seq g fun c₁ v m k₁ s₁ r₁ g => wpAny_bind (wpAny_standAt ?_)))))
  obtain ⟨r, er, g₂⟩ := g.opt
  obtain ⟨j, q1, e1⟩ := of_bind er
  cases MV.int_of q1
  obtain ⟨t, rfl⟩ := r₁
  by_cases hj : 0 ≤ j
  · rw [if_pos hj] at e1
    have hm1 := s₁.keep rfl hm
    exact tail_any (k₁.isListM hm1).typeIs slot_list_getitem.lookup (wp_item (j := j.toNat) (k₁.isListM hm1) (VRs.mono s₁.z s₁.p _ hv) (two_k hz) (by unfold place; rw [if_pos hj]) e1 fun v hv => g₂.here k₁ hv) (sub_plain (and_r (and_r h)))
  · rw [if_neg hj] at e1; cases e1
theorem acc_star (e : Expr) : noStar (asName e) = true := rfl
theorem se_accLen (i : Nat) : SE Y (.accLen i) := fun B e loc c h x Q E g => by
  obtain ⟨xs, q, g⟩ := Go.opt (o := (lget loc i).acc?) g
  refine wp_of (eval_Call ..) (wpAny_bind (glob_blt B.V x.K (and_l h) (wp_callBlt (NoStars.cons (acc_star _) NoStars.nil) rfl ?_)))
  rw [backTo_cons (acc_star _)]
  exact spliced_cons (eval_acc x (and_r h) q fun a vs n hm hv hz => spliced_nil (blt_lenM x.K hm hv hz g))
theorem ses_nil : SEs Y .nil where
  args B xs loc c p h x Q E g := spliced_nil (g.here x.K rfl)
  stars sc xs h := NoStars.nil
  bool a B xs loc c p h x Q E g := absurd rfl g.nb
theorem ses_cons (e : ME) (r : MEs) (he : SE Y e) (hr : SEs Y r) : SEs Y (.cons e r) where
  args B xs loc c p h x Q E g := by
    show wpAny _ _ (spliced (backTo p (starEach (ex Y.T e (hd1 xs) :: exs Y.T r xs.tail) B.env))) _ _ _
    rw [backTo_cons (and_r (and_l h))]
    exact spliced_cons ((he B _ loc c (and_l (and_l h)) x).seq g fun c₁ v m k₁ s₁ r₁ g => (hr.args B _ loc c₁ p (and_r h) (x.step s₁ k₁)).seq g fun c₂ vs ms k₂ s₂ r₂ g => g.here k₂ ⟨v, vs, rfl, r₁.step s₂.toStB, r₂⟩)
  stars sc xs h := NoStars.cons (and_r (and_l h)) (hr.stars sc _ (and_r h))
  bool a B xs loc c p h x Q E g := by
    cases r with
    | nil => exact he B _ loc c (and_l (and_l h)) x Q E g
    | cons e' r' =>
      show wpAny _ _ (eval (ex Y.T e (hd1 xs)) B.env >>= fun v => standAt p >>= fun _ => holding [v] (truthy v) >>= fun t => match (if a then BoolOp.And else BoolOp.Or), t with
        | .And, false | .Or, true => pure v
        | _, _ => boolOp p (if a then .And else .Or) (evalEach (exs Y.T (.cons e' r') xs.tail) B.env)) _ _ _
      refine wpAny_bind ((he B _ loc c (and_l (and_l h)) x).seq (f := fun v H => opt (truth v) fun b => if b = a then evalB Y.P B.cf a (.cons e' r') loc H else .ok v H) g fun c₁ v m k₁ s₁ r₁ g => wpAny_bind (wpAny_standAt ?_))
      obtain ⟨b, q, g⟩ := g.opt
      refine wpAny_bind (wpAny_holding (wp_truth r₁ q ?_))
      have ih := hr.bool a B xs.tail loc c₁ p (and_r h) (x.step s₁ k₁) Q E
      cases a <;> cases b
      · exact ih g
      · exact wpAny_pure (g.here k₁ r₁)
      · exact wpAny_pure (g.here k₁ r₁)
      · exact ih g
theorem cmp_bind {r : RS MV} {f : MV → MH → RS Bool} {c : Cf} {l : List Env} {Q : Value → Shared → Prop} {E : Value → Shared → Prop} (g : Go Y l (VRc Y) ((r.bind f).bind fun b H => .ok (.bool b) H) c Q E) : Go Y l (VRc Y) (r.bind fun w H => (f w H).bind fun b H => .ok (.bool b) H) c Q E := RS.assoc r f _ ▸ g
theorem opt_bind {o : Option Bool} {f : Bool → RS Bool} {c : Cf} {l : List Env} {Q : Value → Shared → Prop} {E : Value → Shared → Prop} (g : Go Y l (VRc Y) ((opt o f).bind fun b H => .ok (.bool b) H) c Q E) : ∃ b, o = some b ∧ Go Y l (VRc Y) ((f b).bind fun b H => .ok (.bool b) H) c Q E := match o, g with
  | some b, g => ⟨b, rfl, g⟩
  | none, g => absurd rfl g.nb
theorem marks_one {o : Cp} {x : Expr} (h : noSet x = true) (env : Env) : markedBehindIn (realCp o) x (eval x env) = eval x env := by
  have : behindInMarks (realCp o) x = false := by cases x <;> first | rfl | cases h
  unfold markedBehindIn
  rw [this]
theorem sc_one (o : Cp) (e : ME) (he : SE Y e) : SC' Y (.one o e) where
  chain B xs loc c v m p h x hv Q E g := by
    show wpAny _ _ (holding [v] (eval (ex Y.T e (hd1 xs)) B.env) >>= fun rv => standAt p >>= fun _ => operate [v, rv] (compareOp (realCp o) v rv)) _ _ _
    refine wpAny_bind (wpAny_holding ((he B _ loc c (and_l h) x).seq (cmp_bind (r := evalE Y.P B.cf e loc c.H) g) fun c₁ rv n k₁ s₁ r₁ g => wpAny_bind (wpAny_standAt ?_)))
    obtain ⟨b, q, g⟩ := opt_bind g
    exact wpAny_operateT (wp_cmpop k₁ (hv.step s₁.toStB) r₁ q B.u (g.here k₁ rfl))
  test B xs loc c v m p h x hv Q E g := by
    show wpAny _ _ (holding [v] (eval (ex Y.T e (hd1 xs)) B.env) >>= fun rv => standAt p >>= fun _ => operate [v, rv] (compareOp (realCp o) v rv) >>= fun cc => holding [cc] (truthy cc)) _ _ _
    refine wpAny_bind (wpAny_holding ((he B _ loc c (and_l h) x).seq g fun c₁ rv n k₁ s₁ r₁ g => wpAny_bind (wpAny_standAt (wpAny_bind (wpAny_operateT ?_)))))
    obtain ⟨b, q, g⟩ := g.opt
    exact wp_cmpop k₁ (hv.step s₁.toStB) r₁ q B.u (wpAny_holding (wpAny_truthy_bool (g.here k₁ rfl)))
  marks sc xs env h := congrArg (· :: []) (marks_one (and_r h) env)
theorem sc_cons (o : Cp) (e : ME) (r : MCs) (he : SE Y e) (hr : SC' Y r) : SC' Y (.cons o e r) where
  chain B xs loc c v m p h x hv Q E g := by
    have main : wpAny Y.M B.A (holding [v] (eval (ex Y.T e (hd1 xs)) B.env) >>= fun rv => standAt p >>= fun _ => holding [v, rv] (compareOp (realCp o) v rv) >>= fun cc => release [v, rv] [cc] >>= fun _ => holding [cc, rv] (truthy cc) >>= fun t => if t = true then compareChain p rv (opsC r) (evalEach (exC Y.T r xs.tail) B.env) else pure cc) Q E c.s := by
      refine wpAny_bind (wpAny_holding ((he B _ loc c (and_l h) x).seq (cmp_bind (r := evalE Y.P B.cf e loc c.H) g) fun c₁ rv n k₁ s₁ r₁ g => wpAny_bind (wpAny_standAt ?_)))
      obtain ⟨b, q, g⟩ := opt_bind g
      refine wpAny_bind (wpAny_holding (wp_cmpop k₁ (hv.step s₁.toStB) r₁ q B.u (wpAny_bind (wpAny_release (wpAny_bind (wpAny_holding (wpAny_truthy_bool ?_)))))))
      cases b with
      | false => exact wpAny_pure (g.here k₁ rfl)
      | true => exact hr.chain B _ loc c₁ rv n p (and_r (and_r h)) (x.step s₁ k₁) r₁ Q E g
    cases r <;> exact main
  test B xs loc c v m p h x hv Q E g := by
    have main : wpAny Y.M B.A (holding [v] (eval (ex Y.T e (hd1 xs)) B.env) >>= fun rv => standAt p >>= fun _ => holding [v, rv] (compareOp (realCp o) v rv) >>= fun cc => release [v, rv] [cc] >>= fun _ => holding [cc, rv] (truthy cc) >>= fun t => if t = true then testChain p rv (opsC r) (evalEach (exC Y.T r xs.tail) B.env) else pure false) Q E c.s := by
      refine wpAny_bind (wpAny_holding ((he B _ loc c (and_l h) x).seq g fun c₁ rv n k₁ s₁ r₁ g => wpAny_bind (wpAny_standAt ?_)))
      obtain ⟨b, q, g⟩ := g.opt
      refine wpAny_bind (wpAny_holding (wp_cmpop k₁ (hv.step s₁.toStB) r₁ q B.u (wpAny_bind (wpAny_release (wpAny_bind (wpAny_holding (wpAny_truthy_bool ?_)))))))
      cases b with
      | false => exact wpAny_pure (g.here k₁ rfl)
      | true => exact hr.test B _ loc c₁ rv n p (and_r (and_r h)) (x.step s₁ k₁) r₁ Q E g
    cases r <;> exact main
  marks sc xs env h := by
    have := congrArg (List.cons (eval (ex Y.T e (hd1 xs)) env)) (hr.marks sc xs.tail env (and_r (and_r h)))
    cases r <;> exact this
theorem st_e (a : ME) (ha : SE Y a) : ST Y (.e a) := fun B e loc c h x Q E g =>
  wpAny_isTrue_value ((ha B e loc c (and_l h) x).seq g fun c₁ v m k₁ s₁ r₁ g => let ⟨_, q, g⟩ := g.opt; wp_truth r₁ q (g.here k₁ rfl)) (by
    have := and_r h
    revert this
    show plainTest (ex Y.T a e) = true → _
    show plainTest (ex Y.T a e) = true → _ 
    unfold exT
    cases ex Y.T a e <;> first | exact fun _ => rfl | exact fun h => nomatch h)
theorem st_cmp (a : ME) (cs : MCs) (ha : SE Y a) (hc : SC' Y cs) : ST Y (.cmp a cs) := fun B e loc c h x Q E g => by
  refine wp_of (arm_isTrue_Compare ..) (wpAny_bind ((ha B _ loc c (and_l h) x).seq g fun c₁ v m k₁ s₁ r₁ g => ?_))
  rw [hc.marks B.sc _ _ (and_r h)]
  exact hc.test B _ loc c₁ v m _ (and_r h) (x.step s₁ k₁) r₁ _ _ g
theorem st_isNone (a : ME) (ha : SE Y a) : ST Y (.isNone a) := fun B e loc c h x Q E g =>
  wpAny_isTrue_Compare1 ((ha B _ loc c h x).seq g fun c₁ v m k₁ s₁ r₁ g => wpAny_Constant_none (wpAny_is_plain (vr_none r₁).1 (wpAny_truthy_bool ((vr_none r₁).2 ▸ g.here k₁ rfl))))
theorem st_notNone (a : ME) (ha : SE Y a) : ST Y (.notNone a) := fun B e loc c h x Q E g =>
  wpAny_isTrue_Compare1 ((ha B _ loc c h x).seq g fun c₁ v m k₁ s₁ r₁ g => wpAny_Constant_none (wpAny_isNot_plain (vr_none r₁).1 (wpAny_truthy_bool ((vr_none r₁).2 ▸ g.here k₁ rfl))))
theorem st_not (t : MT) (ht : ST Y t) : ST Y (.not t) := fun B e loc c h x Q E g =>
  wpAny_isTrue_Not ((ht B _ loc c h x).seq g fun c₁ v b k₁ s₁ r₁ g => g.here k₁ (congrArg (!·) r₁))
theorem st_and (ts : MTs) (hs : STs Y ts) : ST Y (.and ts) := fun B e loc c h x Q E g => wpAny_isTrue_BoolOp (hs true B _ loc c h x Q E g)
theorem st_or (ts : MTs) (hs : STs Y ts) : ST Y (.or ts) := fun B e loc c h x Q E g => wpAny_isTrue_BoolOp (hs false B _ loc c h x Q E g)
theorem st_acc (i : Nat) : ST Y (.acc i) := fun B e loc c h x Q E g => by
  obtain ⟨xs, q, g⟩ := Go.opt (o := (lget loc i).acc?) g
  refine wpAny_isTrue_value (eval_acc x h q fun a vs n hm hv hz => wpAny_truthy_list (x.K.isListM hm) (Int.ofNat_lt.mpr (Nat.lt_of_le_of_lt (hv.length ▸ hz : vs.length ≤ _) (by decide))) ?_) rfl
  exact g.ok (c.heap c.s.heap _) _ _ (x.K.heap _ fun _ _ e => e) (Step.heap c _ _) rfl (match xs, vs, hv.length with | [], [], _ => rfl | _ :: _, _ :: _, _ => rfl)
theorem sts_nil : STs Y .nil := fun a B xs loc c h x Q E g => by cases a <;> exact wpAny_pure (g.here x.K rfl)
theorem sts_cons (t : MT) (r : MTs) (ht : ST Y t) (hr : STs Y r) : STs Y (.cons t r) := fun a B xs loc c h x Q E g => by
  have main : wpAny Y.M B.A (isTrue (exT Y.T t (hd1 xs)) B.env (eval (exT Y.T t (hd1 xs)) B.env)) (fun v s' => if v = a then wpAny Y.M B.A (allTrue (if a then .And else .Or) (exTs Y.T r xs.tail) B.env) Q E s' else Q (!a) s') E c.s :=
    (ht B _ loc c (and_l h) x).seq g fun c₁ v b k₁ s₁ r₁ g => by
      cases r₁
      by_cases q : v = a
      · rw [if_pos q] at g ⊢; exact hr a B _ loc c₁ (and_r h) (x.step s₁ k₁) Q E g
      · rw [if_neg q] at g ⊢; exact g.here k₁ rfl
  cases a with
  | true => exact wpAny_allTrue_And_cons (wpAny_mono main (fun v s' h => by cases v <;> exact h) fun _ _ h => h)
  | false => exact wpAny_allTrue_Or_cons (wpAny_mono main (fun v s' h => by cases v <;> exact h) fun _ _ h => h)
theorem sit_range1 (a : ME) (ha : SE Y a) : SIt Y (.range1 a) where
  plain sc e env x h := rfl
  run B e loc c h x Q E g := wp_blt1 ha rfl (and_l h) (and_r h) x g fun c₁ v m k₁ s₁ r₁ g => by
    obtain ⟨xs, q, g⟩ := g.opt
    obtain ⟨n, q1, e1⟩ := of_bind q
    cases MV.int_of q1
    obtain ⟨p, rfl⟩ := of_guard e1
    obtain ⟨t, rfl⟩ := r₁
    obtain ⟨L, fm, hL⟩ := (x.step s₁ k₁).top
    exact blt_range1 k₁ s₁ hL (Nat.le_trans (of_decide_eq_true p) (by decide)) g
theorem sit_range2 (a b : ME) (ha : SE Y a) (hb : SE Y b) : SIt Y (.range2 a b) where
  plain sc e env x h := rfl
  run B e loc c h x Q E g := wp_blt2 ha hb rfl (and_l h) (and_l (and_r h)) (and_r (and_r h)) x g fun c₂ v m w n k₂ s₂ r₁ r₂ g => by
    obtain ⟨xs, q, g⟩ := g.opt
    obtain ⟨i, j, rfl, rfl, q⟩ := intz_of q
    obtain ⟨p, rfl⟩ := of_guard q
    obtain ⟨t, rfl⟩ := r₁; obtain ⟨u, rfl⟩ := r₂
    obtain ⟨L, fm, hL⟩ := (x.step s₂ k₂).top
    have p := of_decide_eq_true p
    exact blt_range2 k₂ s₂ hL p.1 p.2.1 g
theorem sit_sorted (a : ME) (ha : SE Y a) : SIt Y (.sorted a) where
  plain sc e env x h := rfl
  run B e loc c h x Q E g := wp_blt1 ha rfl (and_l h) (and_r h) x g fun c₁ v m k₁ s₁ r₁ g => by
    obtain ⟨xs, q, g⟩ := g.opt
    obtain ⟨L, fm, hL⟩ := (x.step s₁ k₁).top
    exact blt_sorted k₁ s₁ hL r₁ q g
theorem sit_over (a : ME) (ha : SE Y a) : SIt Y (.over a) where
  plain sc e env x h := by
    have := and_r h
    revert this
    show noSet (ex Y.T a e) = true → foldedSetIterable (ex Y.T a e) env x = _
    cases ex Y.T a e <;> first | exact fun _ => rfl | exact fun h => nomatch h
  run B e loc c h x Q E g := (ha B e loc c (and_l h) x).seq g fun c₁ v m k₁ s₁ r₁ g => by
    obtain ⟨xs, q, g⟩ := g.opt
    exact iter_list k₁ s₁ (MV.list_of q ▸ r₁) g
end
end Mini
end
noncomputable section
namespace Mini
open PySem PySem.W PySem.Calls PyProof.Rows
variable {Y : Sys}
theorem soundE (e : ME) : SE Y e :=
  @ME.rec (SE Y) (SEs Y) (SC' Y) (ST Y) (STs Y) (SIt Y) se_bad se_none se_tt se_ff se_int se_neg se_bnil se_gint se_var se_attr se_bin se_cmp se_isNone se_notNone se_and se_or se_not se_ite se_idx se_sliceA se_sliceL se_sliceU se_sliceLU se_tup se_list se_comp se_compIf se_call se_new se_meth se_len se_min2 se_max2 se_max1 se_tupleOf se_bytesOf se_accLast se_accIdx se_accLen
    ses_nil ses_cons sc_one sc_cons st_e st_cmp st_isNone st_notNone st_not st_and st_or st_acc sts_nil sts_cons sit_range1 sit_range2 sit_sorted sit_over e
theorem soundEs (e : MEs) : SEs Y e :=
  @MEs.rec (SE Y) (SEs Y) (SC' Y) (ST Y) (STs Y) (SIt Y) se_bad se_none se_tt se_ff se_int se_neg se_bnil se_gint se_var se_attr se_bin se_cmp se_isNone se_notNone se_and se_or se_not se_ite se_idx se_sliceA se_sliceL se_sliceU se_sliceLU se_tup se_list se_comp se_compIf se_call se_new se_meth se_len se_min2 se_max2 se_max1 se_tupleOf se_bytesOf se_accLast se_accIdx se_accLen
    ses_nil ses_cons sc_one sc_cons st_e st_cmp st_isNone st_notNone st_not st_and st_or st_acc sts_nil sts_cons sit_range1 sit_range2 sit_sorted sit_over e
theorem soundT (e : MT) : ST Y e :=
  @MT.rec (SE Y) (SEs Y) (SC' Y) (ST Y) (STs Y) (SIt Y) se_bad se_none se_tt se_ff se_int se_neg se_bnil se_gint se_var se_attr se_bin se_cmp se_isNone se_notNone se_and se_or se_not se_ite se_idx se_sliceA se_sliceL se_sliceU se_sliceLU se_tup se_list se_comp se_compIf se_call se_new se_meth se_len se_min2 se_max2 se_max1 se_tupleOf se_bytesOf se_accLast se_accIdx se_accLen
    ses_nil ses_cons sc_one sc_cons st_e st_cmp st_isNone st_notNone st_not st_and st_or st_acc sts_nil sts_cons sit_range1 sit_range2 sit_sorted sit_over e
theorem soundI (e : MI) : SIt Y e :=
  @MI.rec (SE Y) (SEs Y) (SC' Y) (ST Y) (STs Y) (SIt Y) se_bad se_none se_tt se_ff se_int se_neg se_bnil se_gint se_var se_attr se_bin se_cmp se_isNone se_notNone se_and se_or se_not se_ite se_idx se_sliceA se_sliceL se_sliceU se_sliceLU se_tup se_list se_comp se_compIf se_call se_new se_meth se_len se_min2 se_max2 se_max1 se_tupleOf se_bytesOf se_accLast se_accIdx se_accLen
    ses_nil ses_cons sc_one sc_cons st_e st_cmp st_isNone st_notNone st_not st_and st_or st_acc sts_nil sts_cons sit_range1 sit_range2 sit_sorted sit_over e
end Mini
end
noncomputable section
namespace Mini
open PySem PySem.W PySem.Calls PyProof.Rows
structure Fn (Y : Sys) extends Blk Y where
  c₀ : Cf
  outer : List Env
  el : l = env :: outer
  inj : ∀ x y i, sc.own x = some i → sc.own y = some i → x = y
  ow : ∀ x i, sc.slot x = some i → sc.own x = some i
  cinj : ∀ x y a, env.cells.lookup x = some a → env.cells.lookup y = some a → x = y
  fr : env.frame = some env.locals
  outF : FramesOk c₀ outer
structure StS {Y : Sys} (X : Fn Y) (R : MU) (loc : Loc) (c : Cf) : Prop where
  K : c.Ok Y
  base : StB X.c₀ c
  ext : ∀ a x, X.c₀.Mu a = some x → R a = some x
  keep : ∀ a x, R a = some x → ∃ y, c.Mu a = some y ∧ (x.isSt = false → y = x)
  ownR : R X.env.locals = none
  own : ∃ m, c.Mu X.env.locals = some (.fr m)
  cel : ∀ z, X.sc.names.lookup z = some .cell → ∃ a v, X.env.cells.lookup z = some a ∧ c.Mu a = some (.ce v) ∧ R a = none
  L : LocR Y X.env X.sc loc c
  acc : ∀ x i l a, X.sc.own x = some i → lget loc i = .acc l → Slot X.env c.Mu x (.ref a) → R a = none ∧ ∀ y j l', X.sc.own y = some j → lget loc j = .acc l' → j ≠ i → ¬ Slot X.env c.Mu y (.ref a)
theorem Slot.fun {env : Env} {Mu : MU} {x : Str} {r r' : Value} : Slot env Mu x r → Slot env Mu x r' → r = r'
  | .inl ⟨_, _, e, q⟩, .inl ⟨_, _, e', q'⟩ => by cases e.symm.trans e'; exact Option.some.inj (q.symm.trans q')
  | .inl ⟨k, _⟩, .inr ⟨k', _⟩ => by rcases k' with k' | k' <;> cases k.symm.trans k'
  | .inr ⟨k', _⟩, .inl ⟨k, _⟩ => by rcases k' with k' | k' <;> cases k.symm.trans k'
  | .inr ⟨_, _, e, q⟩, .inr ⟨_, _, e', q'⟩ => by cases e.symm.trans e'; cases q.symm.trans q'; rfl
theorem own_kind {sc : SC} {x : Str} {i : Nat} (h : sc.own x = some i) : sc.names.lookup x = some .local ∨ sc.names.lookup x = some .cell := by
  unfold SC.own at h
  split at h
  · rename_i q; exact (or_of (and_l q)).imp beq_iff_eq.mp beq_iff_eq.mp
  · cases h
section
variable {Y : Sys} {X : Fn Y} {R : MU} {loc : Loc} {c c' : Cf}
theorem StS.keepN (S : StS X R loc c) {a : Addr} {x : MC} (n : x.isSt = false) (e : R a = some x) : c.Mu a = some x := let ⟨_, e', f⟩ := S.keep a x e; f n ▸ e'
theorem StS.ex (S : StS X R loc c) : Ex X.toBlk loc c := by
  refine ⟨S.L, S.K, fun e he => ?_⟩
  rw [X.el] at he
  rcases List.mem_cons.mp he with rfl | he
  · obtain ⟨m, hm⟩ := S.own
    exact ⟨(by rw [X.V.kind]; intro h; cases h), _, m, X.fr, hm⟩
  · obtain ⟨k, L, m, f, e'⟩ := X.outF e he
    exact ⟨k, L, m, f, S.keepN rfl (S.ext _ _ e')⟩
theorem StS.step (S : StS X R loc c) (s : Step c c') (k : c'.Ok Y) : StS X R loc c' := by
  refine ⟨k, S.base.trans s.toStB, S.ext, fun a x e => ?_, S.ownR, ?_, fun z hz => ?_, S.L.step s, fun x i l a hx hl hs => ?_⟩
  · obtain ⟨y, h1, h2⟩ := S.keep a x e
    obtain ⟨y', h3, h4⟩ := s.k a y h1
    exact ⟨y', h3, fun n => by have := h2 n; subst this; exact h4 n⟩
  · obtain ⟨m, hm⟩ := S.own; exact ⟨m, s.keep rfl hm⟩
  · obtain ⟨a, v, h1, h2, h3⟩ := S.cel z hz; exact ⟨a, v, h1, s.keep rfl h2, h3⟩
  · have back : ∀ {y j l'} {b : Addr}, X.sc.own y = some j → lget loc j = .acc l' → Slot X.env c'.Mu y (.ref b) → Slot X.env c.Mu y (.ref b) := fun hy hl hs => by
      obtain ⟨r, h1, _⟩ := S.L _ _ (own_slot hy) (fun q => nomatch hl.symm.trans q)
      exact (h1.step s).fun hs ▸ h1
    obtain ⟨h1, h2⟩ := S.acc x i l a hx hl (back hx hl hs)
    exact ⟨h1, fun y j l' hy hl' hj hs' => h2 y j l' hy hl' hj (back hy hl' hs')⟩
theorem StS.acc_at (S : StS X R loc c) {x : Str} {i : Nat} {xs : List MV} (hx : X.sc.own x = some i) (q : lget loc i = .acc xs) :
    ∃ a vs n, Slot X.env c.Mu x (.ref a) ∧ c.Mu a = some (.ex (listOf (vs : List Value).toArray n)) ∧ VRs Y c.Z c.φ xs vs ∧ xs.length ≤ 2000 := by
  obtain ⟨r, a, b⟩ := S.L x i (own_slot hx) (fun z => nomatch q.symm.trans z)
  rw [q] at b
  obtain ⟨ad, vs, n, rfl, e2, e3, e4⟩ := b
  exact ⟨ad, vs, n, a, e2, e3, e4⟩
structure Chg (X : Fn Y) (R : MU) (loc : Loc) (c : Cf) (ad : Addr) (x : Str) (i : Nat) (lv : LV) (v : Value) (c' : Cf) : Prop where
  own : X.sc.own x = some i
  k : c'.Ok Y
  b : StB c c'
  hR : R ad = none
  mu : ∀ a, a ≠ ad → c'.Mu a = c.Mu a
  fl : ∃ m, c'.Mu X.env.locals = some (.fr m)
  cel : ∀ z a w, X.sc.names.lookup z = some .cell → X.env.cells.lookup z = some a → c.Mu a = some (.ce w) → ∃ w', c'.Mu a = some (.ce w')
  s : ∀ z r, z ≠ x → X.sc.own z ≠ none → (Slot X.env c'.Mu z r ↔ Slot X.env c.Mu z r)
  sx : Slot X.env c'.Mu x v
  lvr : LVR Y c' v lv
  acc : ∀ y j l vs n, X.sc.own y = some j → j ≠ i → lget loc j = .acc l → Slot X.env c.Mu y (.ref ad) → c.Mu ad ≠ some (.ex (listOf vs n))
  new : ∀ l a, lv = .acc l → v = .ref a → R a = none ∧ ∀ y j l', X.sc.own y = some j → lget loc j = .acc l' → j ≠ i → ¬ Slot X.env c.Mu y (.ref a)
theorem StS.chg (S : StS X R loc c) {ad : Addr} {x : Str} {i : Nat} {lv : LV} {v : Value} (C : Chg X R loc c ad x i lv v c') : StS X R (loc.set i lv) c' := by
  have ne : ∀ {y j}, X.sc.own y = some j → j ≠ i → y ≠ x := fun hy hj q => hj (by subst q; exact Option.some.inj (hy.symm.trans C.own))
  have nn : ∀ {y j}, X.sc.own y = some j → X.sc.own y ≠ none := fun hy q => nomatch hy.symm.trans q
  have is : ∀ {l}, lget (loc.set i lv) i = .acc l → lv = .acc l := fun hl => by
    rcases lget_set loc i lv with e | e
    · exact e.symm.trans hl
    · cases e.symm.trans hl
  refine ⟨C.k, S.base.trans C.b, S.ext, fun a y e => ?_, S.ownR, C.fl, fun z hz => ?_, fun z j hz hu => ?_, fun y j l a hy hl hsl => ?_⟩
  · rw [C.mu a (ne_none C.hR e)]; exact S.keep a y e
  · obtain ⟨a, w, h1, h2, h3⟩ := S.cel z hz
    obtain ⟨w', h4⟩ := C.cel z a w hz h1 h2
    exact ⟨a, w', h1, h4, h3⟩
  · have hz := X.ow _ _ hz
    by_cases hj : j = i
    · subst hj
      cases X.inj z x j hz C.own
      rcases lget_set loc j lv with e | e
      · exact ⟨v, C.sx, e.symm ▸ C.lvr⟩
      · exact absurd e hu
    · rw [lget_set_ne loc lv hj] at hu ⊢
      obtain ⟨r, h1, h2⟩ := S.L z j (own_slot hz) hu
      refine ⟨r, (C.s z r (ne hz hj) (nn hz)).mpr h1, ?_⟩
      cases ql : lget loc j with
      | un => trivial
      | val w => rw [ql] at h2; exact VR.mono C.b.z C.b.p w h2
      | acc l =>
        rw [ql] at h2
        obtain ⟨a, vs, n, rfl, e2, e3, e4⟩ := h2
        exact ⟨a, vs, n, rfl, (C.mu a fun q => C.acc z j l vs.toArray n hz hj ql (q ▸ h1) (q ▸ e2)).trans e2, VRs.mono C.b.z C.b.p _ e3, e4⟩
  · by_cases hj : j = i
    · subst hj
      cases X.inj y x j hy C.own
      obtain ⟨h1, h2⟩ := C.new l a (is hl) (C.sx.fun hsl)
      refine ⟨h1, fun y' j' l' hy' hl' hj' hs' => ?_⟩
      rw [lget_set_ne loc lv hj'] at hl'
      exact h2 y' j' l' hy' hl' hj' ((C.s y' _ (ne hy' hj') (nn hy')).mp hs')
    · rw [lget_set_ne loc lv hj] at hl
      have hso := (C.s y _ (ne hy hj) (nn hy)).mp hsl
      obtain ⟨h1, h2⟩ := S.acc y j l a hy hl hso
      refine ⟨h1, fun y' j' l' hy' hl' hj' hs' => ?_⟩
      by_cases hji : j' = i
      · subst hji
        cases X.inj y' x j' hy' C.own
        exact (C.new l' a (is hl') (C.sx.fun hs')).2 y j l hy hl hj hso
      · rw [lget_set_ne loc lv hji] at hl'
        exact h2 y' j' l' hy' hl' hj' ((C.s y' _ (ne hy' hji) (nn hy')).mp hs')
noncomputable def NewOk (X : Fn Y) (R : MU) (loc : Loc) (c : Cf) (i : Nat) (lv : LV) (v : Value) : Prop := ∀ l a, lv = .acc l → v = .ref a → R a = none ∧ ∀ y j l', X.sc.own y = some j → lget loc j = .acc l' → j ≠ i → ¬ Slot X.env c.Mu y (.ref a)
theorem newOk_val {m : MV} {i : Nat} {v : Value} : NewOk X R loc c i (.val m) v := fun _ _ h => nomatch h
theorem LVR.setM {v : Value} {ad : Addr} {y : Option MC} {h : Heap} {tk : Nat} (n : ∀ vs n, c.Mu ad ≠ some (.ex (listOf vs n))) : ∀ {lv : LV}, LVR Y c v lv → LVR Y (c.setM ad y h tk) v lv
  | .un, _ => trivial
  | .val _, h => h
  | .acc _, ⟨a, vs, n', e, q, r⟩ => ⟨a, vs, n', e, (upd_ne fun z => n _ _ (z ▸ q)).trans q, r⟩
theorem wp_store (S : StS X R loc c) {A' : Around} {x : Str} {i : Nat} {v : Value} {lv : LV} {E : Value → Shared → Prop} {Q : Unit → Shared → Prop} (hx : X.sc.own x = some i) (hlv : LVR Y c v lv) (hn : NewOk X R loc c i lv v)
    (h : ∀ c', StS X R (loc.set i lv) c' → StB c c' → c'.H = c.H → (∀ b m, c.Mu b = some (.fr m) → ∃ m', c'.Mu b = some (.fr m')) → Q () c'.s) : wpAny Y.M A' (storeName X.env x v) Q E c.s := by
  obtain ⟨m, hm⟩ := S.own
  rcases own_kind hx with kd | kd
  · have kd' : X.env.kindOf x = some .local := (X.V.k x).trans kd
    refine wpAny_storeName_local kd' (S.K.ns hm) (fun h' hns hsb => ?_) (by rw [X.V.kind]; rfl)
    have nl : ∀ vs n, c.Mu X.env.locals ≠ some (.ex (listOf vs n)) := fun vs n q => nomatch hm.symm.trans q
    have k' := S.K.setM (x := some (.fr (fun y => if y = x then some v else m y))) (c.s.toks + 1) (S.K.un hm rfl) (fun b o n e => (hsb.2 b n).trans e) fun y hy => Option.some.inj hy ▸ at_fr hns
    refine h (c.setM X.env.locals (some (.fr (fun y => if y = x then some v else m y))) h' (c.s.toks + 1)) (S.chg ⟨hx, k', ⟨ZLe.refl, PLe.refl, rfl⟩, S.ownR, fun a ha => Cf.setM_ne ha, ⟨_, Cf.setM_m ..⟩,
      fun z a w _ _ e2 => ⟨w, (Cf.setM_ne (fun q => nomatch (q ▸ e2).symm.trans hm)).trans e2⟩, fun z r hz _ => ⟨?_, ?_⟩, .inl ⟨kd', _, Cf.setM_m .., if_pos rfl⟩, hlv.setM nl, fun _ _ _ vs n _ _ _ _ => nl vs n, hn⟩) ⟨ZLe.refl, PLe.refl, rfl⟩ rfl fun b m' hb => ?_
    · rintro (⟨k, m', e, q⟩ | ⟨k, a, e, q⟩)
      · cases (Cf.setM_m ..).symm.trans e; exact .inl ⟨k, m, hm, (if_neg hz).symm.trans q⟩
      · exact (upd_cases q).elim (fun q => nomatch q.2) fun q => .inr ⟨k, a, e, q.2⟩
    · rintro (⟨k, m', e, q⟩ | ⟨k, a, e, q⟩)
      · cases hm.symm.trans e; exact .inl ⟨k, _, Cf.setM_m .., (if_neg hz).trans q⟩
      · exact .inr ⟨k, a, e, (Cf.setM_ne (fun z => nomatch (z ▸ q).symm.trans hm)).trans q⟩
    · by_cases hbl : b = X.env.locals
      · subst hbl; exact ⟨_, Cf.setM_m ..⟩
      · exact ⟨m', (Cf.setM_ne hbl).trans hb⟩
  · have kd' : X.env.kindOf x = some .cell := (X.V.k x).trans kd
    obtain ⟨ad, v₀, e1, e2, e3⟩ := S.cel x kd
    refine wpAny_storeName_cell X.V.kind kd' e1 (S.K.inv.m _ _ e2) fun h' hc hsb => ?_
    have nl : ∀ vs n, c.Mu ad ≠ some (.ex (listOf vs n)) := fun vs n q => nomatch e2.symm.trans q
    have k' := S.K.setM (x := some (.ce (some v))) (h := h') c.s.toks (S.K.un e2 rfl) (fun b o n e => (hsb.2 b n).trans e) fun y hy => Option.some.inj hy ▸ hc
    have hne : ∀ {b m}, c.Mu b = some (.fr m) → b ≠ ad := fun e q => nomatch (q ▸ e).symm.trans e2
    refine h (c.setM ad (some (.ce (some v))) h' c.s.toks) (S.chg ⟨hx, k', ⟨ZLe.refl, PLe.refl, rfl⟩, e3, fun a ha => Cf.setM_ne ha, ⟨m, (Cf.setM_ne (hne hm)).trans hm⟩, fun z a w hz e4 e5 => ?_, fun z r hz _ => ⟨?_, ?_⟩,
      .inr ⟨.inl kd', ad, e1, Cf.setM_m ..⟩, hlv.setM nl, fun _ _ _ vs n _ _ _ _ => nl vs n, hn⟩) ⟨ZLe.refl, PLe.refl, rfl⟩ rfl fun b m' hb => ⟨m', (Cf.setM_ne (hne hb)).trans hb⟩
    · by_cases ha : a = ad
      · subst ha; exact ⟨_, Cf.setM_m ..⟩
      · exact ⟨w, (Cf.setM_ne ha).trans e5⟩
    · rintro (⟨k, m', e, q⟩ | ⟨k, a, e, q⟩)
      · exact (upd_cases e).elim (fun q => nomatch q.2) fun e => .inl ⟨k, m', e.2, q⟩
      · have ha : a ≠ ad := fun y => hz (X.cinj z x ad (y ▸ e) e1)
        exact .inr ⟨k, a, e, (Cf.setM_ne ha).symm.trans q⟩
    · rintro (⟨k, m', e, q⟩ | ⟨k, a, e, q⟩)
      · exact .inl ⟨k, m', (Cf.setM_ne (hne e)).trans e, q⟩
      · have ha : a ≠ ad := fun y => hz (X.cinj z x ad (y ▸ e) e1)
        exact .inr ⟨k, a, e, (Cf.setM_ne ha).trans q⟩
end
end Mini
end
noncomputable section
namespace Mini
open PySem PySem.W PySem.Calls PyProof.Rows
structure PtS where
  p : Pos
  a : Expr := default
  b : Expr := default
  x : List Stmt := []
  y : List Stmt := []
  hs : List ExceptHandler := []
  n : Nat := 0
noncomputable def partsS (s : Stmt) : PtS := match s with
  | .Return v p => { p, a := v.getD default, n := if v.isNone then 1 else 0 }
  | .Assign ts v p => { p, a := hd1 ts, b := v }
  | .AugAssign t _ v p => { p, a := t, b := v }
  | .For t i x _ p => { p, a := t, b := i, x }
  | .While t x _ p => { p, a := t, x }
  | .If t x y p => { p, a := t, x, y }
  | .Raise v _ p => { p, a := v.getD default }
  | .Try x hs _ _ p => { p, x, hs }
  | .Expr v p => { p, a := v }
  | .Break p => { p }
  | _ => { p := default }
noncomputable def isStrC (e : Expr) : Bool := match e with | .Constant (.str _) _ _ => true | _ => false
noncomputable def hType (h : ExceptHandler) : Expr := match h with | .ExceptHandler t _ _ _ => t.getD default
noncomputable def hBody (h : ExceptHandler) : List Stmt := match h with | .ExceptHandler _ _ b _ => b
noncomputable def hPos (h : ExceptHandler) : Pos := match h with | .ExceptHandler _ _ _ p => p
noncomputable def exN (cs : List Nat) (t : Expr) : Expr := match cs with
  | [_] => asName t
  | _ => .Tuple [asName (hd1 (parts t).xs), asName (hd2 (parts t).xs)] (parts t).n (parts t).p
noncomputable def exHE : HE → Expr → Expr
  | .none, e => noneAs e
  | .tt, e => .Constant (.bool true) (parts e).n (parts e).p
  | .ff, e => .Constant (.bool false) (parts e).n (parts e).p
  | .int i, e => .Constant (.int i) (parts e).n (parts e).p
  | .neg i, e => .UnaryOp .USub (.Constant (.int i) (parts (parts e).a).n (parts (parts e).a).p) (parts e).p
  | .var _, e => asName e
  | .notv _, e => .UnaryOp .Not (asName (parts e).a) (parts e).p
  | .pair a b, e => .Tuple [exHE a (hd1 (parts e).xs), exHE b (hd2 (parts e).xs)] (parts e).n (parts e).p
noncomputable def okHE (sc : SC) : HE → Expr → Bool
  | .none, _ => true
  | .tt, _ => true
  | .ff, _ => true
  | .int _, _ => true
  | .neg _, _ => true
  | .var i, e => sc.slot (parts e).s == some i
  | .notv i, e => sc.slot (parts (parts e).a).s == some i
  | .pair a b, e => (okHE sc a (hd1 (parts e).xs) && noStar (exHE a (hd1 (parts e).xs))) && (okHE sc b (hd2 (parts e).xs) && noStar (exHE b (hd2 (parts e).xs)))
noncomputable def exHS : HS → Stmt → Stmt
  | .bad, s => s
  | .assign _ e, s => .Assign [asName (partsS s).a] (exHE e (partsS s).b) (partsS s).p
  | .ret e, s => .Return (some (exHE e (partsS s).a)) (partsS s).p
  | .brk, s => .Break (partsS s).p
noncomputable def okHS (sc : SC) : HS → Stmt → Bool
  | .bad, _ => true
  | .assign i e, s => sc.own (parts (partsS s).a).s == some i && (okHE sc e (partsS s).b && noComp (exHE e (partsS s).b))
  | .ret e, s => okHE sc e (partsS s).a
  | .brk, _ => true
noncomputable def exH : List HS → List Stmt → List Stmt
  | [], _ => []
  | h :: r, xs => exHS h (xs.headD default) :: exH r xs.tail
noncomputable def okH (sc : SC) : List HS → List Stmt → Bool
  | [], _ => true
  | h :: r, xs => okHS sc h (xs.headD default) && okH sc r xs.tail
section
variable (T : Tie)
noncomputable def okN (sc : SC) (cs : List Nat) (t : Expr) : Bool := match cs with
  | [c] => gOk T sc (parts t).s (.exc c)
  | [c, d] => gOk T sc (parts (hd1 (parts t).xs)).s (.exc c) && gOk T sc (parts (hd2 (parts t).xs)).s (.exc d)
  | _ => false
noncomputable def exF : List Expr → MEs → List Expr
  | [], _ => []
  | v :: r, es => if isStrC v then .Constant (.str (parts v).s) (parts v).n (parts v).p :: exF r es else match es with
    | .nil => []
    | .cons e es => .FormattedValue (ex T e (parts v).a) (-1) none (parts v).p :: exF r es
noncomputable def okF (sc : SC) : List Expr → MEs → Bool
  | [], es => es.isNil
  | v :: r, es => if isStrC v then decide ((parts v).s.length ≤ 1000) && okF sc r es else match es with
    | .nil => false
    | .cons e es => ok T sc e (parts v).a && okF sc r es
noncomputable def MS.isFreeze (s : MS) : Bool := match s with | .freeze _ => true | _ => false
noncomputable def ME.isComp (e : ME) : Bool := match e with | .comp .. => true | .compIf .. => true | _ => false
mutual
noncomputable def exS : MS → Stmt → Stmt
  | .bad, s => s
  | .assign _ e, s => .Assign [asName (partsS s).a] (ex T e (partsS s).b) (partsS s).p
  | .unpack _ e, s => .Assign [.Tuple ((parts (partsS s).a).xs.map asName) (parts (partsS s).a).n (parts (partsS s).a).p] (ex T e (partsS s).b) (partsS s).p
  | .setAttr e f v, s => .Assign [.Attribute (ex T e (parts (partsS s).a).a) (nameOf T f) (parts (partsS s).a).p] (ex T v (partsS s).b) (partsS s).p
  | .aug _ o e, s => .AugAssign (asName (partsS s).a) (realOp o) (ex T e (partsS s).b) (partsS s).p
  | .accNew _ es, s => .Assign [asName (partsS s).a] (.List (exs T es (parts (partsS s).b).xs) (parts (partsS s).b).p) (partsS s).p
  | .accCopy _ e, s => .Assign [asName (partsS s).a] (.Subscript (ex T e (parts (partsS s).b).a) (.Slice none none none (parts (parts (partsS s).b).b).p) (parts (partsS s).b).p) (partsS s).p
  | .accApp _ e, s => .Expr (.Call (.Attribute (asName (parts (partsS s).a).a) "append" (parts (partsS s).a).q) [ex T e (hd1 (parts (partsS s).a).xs)] [] (parts (partsS s).a).p) (partsS s).p
  | .freeze _, s => s
  | .expr e, s => .Expr (ex T e (partsS s).a) (partsS s).p
  | .ife t a b, s => .If (exT T t (partsS s).a) (exSs a (partsS s).x) (exSs b (partsS s).y) (partsS s).p
  | .whil _ t b, s => .While (exT T t (partsS s).a) (exSs b (partsS s).x) [] (partsS s).p
  | .forr _ it b, s => .For (asName (partsS s).a) (exI T it (partsS s).b) (exSs b (partsS s).x) [] (partsS s).p
  | .ret e, s => .Return (if (partsS s).n = 1 then none else some (ex T e (partsS s).a)) (partsS s).p
  | .brk, s => .Break (partsS s).p
  | .raise _ es, s => .Raise (some (exCall (parts (partsS s).a) [.JoinedStr (exF T (parts (hd1 (parts (partsS s).a).xs)).xs es) (parts (hd1 (parts (partsS s).a).xs)).p])) none (partsS s).p
  | .tryy b hs, s => .Try (exSs b (partsS s).x) (exHs hs (partsS s).hs) [] [] (partsS s).p
noncomputable def exSs : MSs → List Stmt → List Stmt
  | .nil, _ => []
  | .cons s r, xs => if s.isFreeze then exSs r xs else exS s (xs.headD default) :: exSs r xs.tail
noncomputable def exHs : MHs → List ExceptHandler → List ExceptHandler
  | .nil, _ => []
  | .cons cs b r, hs => .ExceptHandler (some (exN cs (hType (hs.headD default)))) none (exH b (hBody (hs.headD default))) (hPos (hs.headD default)) :: exHs r hs.tail
end
noncomputable def okComp (sc : SC) (s : PtS) : Bool := sc.isLocal (parts s.a).s && ((parts s.a).p.line == (parts s.b).p.line && (!((parts s.b).sc.names.any fun p => p.1 == (parts s.a).s && (p.2 == .local || p.2 == .cell)) && s.p.line == (parts s.b).p.line))
noncomputable def targetsOk (sc : SC) : List Nat → List Expr → Bool
  | [], xs => xs.isEmpty
  | i :: is, xs => !xs.isEmpty && (sc.own (parts (hd1 xs)).s == some i && targetsOk sc is xs.tail)
noncomputable def isRet0 (e : ME) : Bool := match e with | .none => true | _ => false
mutual
noncomputable def okS (sc : SC) : MS → Stmt → Bool
  | .bad, _ => true
  | .assign i e, s => sc.own (parts (partsS s).a).s == some i && (ok T sc e (partsS s).b && (if e.isComp then okComp sc (partsS s) else noComp (ex T e (partsS s).b)))
  | .unpack is e, s => targetsOk sc is (parts (partsS s).a).xs && (ok T sc e (partsS s).b && ((isCallE (ex T e (partsS s).b) || isSubE (ex T e (partsS s).b)) && (decide is.Nodup && decide (2 ≤ is.length))))
  | .setAttr e _ v, s => ok T sc v (partsS s).b && (ok T sc e (parts (partsS s).a).a && noComp (ex T v (partsS s).b))
  | .aug i o e, s => sc.own (parts (partsS s).a).s == some i && (ok T sc e (partsS s).b && (match o with | .add => true | .sub => true | _ => false))
  | .accNew i es, s => okAcc sc (partsS s).a i && (oks T sc es (parts (partsS s).b).xs && decide ((exs T es (parts (partsS s).b).xs).length ≤ 1000))
  | .accCopy i e, s => okAcc sc (partsS s).a i && ok T sc e (parts (partsS s).b).a
  | .accApp i e, s => okAcc sc (parts (partsS s).a).a i && (((parts (partsS s).a).q.endLine == (parts (partsS s).a).p.line) && (ok T sc e (hd1 (parts (partsS s).a).xs) && noStar (ex T e (hd1 (parts (partsS s).a).xs))))
  | .freeze _, _ => true
  | .expr e, s => ok T sc e (partsS s).a && isCallE (ex T e (partsS s).a)
  | .ife t a b, s => okT T sc t (partsS s).a && (okSs sc a (partsS s).x && okSs sc b (partsS s).y)
  | .whil _ t b, s => okT T sc t (partsS s).a && okSs sc b (partsS s).x
  | .forr i it b, s => okAcc sc (partsS s).a i && (okI T sc it (partsS s).b && okSs sc b (partsS s).x)
  | .ret e, s => if (partsS s).n = 1 then isRet0 e else ok T sc e (partsS s).a
  | .brk, _ => true
  | .raise c es, s => okG T sc (partsS s).a (.exc c) && (okF T sc (parts (hd1 (parts (partsS s).a).xs)).xs es && (decide (2 ≤ (parts (hd1 (parts (partsS s).a).xs)).xs.length) && decide ((parts (hd1 (parts (partsS s).a).xs)).xs.length ≤ 20)))
  | .tryy b hs, s => okSs sc b (partsS s).x && (okHs sc hs (partsS s).hs && !(match hs with | .nil => true | .cons .. => false))
noncomputable def okSs (sc : SC) : MSs → List Stmt → Bool
  | .nil, _ => true
  | .cons s r, xs => if s.isFreeze then (match s with | .freeze i => sc.vars.any (fun p => p.2 == i && sc.own p.1 == some i) | _ => true) && okSs sc r xs else okS sc s (xs.headD default) && okSs sc r xs.tail
noncomputable def okHs (sc : SC) : MHs → List ExceptHandler → Bool
  | .nil, _ => true
  | .cons cs b r, hs => okN T sc cs (hType (hs.headD default)) && (okH sc b (hBody (hs.headD default)) && (!b.isEmpty && okHs sc r hs.tail))
end
end
end Mini
end
noncomputable section
namespace Mini
open PySem PySem.W PySem.Calls PyProof.Rows
section
variable {Y : Sys} (X : Fn Y)
noncomputable def OutX (k : Nat) (H : MH) (e : Value) (s : Shared) : Prop := ∃ c' a C B a0, c'.s = s ∧ c'.Ok Y ∧ Step X.c₀ c' ∧ c'.H = H ∧ Flown Y c' X.outer e k a C B a0
noncomputable def Leaves (k : Nat) (H : MH) (e : Value) (s : Shared) : Prop := wpAny Y.M X.A (leaving X.env e) (fun _ s' => OutX X k H e s') (fun _ _ => False) s
structure GoS (R : MU) (r : SR) (c : Cf) (Q : Flow → Shared → Prop) (E : Value → Shared → Prop) : Prop where
  nb : r ≠ .bad
  next : ∀ c' loc, StS X R loc c' → StB c c' → r = .next loc c'.H → Q .next c'.s
  brk : ∀ c' loc, StS X R loc c' → StB c c' → r = .brk loc c'.H → Q .brk c'.s
  ret : ∀ c' v m, c'.Ok Y → Step X.c₀ c' → r = .ret m c'.H → VR Y c'.Z c'.φ m v → Q (.ret v) c'.s
  exm : ∀ k l H e s, r = .exm k l H → Leaves X k H e s → E e s
  exf : ∀ c' loc k e a C B a0, StS X R loc c' → StB c c' → r = .exf k loc c'.H → Flown Y c' X.l e k a C B a0 → E e c'.s
noncomputable def WS (R : MU) (t : Sem Flow) (r : SR) (c : Cf) : Prop := ∀ Q E, GoS X R r c Q E → wpAny Y.M X.A t Q E c.s
end
section
variable {Y : Sys} {X : Fn Y} {R : MU} {loc : Loc} {c c' : Cf} {r r' : SR} {Q : Flow → Shared → Prop} {E : Value → Shared → Prop}
theorem GoS.at (g : GoS X R r c Q E) (b : StB c c') (q : r = r') : GoS X R r' c' Q E :=
  ⟨q ▸ g.nb, fun c' l S b' e => g.next c' l S (b.trans b') (q.trans e), fun c' l S b' e => g.brk c' l S (b.trans b') (q.trans e), fun c' v m k s e => g.ret c' v m k s (q.trans e),
    fun k l H e s q' => g.exm k l H e s (q.trans q'), fun c' l k e a C B a0 S b' e' => g.exf c' l k e a C B a0 S (b.trans b') (q.trans e')⟩
theorem seqE {α β : Type} (S : StS X R loc c) {m : Sem α} {Rel : Cf → α → β → Prop} {rr : RS β} {f : β → MH → SR} {Q' : α → Shared → Prop} (h : Wk Y X.A X.l m Rel rr c) (g : GoS X R (toS rr loc f) c Q E)
    (k : ∀ c' v b, StS X R loc c' → Step c c' → Rel c' v b → GoS X R (f b c'.H) c' Q E → Q' v c'.s) : wpAny Y.M X.A m Q' E c.s :=
  h Q' E ⟨fun e => g.nb (e ▸ rfl), fun c' v b o s e q => k c' v b (S.step s o) s q (g.at s.toStB (e ▸ rfl)), fun c' k' e' a C B a0 o s e fl => g.exf c' loc k' e' a C B a0 (S.step s o) s.toStB (e ▸ rfl) fl⟩
theorem GoS.opt {ω : Type} {o : Option ω} {f : ω → SR} (g : GoS X R (optS o f) c Q E) : ∃ a, o = some a ∧ GoS X R (f a) c Q E := match o, g with
  | some a, g => ⟨a, rfl, g⟩
  | none, g => absurd rfl g.nb
theorem GoS.here {l : Loc} (g : GoS X R (.next l c.H) c Q E) (S : StS X R l c) : Q .next c.s := g.next c l S (StB.refl c) rfl
theorem Cf.Ok.flew {B h' : Heap} (k : c.Ok Y) (hb : Holds B c) (hB : B.StaysIn h') (us : c.s.heap.UpToSlots h') : (c.heap h' c.s.toks).Ok Y := by
  refine ⟨⟨fun a o e => hB _ _ (hb.z a o e), fun a x e => ?_, k.inv.d⟩, k.hr, k.base⟩
  by_cases q : ∃ m, x = .fr m
  · obtain ⟨m, rfl⟩ := q; exact at_fr (us.ns (k.ns e))
  · exact MC.at_to (hB a) (hb.m a x e fun m hm => q ⟨m, hm⟩)
theorem funFrames_of {as : List Addr} (k : c.Ok Y) : ∀ {l : List Env}, FramesOk c l → (∀ env ∈ l, ∀ a, env.frame = some a → a ∈ as) → c.s.heap.FunFrames (hideAll c.s.heap as) l
  | [], _, _ => trivial
  | env :: r, h, hin => by
    obtain ⟨h1, L, m, h2, h3⟩ := h env (.head _)
    obtain ⟨o, es, ep, ho, hd, _⟩ := k.ns h3
    exact ⟨h1, ⟨L, o, h2, hideAll_none _ (hin env (.head _) L h2), ho, fun vs q => nomatch hd.symm.trans q⟩, funFrames_of k (fun e he => h e (.tail _ he)) fun e he => hin e (.tail _ he)⟩
theorem holds_hide {l : List Env} (k : c.Ok Y) (h : FramesOk c l) : Holds (hideAll c.s.heap (l.filterMap (·.frame))) c := by
  have hn : ∀ a, a ∈ l.filterMap (·.frame) → ∃ m, c.Mu a = some (.fr m) := fun a ha => by
    obtain ⟨env, he, hf⟩ := List.mem_filterMap.mp ha
    obtain ⟨_, L, m, h2, h3⟩ := h env he
    cases h2.symm.trans hf; exact ⟨m, h3⟩
  refine ⟨fun a o e => hideAll_get _ (k.inv.z a o e) fun ha => ?_, fun a x e hx => MC.at_to (fun o q => hideAll_get _ q fun ha => ?_) (k.inv.m a x e)⟩
  · obtain ⟨m, hm⟩ := hn a ha
    exact nomatch (k.inv.d _ _ hm).symm.trans e
  · obtain ⟨m, hm⟩ := hn a ha
    exact hx m (Option.some.inj (e.symm.trans hm))
theorem StS.out (S : StS X R loc c) (s : Step c c') : Step X.c₀ c' :=
  ⟨S.base.trans s.toStB, fun a x e => by
    obtain ⟨y, h1, h2⟩ := S.keep a x (S.ext a x e)
    obtain ⟨y', h3, h4⟩ := s.k a y h1
    exact ⟨y', h3, fun n => by have := h2 n; subst this; exact h4 n⟩⟩
theorem leaves_made (S : StS X R loc c) {k : Nat} {C e : Addr} {h₁ : Heap} {args : List Value} (hC : Y.T.eadr[k]? = some C) (hx : Heap.MadeExcOf c.s.heap h₁ e (.ref C) args) :
    Leaves X k c.H (.ref e) { c.s with heap := h₁ } := by
  have FO := S.ex.F
  refine wpAny_leaves_madeW (base := hideAll c.s.heap (X.l.filterMap (·.frame))) (X.at_.fr.trans (congrArg some X.el)) X.fr (fun b o q => of_hideAll _ q) (X.el ▸ funFrames_of S.K FO fun e he b hb => List.mem_filterMap.mpr ⟨e, he, hb⟩) hx fun h' t x1 x2 x3 x4 => ?_
  have hb := holds_hide S.K FO
  exact ⟨c.heap h' c.s.toks, e, C, _, _, rfl, S.K.flew hb x1.1 ((Heap.UpToSlots.of_keeps hx.keeps).trans x4), S.out (Step.heap c h' _), rfl, rfl, hC, x1, hb.z, hb.m⟩
theorem ne_mu {f : MU} {a b : Addr} {x y : MC} (h : f a = some x) (e : f b = some y) (n : x ≠ y) : b ≠ a := fun q => n (Option.some.inj (h.symm.trans (q ▸ e)))
theorem slot_keep {env : Env} {Mu Mu' : MU} {a : Addr} (hne : ∀ b, b ≠ a → Mu' b = Mu b) (h1 : ∀ m, Mu a ≠ some (.fr m)) (h2 : ∀ v, Mu a ≠ some (.ce v)) (h3 : ∀ m, Mu' a ≠ some (.fr m)) (h4 : ∀ v, Mu' a ≠ some (.ce v)) (z : Str) (r : Value) : Slot env Mu' z r ↔ Slot env Mu z r := by
  constructor
  · rintro (⟨k, m', e, q⟩ | ⟨k, b, e, q⟩)
    · exact .inl ⟨k, m', (hne _ fun y => h3 m' (y ▸ e)).symm.trans e, q⟩
    · exact .inr ⟨k, b, e, (hne _ fun y => h4 _ (y ▸ q)).symm.trans q⟩
  · rintro (⟨k, m', e, q⟩ | ⟨k, b, e, q⟩)
    · exact .inl ⟨k, m', (hne _ fun y => h1 m' (y ▸ e)).trans e, q⟩
    · exact .inr ⟨k, b, e, (hne _ fun y => h2 _ (y ▸ q)).trans q⟩
theorem StS.at_cel (S : StS X R loc c) {z : Str} {a : Addr} {w : Option Value} (hz : X.sc.names.lookup z = some .cell) (e : X.env.cells.lookup z = some a) : ∃ w, c.Mu a = some (.ce w) := by
  obtain ⟨a', w, e', h, _⟩ := S.cel z hz
  cases e.symm.trans e'; exact ⟨w, h⟩
theorem StS.changed (S : StS X R loc c) {x : Str} {i : Nat} {xs : List MV} {a : Addr} {vs : Array Value} {n : Nat} {lv : LV} (hx : X.sc.own x = some i) (q : lget loc i = .acc xs) (hs : Slot X.env c.Mu x (.ref a)) (hm : c.Mu a = some (.ex (listOf vs n)))
    (k : c'.Ok Y) (b : StB c c') (hne : ∀ b, b ≠ a → c'.Mu b = c.Mu b) (h3 : ∀ m, c'.Mu a ≠ some (.fr m)) (h4 : ∀ v, c'.Mu a ≠ some (.ce v)) (hlv : LVR Y c' (.ref a) lv) : StS X R (loc.set i lv) c' := by
  obtain ⟨hR, hap⟩ := S.acc x i xs a hx q hs
  have sk := slot_keep (env := X.env) hne (fun m e => nomatch hm.symm.trans e) (fun m e => nomatch hm.symm.trans e) h3 h4
  refine S.chg ⟨hx, k, b, hR, hne, ?_, fun z a' w hz e1 e2 => ⟨w, (hne _ (ne_mu hm e2 fun q => nomatch q)).trans e2⟩, fun z r _ _ => sk z r, (sk x _).mpr hs, hlv, fun y j l vs n hy hj hl hs' _ => hap y j l hy hl hj hs', fun l a' h1 h2 => ?_⟩
  · obtain ⟨m, h⟩ := S.own
    exact ⟨m, (hne _ (ne_mu hm h fun q => nomatch q)).trans h⟩
  · cases h2; exact ⟨hR, hap⟩
theorem StS.frozen (S : StS X R loc c) {x : Str} {i : Nat} {xs : List MV} (hx : X.sc.own x = some i) (q : lget loc i = .acc xs) :
    ∃ c', c'.s = c.s ∧ c'.H = c.H ∧ StB c c' ∧ StS X R (loc.set i (.val (.list xs))) c' := by
  obtain ⟨a, vs, n, hs, hm, hv, hz⟩ := S.acc_at hx q
  have u := S.K.un hm rfl
  have b : StB c (c.setZ a (listOf vs.toArray n) c.s.heap c.s.toks) := ⟨ZLe.upd u.z, PLe.refl, rfl⟩
  exact ⟨c.setZ a (listOf vs.toArray n) c.s.heap c.s.toks, rfl, rfl, b, S.changed hx q hs hm (S.K.setZ _ u (fun _ _ _ e => e) (ex_at (S.K.inv.m _ _ hm))) b (fun b hb => upd_ne hb) (fun m e => nomatch (upd_self ..).symm.trans e) (fun m e => nomatch (upd_self ..).symm.trans e)
    ⟨a, vs, n, rfl, upd_self .., VRs.mono b.z b.p _ hv, two_k hz⟩⟩
theorem StS.off (S : StS X R loc c) {ad : Addr} (k : c'.Ok Y) (b : StB c c') (hR : R ad = none) (hne : ∀ b, b ≠ ad → c'.Mu b = c.Mu b) (hl : ad ≠ X.env.locals) (hce : ∀ v, c.Mu ad ≠ some (.ce v)) (hce' : ∀ v, c'.Mu ad ≠ some (.ce v)) (hli : ∀ vs n, c.Mu ad ≠ some (.ex (listOf vs n))) : StS X R loc c' := by
  have sk : ∀ z r, Slot X.env c'.Mu z r ↔ Slot X.env c.Mu z r := fun z r => by
    constructor
    · rintro (⟨k, m', e, q⟩ | ⟨k, b, e, q⟩)
      · exact .inl ⟨k, m', (hne _ (Ne.symm hl)).symm.trans e, q⟩
      · exact .inr ⟨k, b, e, (hne _ fun y => hce' _ (y ▸ q)).symm.trans q⟩
    · rintro (⟨k, m', e, q⟩ | ⟨k, b, e, q⟩)
      · exact .inl ⟨k, m', (hne _ (Ne.symm hl)).trans e, q⟩
      · exact .inr ⟨k, b, e, (hne _ fun y => hce _ (y ▸ q)).trans q⟩
  refine ⟨k, S.base.trans b, S.ext, fun a' y e => ?_, S.ownR, ?_, fun z hz => ?_, fun z j hz hu => ?_, fun y j l a' hy hl hsl => ?_⟩
  · rw [hne _ (ne_none hR e)]; exact S.keep a' y e
  · obtain ⟨m, h⟩ := S.own; exact ⟨m, (hne _ (Ne.symm hl)).trans h⟩
  · obtain ⟨a', v, g1, g2, g3⟩ := S.cel z hz; exact ⟨a', v, g1, (hne _ fun y => hce _ (y ▸ g2)).trans g2, g3⟩
  · obtain ⟨r, g1, g2⟩ := S.L z j hz hu
    refine ⟨r, (sk _ _).mpr g1, ?_⟩
    cases ql : lget loc j with
    | un => trivial
    | val v => rw [ql] at g2; exact VR.mono b.z b.p v g2
    | acc l =>
      rw [ql] at g2
      obtain ⟨a', vs', n', rfl, e2, e3, e4⟩ := g2
      exact ⟨a', vs', n', rfl, (hne _ fun y => hli _ _ (y ▸ e2)).trans e2, VRs.mono b.z b.p _ e3, e4⟩
  · obtain ⟨g1, g2⟩ := S.acc y j l a' hy hl ((sk _ _).mp hsl)
    exact ⟨g1, fun y' j' l' hy' hl' hj' hs' => g2 y' j' l' hy' hl' hj' ((sk _ _).mp hs')⟩
theorem StS.free (S : StS X R loc c) {a : Addr} (h : c.Mu a = none) : R a = none := Option.eq_none_iff_forall_ne_some.mpr fun x e => let ⟨_, e', _⟩ := S.keep a x e; nomatch h.symm.trans e'
theorem store_acc {c₁ c₂ : Cf} (S : StS X R loc c₁) (s : Step c₁ c₂) (k : c₂.Ok Y) {x : Str} {i : Nat} {a : Addr} {vs : List Value} {n : Nat} {xs : List MV} {E : Value → Shared → Prop} {Q : Unit → Shared → Prop} (hx : X.sc.own x = some i)
    (hn : c₁.Mu a = none) (hm : c₂.Mu a = some (.ex (listOf vs.toArray n))) (hv : VRs Y c₂.Z c₂.φ xs vs) (hz : xs.length ≤ 2000)
    (h : ∀ c', StS X R (loc.set i (.acc xs)) c' → StB c₁ c' → c'.H = c₂.H → Q () c'.s) : wpAny Y.M X.A (storeName X.env x (.ref a)) Q E c₂.s := by
  refine wp_store (S.step s k) (lv := .acc xs) hx ⟨a, vs, n, rfl, hm, hv, hz⟩ (fun l b hl hb => ?_) fun c' S' b' h' _ => h c' S' (s.toStB.trans b') h'
  cases hb
  refine ⟨S.free hn, fun y j l' hy hl' _ hs => ?_⟩
  obtain ⟨a', vs', n', h1, h2, _⟩ := S.acc_at hy hl'
  cases (h1.step s).fun hs
  exact nomatch hn.symm.trans h2
end
end Mini
end
noncomputable section
namespace Mini
open PySem PySem.W PySem.Calls PyProof.Rows
noncomputable def SS (Y : Sys) (s : MS) : Prop := ∀ (X : Fn Y) (R : MU) (st : Stmt) (loc : Loc) (c : Cf), okS Y.T X.sc s st = true → StS X R loc c → WS X R (exec (exS Y.T s st) X.env) (execS Y.P X.cf s loc c.H) c
section
variable {Y : Sys}
theorem ss_bad : SS Y .bad := fun _ _ _ _ _ _ _ _ _ g => absurd rfl g.nb
theorem ss_freeze (i : Nat) : SS Y (.freeze i) → SS Y (.freeze i) := fun h => h
theorem noComp_plain {e : Expr} (h : noComp e = true) : ∀ (env : Env) (tg : Option Expr) (n : Nat), swapsWith e tg n env = pure false := by
  cases e <;> first | exact fun _ _ _ => rfl | cases h
theorem toS_compR {ri : RS (List MV)} {gg : MV → MH → RS (Option MV)} {loc : Loc} {f : MV → MH → SR} (h : toS (compR ri gg) loc f ≠ .bad) : compR ri gg ≠ .bad := fun e => h (e ▸ rfl)
theorem comp_use {X : Fn Y} {R : MU} {loc : Loc} {c : Cf} {Q : Flow → Shared → Prop} {E : Value → Shared → Prop} (S : StS X R loc c) {i : Nat} {x y : Str} {p yp pos : Pos} {xi : Nat} {elt iter : Expr} {ifs : List Expr} {scope : Scope} {ri : RS (List MV)} {gg : MV → MH → RS (Option MV)} (hx : X.sc.own x = some i)
    (CF : CompFacts X.sc scope y xi) (hit : ∀ x, foldedSetIterable iter X.env x = pure x) (hI : SI Y X.A X.l iter X.env ri c)
    (body : ∀ L cl, (∀ p ∈ scope.names, p.2 = .free → cl.lookup p.1 = X.env.cells.lookup p.1) → Turn Y X.A c (compEnv X.env scope L cl) ifs elt y gg)
    (g : GoS X R (toS (compR ri gg) loc fun v H => .next (loc.set i (.val v)) H) c Q E) :
    wpAny Y.M X.A (evalThenUse (.ListComp elt [⟨.Name y yp, iter, ifs, 0⟩] scope pos) X.env (assign (.Name x p) X.env)) (fun _ s' => Q .next s') E c.s := by
  show wpAny _ X.A (do let _ ← comprehension (.ListComp elt [⟨.Name y yp, iter, ifs, 0⟩] scope pos) scope X.env _ (newList []) false (eval iter X.env) (some (assign (.Name x p) X.env))) _ _ _
  refine wpAny_bind (wpAny_mono (comp_core (Q := fun _ s' => Q .next s') (use := some (assign (.Name x p) X.env)) X.V CF X.at_.h hit X.C hI body (toS_compR g.nb) (fun c' k e a C B a0 o s e' fl => g.exf c' loc k e a C B a0 (S.step s o) s.toStB (by unfold compR; rw [e']; rfl) fl)
    fun c' D ws m L k' t' e' v' l' hL => ?_) (fun _ _ h => wpAny_pure h) fun _ _ h => h)
  show wpAny _ X.A (assign (.Name x p) X.env (.ref D)) _ _ _
  refine wpAny_assign_Name (wp_store (S.step t' k') (lv := .val (.list ws)) hx v' newOk_val fun c₂ S₂ b₂ h₂ fk => ?_)
  obtain ⟨m', hm'⟩ := fk L m l'
  refine ⟨m', S₂.K.ns hm', fun h' hs => ?_⟩
  have k3 := S₂.K.setM (x := none) (h := h') c₂.s.toks (S₂.K.un hm' rfl) (fun b o n e => (hs.2 b n).trans e) fun _ h => nomatch h
  refine g.next (c₂.setM L none h' c₂.s.toks) _ (S₂.off k3 ⟨ZLe.refl, PLe.refl, rfl⟩ (S.free hL) (fun b hb => Cf.setM_ne hb) (let ⟨_, h⟩ := S.own; Ne.symm (ne_none hL h)) (fun v e => nomatch hm'.symm.trans e) (fun v e => nomatch (Cf.setM_m ..).symm.trans e) fun vs n e => nomatch hm'.symm.trans e) (t'.toStB.trans (b₂.trans ⟨ZLe.refl, PLe.refl, rfl⟩)) ?_
  rw [e']; exact congrArg (SR.next _) h₂.symm
theorem swaps_comp {X : Fn Y} {s : PtS} {el : Expr} {gs : List Comprehension} (h : okComp X.sc s = true) : swapsWith (.ListComp el gs (parts s.b).sc (parts s.b).p) (some (asName s.a)) s.p.line X.env = pure true := by
  have h2 := and_r h
  have h3 := and_r h2
  have hk : (X.env.kindOf (parts s.a).s == some .local) = true := by rw [X.V.k]; exact and_l h
  have hbk : (X.env.blockKind == .function) = true := by unfold Env.blockKind; rw [X.V.kind]; rfl
  show (pure (X.env.blockKind == .function && X.env.kindOf (parts s.a).s == some .local && (parts s.a).p.line == (parts s.b).p.line && !((parts s.b).sc.names.any fun (n, k) => n == (parts s.a).s && (k == .local || k == .cell))) : Sem Bool) = pure true
  rw [hbk, hk, and_l h2, and_l h3]; rfl
theorem isComp_of {me : ME} (h : me.isComp = true) : (∃ e x i, me = .comp e x i) ∨ ∃ e x i t, me = .compIf e x i t := by
  cases me <;> first | exact .inl ⟨_, _, _, rfl⟩ | exact .inr ⟨_, _, _, _, rfl⟩ | cases h
theorem ss_assign (i : Nat) (me : ME) : SS Y (.assign i me) := fun X R st loc c h S Q E g => by
  have hx : X.sc.own (parts (partsS st).a).s = some i := beq_iff_eq.mp (and_l h)
  have h2 := and_r h
  have h3 := and_r h2
  cases hc : me.isComp with
  | false =>
    rw [hc, if_neg (by decide)] at h3
    refine wpAny_Assign_Name (seqE S (soundE me X.toBlk _ loc c (and_l h2) S.ex) g fun c₁ u m S₁ s₁ r₁ g => ?_) (noComp_plain h3 _ _ _)
    exact wp_store S₁ (lv := .val m) hx r₁ newOk_val fun c₂ S₂ b₂ h₂ _ => g.next c₂ _ S₂ b₂ (by rw [h₂])
  | true =>
    rw [hc, if_pos rfl] at h3
    rcases isComp_of hc with ⟨elt, y, it, rfl⟩ | ⟨elt, y, it, t, rfl⟩
    · have h3 := h3
      have hh := and_l h2
      have F := compFacts (and_l hh)
      refine wp_of (exec_Assign_Name_used _ _ _ _ (swaps_comp h3)) (wpAny_bind (wpAny_standAt (wpAny_bind (wpAny_mono (comp_use S hx F ((soundI it).plain _ _ _ · (and_l (and_r hh))) ((soundI it).run X.toBlk _ loc c (and_l (and_r hh)) S.ex) (turn_comp (soundE elt) S.ex F (and_r (and_r hh))) g) (fun _ _ h => wpAny_pure h) fun _ _ h => h))))
    · have hh := and_l h2
      have F := compFacts (and_l hh)
      refine wp_of (exec_Assign_Name_used _ _ _ _ (swaps_comp h3)) (wpAny_bind (wpAny_standAt (wpAny_bind (wpAny_mono (comp_use S hx F ((soundI it).plain _ _ _ · (and_l (and_r hh))) ((soundI it).run X.toBlk _ loc c (and_l (and_r hh)) S.ex) (turn_compIf (soundE elt) (soundT t) S.ex F (and_l (and_r (and_r hh))) (and_r (and_r (and_r hh)))) g) (fun _ _ h => wpAny_pure h) fun _ _ h => h))))
theorem ss_expr (me : ME) : SS Y (.expr me) := fun X R st loc c h S Q E g => by
  refine wpAny_Expr_any (seqE S (soundE me X.toBlk _ loc c (and_l h) S.ex) g fun c₁ u m S₁ s₁ r₁ g => g.here S₁) (by unfold interactive; rw [X.V.kind]; rfl) (by
    have := and_r h
    revert this
    cases ex Y.T me (partsS st).a <;> first | exact fun _ => rfl | exact fun h => nomatch h)
theorem ss_brk : SS Y .brk := fun X R st loc c h S Q E g => wpAny_Break (g.brk c loc S (StB.refl c) rfl)
theorem isRet0_of {me : ME} (h : isRet0 me = true) : me = .none := by cases me <;> first | rfl | cases h
theorem ss_ret (me : ME) : SS Y (.ret me) := fun X R st loc c h S Q E g => by
  by_cases hn : (partsS st).n = 1
  · have h' : (if (partsS st).n = 1 then isRet0 me else ok Y.T X.sc me (partsS st).a) = true := h
    rw [if_pos hn] at h'
    show wpAny _ _ (exec (.Return (if (partsS st).n = 1 then none else some (ex Y.T me (partsS st).a)) (partsS st).p) X.env) _ _ _
    rw [if_pos hn]
    cases isRet0_of h'
    exact wpAny_Return_none (g.ret c _ _ S.K (S.out (Step.refl c)) rfl rfl)
  · have h' : (if (partsS st).n = 1 then isRet0 me else ok Y.T X.sc me (partsS st).a) = true := h
    rw [if_neg hn] at h'
    show wpAny _ _ (exec (.Return (if (partsS st).n = 1 then none else some (ex Y.T me (partsS st).a)) (partsS st).p) X.env) _ _ _
    rw [if_neg hn]
    exact wpAny_Return_some (seqE S (soundE me X.toBlk _ loc c h' S.ex) g fun c₁ u m S₁ s₁ r₁ g => g.ret c₁ u m S₁.K (S₁.out (Step.refl c₁)) rfl r₁)
theorem ss_aug (i : Nat) (o : Op) (me : ME) : SS Y (.aug i o me) := fun X R st loc c h S Q E g => by
  have hx : X.sc.own (parts (partsS st).a).s = some i := beq_iff_eq.mp (and_l h)
  have h2 := and_r h
  obtain ⟨w, q, g⟩ := GoS.opt (o := (lget loc i).val?) g
  obtain ⟨rv, hs, hr⟩ := S.L _ i (own_slot hx) (fun z => nomatch (LV.val_of q).symm.trans z)
  rw [LV.val_of q] at hr
  refine wpAny_AugAssign_Name (wp_var X.V S.K hs (seqE S (soundE me X.toBlk _ loc c (and_l h2) S.ex) g fun c₁ u m S₁ s₁ r₁ g => ?_))
  obtain ⟨r, e, g⟩ := g.opt
  obtain ⟨a, b, rfl, rfl, e⟩ := intz_of e
  obtain ⟨t, rfl⟩ := hr
  obtain ⟨t', rfl⟩ := r₁
  have fin : ∀ (z : Int), r = .int z → wpAny Y.M X.A (storeName X.env (parts (partsS st).a).s (.int z c₁.s.toks)) (fun _ => Q .next) E { c₁.s with toks := c₁.s.toks + 1 } := fun z ez => by
    subst ez
    exact wp_store (c := c₁.heap c₁.s.heap (c₁.s.toks + 1)) (S₁.step (Step.heap c₁ _ _) (S₁.K.heap _ fun _ _ e => e)) (lv := .val (.int z)) hx ⟨_, rfl⟩ newOk_val fun c₃ S₃ b₃ h₃ _ => g.next c₃ _ S₃ ((Step.heap c₁ _ _).toStB.trans b₃) (by rw [h₃]; rfl)
  cases o with
  | add => cases e; exact iadd_int (fin _ rfl)
  | sub => cases e; exact isub_int (fin _ rfl)
  | _ => cases and_r h2
theorem SEs.wkL {es : MEs} (hs : SEs Y es) {B : Blk Y} {xs : List Expr} {loc : Loc} {c : Cf} {p : Pos} (h : oks Y.T B.sc es xs = true) (x : Ex B loc c) : Wk Y B.A B.l (spliced (backTo p (starEach (exs Y.T es xs) B.env))) (fun c v m => VRsc Y c v m ∧ m.length = (exs Y.T es xs).length) (evalEs Y.P B.cf es loc c.H) c :=
  fun Q E g => hs.args B xs loc c p h x Q E ⟨g.nb, fun c' v b k s e r => g.ok c' v b k s e ⟨r, (evalEs_len e).symm⟩, g.ex⟩
theorem two_k' {n : Nat} (h : n ≤ 1000) : n ≤ 2000 := Nat.le_trans h (by decide)
theorem ss_accNew (i : Nat) (es : MEs) : SS Y (.accNew i es) := fun X R st loc c h S Q E g => by
  have h2 := and_r h
  refine wpAny_Assign_Name (wp_of (arm_eval_List ..) (wpAny_bind (wpAny_standAt (wpAny_bind (seqE S ((soundEs es).wkL (and_l h2) S.ex) g fun c₁ vs ms S₁ s₁ r₁ g => ?_))))) rfl
  have hz : ms.length ≤ 1000 := r₁.2 ▸ of_decide_eq_true (and_r h2)
  refine wpAny_newList ?_ (line_k ((VRs.length r₁.1).symm ▸ hz : vs.length ≤ 1000))
  have hf := S₁.K.free (Nat.le_refl c₁.s.heap.objs.size)
  exact store_acc S₁ ((Step.refl c₁).setM (x := some (.ex (listOf vs.toArray 0))) (h := c₁.s.heap.push (listOf vs.toArray 0)) (tk := c₁.s.toks) hf.2) (S₁.K.setM _ (un_free hf) (fun _ _ _ e => Heap.get?_push_of_some _ e) fun _ hy => Option.some.inj hy ▸ at_ex (Heap.get?_push_size _ rfl)) (own_of (and_l h)) hf.2 (Cf.setM_m ..) r₁.1 (two_k' hz) fun c' S' b' h' => g.next c' _ S' b' (by rw [h']; rfl)
theorem ss_accCopy (i : Nat) (me : ME) : SS Y (.accCopy i me) := fun X R st loc c h S Q E g => by
  refine wpAny_Assign_Name (wp_of (eval_Sub ..) (wpAny_bind (seqE S (soundE me X.toBlk _ loc c (and_r h) S.ex) g fun c₁ o m S₁ s₁ r₁ g => wpAny_bind (wpAny_holding (slice_0 (slice_end ?_)))))) rfl
  obtain ⟨xs, q, g⟩ := g.opt
  obtain ⟨ys, q1, q2⟩ := of_bind q
  cases MV.list_of q1
  obtain ⟨p, rfl⟩ := of_guard q2
  have hz := of_decide_eq_true p
  refine wp_slice (r := .list ys) S₁.K r₁ part_lo part_hi (congrArg (fun z => some (MV.list z)) (by unfold cut; rw [List.take_length]; rfl)) fun {h' a xs' vs} e hv hl hs he ha => ?_
  cases e
  have hf := S₁.K.free hs
  exact store_acc S₁ ((Step.refl c₁).setM (x := some (.ex (listOf vs.toArray 0))) (h := h') (tk := c₁.s.toks) hf.2) (S₁.K.setM _ (un_free hf) (fun b o _ e => he b o e) fun _ hy => Option.some.inj hy ▸ at_ex ha) (own_of (and_l h)) hf.2 (Cf.setM_m ..) hv (two_k' hz) fun c' S' b' h' => g.next c' _ S' b' (by rw [h']; rfl)
theorem ss_accApp (i : Nat) (me : ME) : SS Y (.accApp i me) := fun X R st loc c h S Q E g => by
  have h2 := and_r h
  have h3 := and_r h2
  have hns := and_r h3
  have hx := own_of (and_l h)
  obtain ⟨xs, q, g⟩ := GoS.opt (o := (lget loc i).acc?) g
  have q := LV.acc_of q
  refine wpAny_Expr_any ?_ (by unfold interactive; rw [X.V.kind]; rfl) rfl
  refine wp_of (arm_eval_Call ..) ?_
  obtain ⟨a, vs, m, hs, hm, hv, hz⟩ := S.acc_at hx q
  refine wpAny_bind (wpAny_Name (wp_var X.V S.K hs (wpAny_bind (wpAny_standAt ?_))) (slot_dbg (own_slot hx)))
  have hform : methodCallForm ([ex Y.T me (hd1 (parts (partsS st).a).xs)].length + ([] : List Keyword).length) (backTo (parts (partsS st).a).p (starEach [ex Y.T me (hd1 (parts (partsS st).a).xs)] X.env)) (backToKw (parts (partsS st).a).p (keywordEach [] X.env)) = true := by
    rw [backTo_cons hns]; rfl
  unfold methodCall
  rw [hform]
  refine wpAny_bind (wpAny_holding (getMethod_list_append (ex_at (S.K.inv.m _ _ hm)) rfl rfl ?_))
  have hp : methodCallPos true (asName (parts (partsS st).a).a) X.env (parts (partsS st).a).q (parts (partsS st).a).p = pure (parts (partsS st).a).p := by unfold methodCallPos; rw [and_l h2]; rfl
  show wpAny _ X.A (methodCallPos true (asName (parts (partsS st).a).a) X.env (parts (partsS st).a).q (parts (partsS st).a).p >>= fun cp => callWith cp (.builtin "list.append") [.ref a] (backTo (parts (partsS st).a).p (starEach [ex Y.T me (hd1 (parts (partsS st).a).xs)] X.env)) (backToKw (parts (partsS st).a).p (keywordEach [] X.env))) _ _ _
  rw [hp]
  refine wpAny_bind (wpAny_pure (wp_callWith (PH := fun _ => True) (NoStars.cons hns NoStars.nil) (fun h _ => ⟨.machine, .inr (.inl rfl), Looks.of_pure rfl⟩) ?_))
  rw [backTo_cons hns]
  refine spliced_cons (seqE S (soundE me X.toBlk _ loc c (and_l h3) S.ex) g fun c₁ u mv S₁ s₁ r₁ g => spliced_nil ⟨trivial, ?_⟩)
  obtain ⟨ys, p, g⟩ := g.opt
  obtain ⟨p₂, rfl⟩ := of_guard p
  have hl : xs.length < 1000 := of_decide_eq_true p₂
  have hm1 := s₁.keep rfl hm
  have hv1 := VRs.mono s₁.z s₁.p _ hv
  refine wpAny_list_append_plain ⟨m, ex_at (S₁.K.inv.m _ _ hm1)⟩ (fun h' ⟨n', hp'⟩ hsb => ?_) (line_k (hv.length.symm ▸ Nat.le_of_lt hl : vs.length ≤ 1000))
  have k2 := S₁.K.setM (x := some (.ex (listOf (vs ++ [u]).toArray n'))) c₁.s.toks (S₁.K.un hm1 rfl) (fun b o n e => (hsb.2 b n).trans e) fun y hy => Option.some.inj hy ▸ at_ex (hp'.trans (by rw [List.push_toArray]))
  exact g.next _ _ (S₁.changed (c' := c₁.setM a (some (.ex (listOf (vs ++ [u]).toArray n'))) h' c₁.s.toks) (lv := .acc (xs ++ [mv])) hx q (hs.step s₁) hm1 k2 ⟨ZLe.refl, PLe.refl, rfl⟩ (fun b hb => Cf.setM_ne hb) (fun m e => nomatch (Cf.setM_m ..).symm.trans e) (fun v e => nomatch (Cf.setM_m ..).symm.trans e)
    ⟨a, vs ++ [u], n', rfl, Cf.setM_m .., hv1.append ⟨u, [], rfl, r₁, rfl⟩, by rw [List.length_append]; exact Nat.le_trans (Nat.add_le_add_right (Nat.le_of_lt hl) 1) (by decide)⟩) ⟨ZLe.refl, PLe.refl, rfl⟩ rfl
end
end Mini
end
noncomputable section
namespace Mini
open PySem PySem.W PySem.Calls PyProof.Rows
noncomputable def vput (f : Nat) (v : Value) : List Nat → List Value → List Value
  | c :: cs, x :: vs => if c = f then v :: vs else x :: vput f v cs vs
  | _, _ => [v]
theorem fput_mem {f : Nat} {m : MV} : ∀ {fs : Flds} {p : Nat × MV}, p ∈ fput f m fs → p.1 = f ∨ p ∈ fs
  | [], _, h => .inl (congrArg (·.1) (List.mem_singleton.mp h))
  | (g, u) :: r, p, h => by
    unfold fput at h
    by_cases q : g = f
    · rw [if_pos q] at h
      exact (List.mem_cons.mp h).elim (fun e => .inl (e ▸ q)) fun h => .inr (.tail _ h)
    · rw [if_neg q] at h
      exact (List.mem_cons.mp h).elim (fun e => .inr (e ▸ .head _)) fun h => (fput_mem h).imp id (.tail _)
theorem fput_len {f : Nat} {m : MV} : ∀ fs : Flds, (fput f m fs).length ≤ fs.length + 1
  | [] => Nat.le_refl _
  | (g, u) :: r => by
    unfold fput
    by_cases q : g = f
    · rw [if_pos q]; exact Nat.le_succ _
    · rw [if_neg q]; exact Nat.succ_le_succ (fput_len r)
section
variable {Y : Sys}
theorem vput_vrs {Z : ZM} {φ : PH} {f : Nat} {v : Value} {m : MV} (h : VR Y Z φ m v) : ∀ {fs : Flds} {vs : List Value}, VRs Y Z φ (fs.map (·.2)) vs → VRs Y Z φ ((fput f m fs).map (·.2)) (vput f v (fs.map (·.1)) vs)
  | [], _, e => e ▸ ⟨v, [], rfl, h, rfl⟩
  | (g, u) :: r, _, ⟨w, r', e, a, t⟩ => by
    subst e
    unfold fput
    rw [List.map_cons]
    show VRs Y Z φ _ (if g = f then v :: r' else w :: vput f v _ r')
    by_cases q : g = f
    · rw [if_pos q, if_pos q]; exact ⟨v, r', rfl, h, t⟩
    · rw [if_neg q, if_neg q]; exact ⟨w, _, rfl, a, vput_vrs h t⟩
theorem vput_ents {T : Tie} (hn : T.names.Nodup) {f : Nat} (hf : f < T.names.length) {v : Value} {m : MV} {t : Tok} : ∀ {fs : Flds} {vs : List Value} {es : List DictEntry}, Ents T.hs (fs.map fun p => nameOf T p.1) vs es → (∀ p ∈ fs, p.1 < T.names.length) →
    Ents T.hs ((fput f m fs).map fun p => nameOf T p.1) (vput f v (fs.map (·.1)) vs) (putL (nameOf T f) (T.hs (nameOf T f)) (.str (nameOf T f) t) v es)
  | [], _, _, .nil, _ => .cons t .nil
  | (g, u) :: r, _, _, .cons tk x, hv => by
    have ih := vput_ents hn hf (m := m) (v := v) (t := t) x fun p hp => hv p (.tail _ hp)
    unfold fput
    rw [List.map_cons]
    by_cases q : g = f
    · subst q
      rw [if_pos rfl]
      unfold vput putL
      rw [if_pos rfl, show (Value.str (nameOf T g) tk).isStr (nameOf T g) = true from beq_self_eq_true _]
      exact .cons tk x
    · have hne : (nameOf T g == nameOf T f) = false := beq_eq_false_iff_ne.mpr fun e => q (nameOf_inj hn (hv _ (.head _)) hf e)
      rw [if_neg q]
      unfold vput putL
      rw [if_neg q, show (Value.str (nameOf T g) tk).isStr (nameOf T f) = false from hne]
      exact .cons tk ih
theorem full_apart {as : List Addr} {h : Heap} : (full as h).Pairwise fun p q => p.1 ≠ q.1 := by
  unfold full
  refine List.Pairwise.filterMap _ (fun a a' ha p hp q hq => ?_) (List.nodup_range)
  have fst : ∀ {a : Addr} {p : Addr × Obj}, (if a ∈ as then none else (h.get? a).map fun o => (a, o)) = some p → p.1 = a := fun {a p} hp => by
    by_cases m : a ∈ as
    · rw [if_pos m] at hp; cases hp
    · rw [if_neg m] at hp
      obtain ⟨_, _, rfl⟩ := Option.map_eq_some_iff.mp hp; rfl
  rw [fst hp, fst hq]; exact ha
theorem full_split {as : List Addr} {h : Heap} {a : Addr} {o : Obj} (n : a ∉ as) (e : h.get? a = some o) :
    ∃ pre post, full as h = pre ++ (a, o) :: post ∧ (∀ p ∈ pre, p.1 ≠ a) ∧ ∀ p ∈ post, p.1 ≠ a := by
  obtain ⟨pre, post, q⟩ := List.append_of_mem (mem_full n e)
  have hp := full_apart (as := as) (h := h)
  rw [q, List.pairwise_append] at hp
  exact ⟨pre, post, q, fun p hm => hp.2.2 p hm (a, o) (.head _), fun p hm => Ne.symm ((List.pairwise_cons.mp hp.2.1).1 p hm)⟩
variable {A : Around} {c : Cf}
theorem Inv.of_put {Z : ZM} {Mu : MU} {h h' : Heap} {L dx : Addr} {m : Str → Option Value} {pre post : List (Addr × Obj)} {od od' : Obj} {x x' : MC} (I : Inv Z Mu h) (hL : Mu L = some (.fr m)) (hd : Mu dx = some x) (hx : x'.is od')
    (e : full [L] h = pre ++ (dx, od) :: post) (F : h'.Ns L m) (N : News noHeap L h' (pre ++ (dx, od') :: post)) : Inv Z (upd Mu dx (some x')) h' := by
  have g : ∀ a o, a ≠ L → a ≠ dx → h.get? a = some o → h'.get? a = some o := fun a o n n2 q => by
    have hm := mem_full (as := [L]) (fun q => n (List.mem_singleton.mp q)) q
    rw [e] at hm
    refine (N (a, o) ((List.mem_append.mp hm).elim (List.mem_append_left _) fun hm => (List.mem_cons.mp hm).elim (fun hm => ?_) fun hm => List.mem_append_right _ (.tail _ hm))).1
    cases hm; exact absurd rfl n2
  refine ⟨fun a o q => g a o (ne_none (I.d L _ hL) q) (ne_none (I.d dx _ hd) q) (I.z a o q), fun a y q => ?_, fun a y q => (upd_cases q).elim (fun q => q.1 ▸ I.d dx _ hd) fun q => I.d a y q.2⟩
  rcases upd_cases q with ⟨rfl, q₂⟩ | ⟨h1, q₂⟩
  · cases q₂; exact ⟨od', (N _ (List.mem_append_right _ (.head _))).1, hx⟩
  · by_cases h2 : a = L
    · subst h2; cases hL.symm.trans q₂; exact at_fr F
    · exact MC.at_to (fun o => g a o h2 h1) (I.m a y q₂)
theorem wp_put (k : c.Ok Y) {L : Addr} {m : Str → Option Value} (hL : c.Mu L = some (.fr m)) {cl : MCls} {C x dx : Addr} (CO : ClsOk Y.T cl C) {f : Nat} (hf : f ∈ cl.flds) (hx : c.Z x = some (instObj C dx))
    {y : MC} {es : List DictEntry} {n : Nat} (hd : c.Mu dx = some y) (gd : c.s.heap.get? dx = some (dictOf es n)) (hyL : ∀ m, y ≠ .fr m) {fs : Flds} {vs : List Value} (hE : Ents Y.T.hs (fs.map fun p => nameOf Y.T p.1) vs es) (hv : ∀ p ∈ fs, p.1 < Y.T.names.length) (hz : fs.length < 100) {v : Value} {mv : MV}
    {E : Value → Shared → Prop} {Q : Unit → Shared → Prop}
    (h : ∀ h' es' n' tk, (∀ y' : MC, y'.is (dictOf es' n') → Inv c.Z (upd c.Mu dx (some y')) h') → Ents Y.T.hs ((fput f mv fs).map fun p => nameOf Y.T p.1) (vput f v (fs.map (·.1)) vs) es' → Q () { c.s with heap := h', toks := tk }) :
    wpAny Y.M A (setAttr (.ref x) (nameOf Y.T f) v) Q E c.s := by
  have hne : dx ≠ L := fun q => hyL m (Option.some.inj (hd.symm.trans (q ▸ hL)))
  obtain ⟨hlt, ⟨a, e1, e2⟩, ht⟩ := CO.flds f hf
  have I : W.InstAt c.s.heap x (instObj C dx) C (some (dictOf es n)) := ⟨k.inv.z _ _ hx, rfl, rfl, gd⟩
  refine set_plain k.kin I CO.setattr ?_
  obtain ⟨pre, post, q, h1, h2⟩ := full_split (as := [L]) (fun q => hne (List.mem_singleton.mp q)) gd
  have N := k.news L
  rw [q] at N
  have hl : (lookIn (nameOf Y.T f) (dictOf es n)).isSome = true := by
    rw [lookIn_dict]
    unfold getL
    rw [ents_ref hE]
    split <;> rfl
  have hd' : (clsIn Y.T.K C).any (·.hasDict) = true := CO.dict
  refine osa_dict (s := { c.s with toks := c.s.toks + 1 }) (k.fr hL) N k.kin I rfl CO.over ht hd' hl h1 h2 (putName_dict ..) rfl ?_ fun h' F' N' => ?_
  · have e3 := (vput_ents Y.X.names hlt (v := v) (m := .none) (t := c.s.toks + 1) hE hv).length.1
    rw [← Y.hs, e3, List.length_map]
    exact Nat.le_trans (fput_len fs) (Nat.le_trans hz (by decide))
  · refine h h' _ _ (c.s.toks + 1 + 1) (fun y' hy' => Inv.of_put k.inv hL hd hy' q F'.ns N') ?_
    rw [← Y.hs]
    exact vput_ents Y.X.names hlt hE hv
noncomputable def Cf.setD (c : Cf) (dx : Addr) (o : Obj) (a : Nat) (ob : MObj) (h : Heap) (tk : Nat) : Cf := { c with Mu := upd c.Mu dx (some (.st o)), H := c.H.set a ob, s := { c.s with heap := h, toks := tk } }
theorem Cf.Ok.setD {dx : Addr} {es : List DictEntry} {n a tk : Nat} {h' : Heap} {ob : MObj} {x : Addr} {vs : List Value} {k : MCls} {C : Addr} (ok : c.Ok Y) (hp : c.φ[a]? = some (x, dx)) (I : Inv c.Z (upd c.Mu dx (some (.st (dictOf es n)))) h')
    (ho : ObjAt Y c.Z c.φ (upd c.Mu dx (some (.st (dictOf es n)))) ob x dx es n vs k C) : (c.setD dx (dictOf es n) a ob h' tk).Ok Y := by
  refine ⟨I, ⟨ok.hr.len.trans (List.length_set ..).symm, fun i o e => ?_, ok.hr.nd⟩, ok.base⟩
  have e' : (c.H.set a ob)[i]? = some o := e
  by_cases hi : a = i
  · subst hi
    rw [List.getElem?_set_self (ok.hr.len ▸ (List.getElem?_eq_some_iff.mp hp).1)] at e'
    cases e'
    exact ⟨x, dx, es, n, vs, k, C, hp, ho⟩
  · rw [List.getElem?_set_ne hi] at e'
    obtain ⟨x', dx', es1, n1, vs1, k1, C1, q1, O⟩ := ok.hr.obj i o e'
    refine ⟨x', dx', es1, n1, vs1, k1, C1, q1, O.mono ZLe.refl PLe.refl ((upd_ne fun z => hi ?_).trans O.mu)⟩
    have h1 : (c.φ.map (·.2))[i]? = some dx' := by rw [List.getElem?_map, q1]; rfl
    have h2 : (c.φ.map (·.2))[a]? = some dx := by rw [List.getElem?_map, hp]; rfl
    exact ((List.getElem?_inj (List.getElem?_eq_some_iff.mp h1).1 ok.hr.nd).mp (h1.trans ((congrArg some z).trans h2.symm))).symm
theorem Step.setD {dx : Addr} {o o' : Obj} {a tk : Nat} {h' : Heap} {ob : MObj} (hd : c.Mu dx = some (.st o)) : Step c (c.setD dx o' a ob h' tk) :=
  ⟨⟨ZLe.refl, PLe.refl, rfl⟩, fun b x e => if z : b = dx then ⟨_, (by subst z; exact upd_self ..), fun n => by subst z; rw [hd] at e; cases e; cases n⟩ else ⟨x, (upd_ne z).trans e, fun _ => rfl⟩⟩
theorem ss_setAttr (me : ME) (f : Nat) (mv : ME) : SS Y (.setAttr me f mv) := fun X R st loc c h S Q E g => by
  have h2 := and_r h
  refine wp_of (plainObj_exec_Assign_Attribute _ _ _ _ _ (noComp_plain (and_r h2) _ _ _)) (wpAny_bind (wpAny_standAt (wpAny_bind (seqE S (soundE mv X.toBlk _ loc c (and_l h) S.ex) g fun c₁ u m S₁ s₁ r₁ g => ?_))))
  refine wpAny_bind (wp_of (assign_Attribute ..) (wpAny_bind (wpAny_holding (seqE S₁ (soundE me X.toBlk _ loc c₁ (and_l h2) S₁.ex) g fun c₂ u' m' S₂ s₂ r₂ g => wpAny_bind (wpAny_standAt (wpAny_bind (wpAny_holding ?_)))))))
  obtain ⟨H', e, g₂⟩ := g.opt
  obtain ⟨a, q, e₁⟩ := of_bind e
  cases MV.obj_of q
  obtain ⟨ob, ho, e₂⟩ := of_bind e₁
  obtain ⟨p, rfl⟩ := of_guard e₂
  have hz : ob.fs.length < 100 := of_decide_eq_true (and_r p)
  obtain ⟨k, hk, hso⟩ := any_some (and_l p)
  have hr := not_t (and_l hso)
  have hfm : f ∈ k.flds := List.contains_iff_mem.mp (and_r hso)
  obtain ⟨x, dx, rfl, hp⟩ := r₂
  obtain ⟨x', dx', es, n, vs, k', C, hp', O⟩ := S₂.K.hr.obj a ob ho
  cases hp.symm.trans hp'
  cases hk.symm.trans O.cls
  have CO := cls_at hk O.adr
  obtain ⟨L, fm, hL⟩ := S₂.ex.top
  refine wp_put S₂.K hL CO hfm O.inst O.mu (st_at (S₂.K.inv.m _ _ O.mu)) (fun _ h => nomatch h) O.en (fun p hp => (CO.flds _ (O.flds p hp)).1) hz (mv := m) fun h' es' n' tk I hE => ?_
  have hob : ObjAt Y c₂.Z c₂.φ (upd c₂.Mu dx (some (.st (dictOf es' n')))) ⟨ob.c, fput f m ob.fs⟩ x dx es' n' _ k C :=
    ⟨upd_self .., hE, vput_vrs (r₁.step s₂.toStB) O.vr, hk, hr, O.adr, O.inst, fun p hp => (fput_mem hp).elim (fun e => e ▸ hfm) (O.flds p)⟩
  have k3 := S₂.K.setD (tk := tk) hp (I (.st _) rfl) hob
  have s3 : Step c₂ (c₂.setD dx (dictOf es' n') a ⟨ob.c, fput f m ob.fs⟩ h' tk) := Step.setD O.mu
  exact wpAny_release (wpAny_pure (g₂.next _ loc (S₂.step s3 k3) s3.toStB rfl))
end
end Mini
end
noncomputable section
namespace Mini
open PySem PySem.W PySem.Calls PyProof.Rows
section
variable {Y : Sys}
theorem setAll_len : ∀ {is : List Nat} {vs : List MV} {l l' : Loc}, setAll is vs l = some l' → is.length = vs.length
  | [], [], _, _, _ => rfl
  | [], _ :: _, _, _, h => nomatch h
  | _ :: _, [], _, _, h => nomatch h
  | _ :: is, _ :: vs, _, _, h => congrArg (· + 1) (setAll_len (is := is) (vs := vs) h)
theorem targets_each (env : Env) : ∀ (ts : List Expr), assignEach (ts.map asName) env = ts.map fun t => (false, assign (asName t) env)
  | [] => rfl
  | t :: ts => congrArg (List.cons (false, assign (asName t) env)) (targets_each env ts)
theorem targets_len {sc : SC} : ∀ {is : List Nat} {ts : List Expr}, targetsOk sc is ts = true → ts.length = is.length
  | [], ts, h => by rw [List.isEmpty_iff.mp h]; rfl
  | _ :: _, [], h => nomatch h
  | _ :: _, _ :: _, h => congrArg (· + 1) (targets_len (and_r (and_r h)))
theorem unpack_go {X : Fn Y} {R : MU} {E : Value → Shared → Prop} {Q : Unit → Shared → Prop} {loc' : Loc} : ∀ (ts : List Expr) (is : List Nat) (xs : List MV) (vs : List Value) (loc : Loc) (c : Cf), targetsOk X.sc is ts = true → StS X R loc c → VRs Y c.Z c.φ xs vs → setAll is xs loc = some loc' →
    (∀ c', StS X R loc' c' → StB c c' → c'.H = c.H → Q () c'.s) → wpAny Y.M X.A (assignInOrder (ts.map fun t => assign (asName t) X.env) vs) Q E c.s
  | [], [], [], _, _, c, _, S, hv, e, hQ => by cases hv; cases e; exact wpAny_pure (hQ c S (StB.refl c) rfl)
  | [], [], _ :: _, _, _, _, _, _, _, e, _ => nomatch e
  | [], _ :: _, _, _, _, _, h, _, _, _, _ => nomatch h
  | _ :: _, [], _, _, _, _, h, _, _, _, _ => nomatch h
  | _ :: _, _ :: _, [], _, _, _, _, _, _, e, _ => nomatch e
  | t :: ts, i :: is, x :: xs, _, _, c, h, S, ⟨v, vs, hv, h1, h2⟩, e, hQ => by
    subst hv
    exact wpAny_assignInOrder_more (wpAny_assign_Name (wp_store S (lv := .val x) (beq_iff_eq.mp (and_l (and_r h))) h1 newOk_val fun c₂ S₂ b₂ h₂ _ =>
      unpack_go ts is xs vs _ c₂ (and_r (and_r h)) S₂ (VRs.mono b₂.z b₂.p _ h2) e fun c' S' b' h' => hQ c' S' (b₂.trans b') (h'.trans h₂)))
theorem ss_unpack (is : List Nat) (me : ME) : SS Y (.unpack is me) := fun X R st loc c h S Q E g => by
  have h2 := and_r h
  have h3 := and_r h2
  have hk : isCallE (ex Y.T me (partsS st).b) = true ∨ isSubE (ex Y.T me (partsS st).b) = true := or_of (and_l h3)
  have hs : swapsWithSole [.Tuple ((parts (partsS st).a).xs.map asName) (parts (partsS st).a).n (parts (partsS st).a).p] (ex Y.T me (partsS st).b) (partsS st).p.line X.env = pure false ∧ swappedStores [.Tuple ((parts (partsS st).a).xs.map asName) (parts (partsS st).a).n (parts (partsS st).a).p] (ex Y.T me (partsS st).b) X.env = pure none := by
    revert hk
    generalize ex Y.T me (partsS st).b = v
    cases v <;> first | exact fun _ => ⟨rfl, rfl⟩ | exact fun h => h.elim (fun h => nomatch h) fun h => nomatch h
  refine Assign_Tuple (seqE S (soundE me X.toBlk _ loc c (and_l h2) S.ex) g fun c₁ u m S₁ s₁ r₁ g => ?_) hs.1 hs.2
  obtain ⟨loc', e, g₂⟩ := g.opt
  obtain ⟨xs, q, e₁⟩ := of_bind e
  cases MV.tup_of q
  obtain ⟨a, vs, rfl, hz, hvs, hn⟩ := r₁
  have ht := and_l h
  refine wpAny_assign_Tuple X.at_.h (S₁.K.isTup hz) (by rw [targets_each, List.length_map, targets_len ht, setAll_len e₁]; exact hvs.length.symm) (by rw [targets_each, List.findIdx?_map, List.findIdx?_eq_none_iff]; exact fun _ _ => rfl) fun h' hx => ?_
  have k2 := S₁.K.heap (h := h') c₁.s.toks fun b o e => hx b o (Nat.ne_of_lt (Heap.lt_size e)) e
  rw [targets_each, List.map_map]
  exact unpack_go _ is xs vs loc (c₁.heap h' c₁.s.toks) ht (S₁.step (Step.heap ..) k2) hvs e₁ fun c₂ S₂ b₂ h₂ => g₂.next c₂ loc' S₂ ((Step.heap c₁ h' _).toStB.trans b₂) (by rw [h₂]; rfl)
theorem log_lim {i : Int} (h : i.natAbs < intLim) : i.natAbs.log2 < 1920 := by
  by_cases h0 : i.natAbs = 0
  · rw [h0]; decide
  · have := (Nat.log2_lt h0 (k := 96)).mpr (by have : intLim = 2 ^ 96 := by decide
                                               omega)
    omega
theorem joins {B : Blk Y} {loc : Loc} {E : Value → Shared → Prop} {Q : Str → Shared → Prop} {H' : MH} : ∀ (vs : List Expr) (es : MEs) (acc : Str) (c : Cf) {rest : List MV}, okF Y.T B.sc vs es = true → Ex B loc c →
    evalEs Y.P B.cf es loc c.H = .ok rest H' → allInts rest = true → acc.length + 2000 * vs.length ≤ 2000000 → (∀ out c', out.length ≤ 2000000 → c'.Ok Y → Step c c' → c'.H = H' → Q out c'.s) →
    Joins Y.M B.A E (evalEach (exF Y.T vs es) B.env) acc Q c.s
  | [], .nil, acc, c, _, _, x, e, _, ha, q => by cases e; exact q acc c (Nat.le_trans (Nat.le_add_right _ _) ha) x.K (Step.refl c) rfl
  | [], .cons _ _, _, _, _, h, _, _, _, _, _ => nomatch h
  | v :: vs, es, acc, c, rest, h, x, e, hI, ha, q => by
    have ha : acc.length + 2000 * vs.length + 2000 ≤ 2000000 := ha
    unfold okF at h
    unfold exF
    by_cases hs : isStrC v = true
    · rw [if_pos hs] at h ⊢
      have hu : (parts v).s.length ≤ 1000 := of_decide_eq_true (and_l h)
      have hlen : (acc ++ (parts v).s).length = acc.length + (parts v).s.length := Str.length_append ..
      exact Constant_str ⟨_, _, rfl, line_ok (by omega), joins vs es (acc ++ (parts v).s) (c.heap c.s.heap (c.s.toks + 1)) (and_r h) (x.step (Step.heap c _ _) (x.K.heap _ fun _ _ e => e)) e hI (by omega) fun out c' h1 k s h2 => q out c' h1 k ((Step.heap c _ _).trans s) h2⟩
    · rw [if_neg hs] at h ⊢
      cases es with
      | nil => cases h
      | cons e' r =>
        have e0 : ((evalE Y.P B.cf e' loc c.H).bind fun v H => (evalEs Y.P B.cf r loc H).bind fun vs H => RS.ok (v :: vs) H) = .ok rest H' := e
        refine wpAny_FormattedValue_plain (soundE e' B _ loc c (and_l h) x _ _ ⟨fun z => (by rw [z] at e0; cases e0), fun c₁ v b k₁ s₁ e₁ r₁ => ?_, fun c₁ k e2 a C B' a0 _ _ e₁ _ => (by rw [e₁] at e0; cases e0)⟩)
        rw [e₁] at e0
        have e0 : ((evalEs Y.P B.cf r loc c₁.H).bind fun vs H => RS.ok (b :: vs) H) = .ok rest H' := e0
        cases e2 : evalEs Y.P B.cf r loc c₁.H with
        | bad => rw [e2] at e0; cases e0
        | ex _ _ => rw [e2] at e0; cases e0
        | ok ms Hm =>
          rw [e2] at e0
          cases e0
          obtain ⟨i, hi, hj⟩ := any_some (and_l hI)
          cases MV.int_of hi
          obtain ⟨t, rfl⟩ := r₁
          have hd := log_lim (of_decide_eq_true hj)
          have hlen : (acc ++ Str.ofString (toString i)).length = acc.length + (Str.ofString (toString i)).length := Str.length_append ..
          have hl := int_text_len_1921 hd
          exact wpAny_formatField_int hd ⟨_, _, rfl, line_ok (by omega), joins vs r (acc ++ Str.ofString (toString i)) (c₁.heap c₁.s.heap (c₁.s.toks + 1 + 1)) (and_r h) (x.step (s₁.trans (Step.heap c₁ _ _)) (k₁.heap _ fun _ _ e => e)) e2 (and_r hI) (by omega) fun out c' h1 k s h2 => q out c' h1 k (s₁.trans ((Step.heap c₁ _ _).trans s)) h2⟩
theorem joins_len (vs : List Expr) : ∀ (es : MEs) {sc : SC}, okF Y.T sc vs es = true → (exF Y.T vs es).length = vs.length := by
  induction vs with
  | nil => exact fun _ _ _ => rfl
  | cons v vs ih =>
    intro es sc h
    unfold okF at h
    unfold exF
    by_cases hs : isStrC v = true
    · rw [if_pos hs] at h ⊢; exact congrArg (· + 1) (ih es (and_r h))
    · rw [if_neg hs] at h ⊢
      cases es with
      | nil => cases h
      | cons e r => exact congrArg (· + 1) (ih r (and_r h))
theorem two_of {α : Type} {l : List α} (h : 2 ≤ l.length) : ∃ a b r, l = a :: b :: r := match l, h with
  | [], h => absurd h (by decide : ¬ 2 ≤ 0)
  | [_], h => absurd h (by decide : ¬ 2 ≤ 1)
  | a :: b :: r, _ => ⟨a, b, r, rfl⟩
theorem ss_raise (k : Nat) (es : MEs) : SS Y (.raise k es) := fun X R st loc c h S Q E g => by
  have h2 := and_r h
  have h3 := and_r h2
  have g : GoS X R (raiseM k (evalEs Y.P X.cf es loc c.H) loc) c Q E := g
  unfold raiseM at g
  cases ee : evalEs Y.P X.cf es loc c.H with
  | bad => rw [ee] at g; exact absurd rfl g.nb
  | ex _ _ => rw [ee] at g; exact absurd rfl g.nb
  | ok xs H' =>
  rw [ee] at g
  have hI : allInts xs = true := by
    cases hh : allInts xs with
    | true => rfl
    | false => simp only [hh] at g; exact absurd rfl g.nb
  simp only [hI, if_true] at g
  obtain ⟨C, hC, _⟩ := Y.X.exc _ k (gOk_of (and_l h)).2.1
  obtain ⟨nm, qn, N, bs, bm, hdct, sn, sub, ab, col, dd, k0, k1, k2, k3, k5, newId, B, initId, bmB, mN, F⟩ := Y.EX k C hC
  refine wpAny_Raise_call_subT (C := C) (nm := nm) (q := qn) (N := N) (bs := bs) (hdct := hdct) (sn := sn) (sub := sub) (ab := ab) (col := col) (dd := dd) (k0 := k0) (k1 := k1) (k2 := k2) (k3 := k3) (k5 := k5) F.base F.isExc X.at_.h rfl F.init (glob_exc X.V S.K (and_l h) fun C' e => ?_)
  cases hC.symm.trans e
  refine ⟨rfl, ?_⟩
  have hl := joins_len _ es (and_l h2)
  obtain ⟨v1, v2, rest, hv⟩ := two_of (hl ▸ of_decide_eq_true (and_l h3) : 2 ≤ (exF Y.T (parts (hd1 (parts (partsS st).a).xs)).xs es).length)
  refine evalArgs_plain (spliced_cons ?_)
  rw [hv]
  refine wpAny_JoinedStr (pos := (parts (hd1 (parts (partsS st).a).xs)).p) ?_
  rw [← hv]
  have h20 : (parts (hd1 (parts (partsS st).a).xs)).xs.length ≤ 20 := of_decide_eq_true (and_r h3)
  refine joins (B := X.toBlk) _ es Str.empty c (and_l h2) S.ex ee hI (Nat.le_trans (Nat.add_le_add_left (Nat.mul_le_mul_left 2000 h20) _) (by decide)) fun out c₁ h1 k₁ s₁ e₁ => ⟨line_ok (Nat.le_trans h1 (by decide)), spliced_nil ⟨rfl, line_ok (by decide : 1 ≤ 10000000), k₁.stays _ _ F.at_, F.ns.keeps k₁.stays, F.tail.keeps k₁.stays, fun h' e hx => g.exm k loc H' (.ref e) _ rfl ?_⟩⟩
  exact e₁ ▸ leaves_made (c := c₁.heap c₁.s.heap (c₁.s.toks + 1)) ((S.step s₁ k₁).step (Step.heap c₁ _ _) (k₁.heap _ fun _ _ e => e)) hC hx
end
end Mini
end
noncomputable section
namespace Mini
open PySem PySem.W PySem.Calls PyProof.Rows
section
variable {M : Model} {A : Around} {E : Value → Shared → Prop}
variable {nm q nm' q' : Str} {C N C' N' : Addr} {bs bm bs' bm' : List Value} {hdct hdct' : Bool} {sn sn' : List Str} {sub sub' : List Value} {ab ab' : Bool} {col col' : Option Bool} {dd dd' : Option Addr} {k0 k1 k2 k3 k5 l0 l1 l2 l3 l5 : Option Value} {newId newId' : String}
theorem exc_one {h : Heap} {g : Array GenState} {d : Drawn} {t : Nat} {os : OsState} {e : Addr} {oe : Obj} {Q : Bool → Shared → Prop}
    (hC : h.get? C = some (excClassObj nm q C N bs bm hdct sn sub ab col dd k0 k1 k2 k3 k5 newId)) (hC' : h.get? C' = some (excClassObj nm' q' C' N' bs' bm' hdct' sn' sub' ab' col' dd' l0 l1 l2 l3 l5 newId')) (he : h.get? e = some oe) (hcls : oe.cls = .ref C) (hbase : bm'.contains (.type "BaseException") = true)
    {b : Bool} (hb : (Value.ref C :: bm).contains (.ref C') = b) (hq : Q b ⟨h, g, d, t, os⟩) : wpAny M A (excMatches (.ref e) (.ref C')) Q E ⟨h, g, d, t, os⟩ := by
  have hcB : (Value.ref C' :: bm').contains (.type "BaseException") = true := by rw [List.contains_cons, hbase, Bool.or_true]
  have f := tc_notTuple
  unfold excMatches
  repeat (first | (with_reducible refine wpAny_loadPart_at he ?_; rw [hcls]) | with_reducible refine wpAny_loadPart_at hC' ?_ | (with_reducible refine wpAny_isSubtype_exc hC' ?_; rw [hcB]) | (with_reducible refine wpAny_isSubtype_exc hC ?_; rw [hb]) | wp_step)
  all_goals (cases b <;> (wp_walk; exact hq))
theorem exc_two {nm2 q2 : Str} {C2 N2 : Addr} {bs2 bm2 : List Value} {hdct2 : Bool} {sn2 : List Str} {sub2 : List Value} {ab2 : Bool} {col2 : Option Bool} {dd2 : Option Addr} {m0 m1 m2 m3 m5 : Option Value} {newId2 : String}
    {h : Heap} {g : Array GenState} {d : Drawn} {t : Nat} {os : OsState} {e tup : Addr} {oe : Obj} {Q : Bool → Shared → Prop} (ht : h.IsTuple tup #[.ref C', .ref C2])
    (hC : h.get? C = some (excClassObj nm q C N bs bm hdct sn sub ab col dd k0 k1 k2 k3 k5 newId)) (hC' : h.get? C' = some (excClassObj nm' q' C' N' bs' bm' hdct' sn' sub' ab' col' dd' l0 l1 l2 l3 l5 newId'))
    (hC2 : h.get? C2 = some (excClassObj nm2 q2 C2 N2 bs2 bm2 hdct2 sn2 sub2 ab2 col2 dd2 m0 m1 m2 m3 m5 newId2)) (he : h.get? e = some oe) (hcls : oe.cls = .ref C) (hbase : bm'.contains (.type "BaseException") = true) (hbase2 : bm2.contains (.type "BaseException") = true)
    {b b2 : Bool} (hb : (Value.ref C :: bm).contains (.ref C') = b) (hb2 : (Value.ref C :: bm).contains (.ref C2) = b2) (hq : Q (b || b2) ⟨h, g, d, t, os⟩) : wpAny M A (excMatches (.ref e) (.ref tup)) Q E ⟨h, g, d, t, os⟩ := by
  have hcB : (Value.ref C' :: bm').contains (.type "BaseException") = true := by rw [List.contains_cons, hbase, Bool.or_true]
  have hcB2 : (Value.ref C2 :: bm2).contains (.type "BaseException") = true := by rw [List.contains_cons, hbase2, Bool.or_true]
  have f := tc_notTuple
  obtain ⟨o, ho, hc, n, hd⟩ := ht
  unfold excMatches
  refine wpAny_bind (wpAny_isInstance ⟨o, ho, hc⟩ isSubtype_tuple_tuple ?_)
  dsimp only
  rw [if_pos rfl]
  refine wpAny_bind (wpAny_seqItems ho hd ?_)
  dsimp only [Option.getD_some, Option.getD]
  repeat (first | (with_reducible refine wpAny_loadPart_at he ?_; rw [hcls]) | with_reducible refine wpAny_loadPart_at hC' ?_ | with_reducible refine wpAny_loadPart_at hC2 ?_ | (with_reducible refine wpAny_isSubtype_exc hC' ?_; rw [hcB]) | (with_reducible refine wpAny_isSubtype_exc hC2 ?_; rw [hcB2]) | (with_reducible refine wpAny_isSubtype_exc hC ?_; rw [hb]) | wp_step)
  cases b with
  | true => wp_walk; exact hq
  | false =>
    repeat (first | (with_reducible refine wpAny_loadPart_at he ?_; rw [hcls]) | (with_reducible refine wpAny_isSubtype_exc hC ?_; rw [hb2]) | wp_step)
    cases b2 <;> (wp_walk; exact hq)
end
section
variable {Y : Sys} {X : Fn Y} {A' : Around} {R : MU} {loc : Loc} {c : Cf}
theorem flying_keeps {B h h' : Heap} {l : List Env} {e : Addr} {cls a0 : Value} (x : Heap.FlyingW B l e cls a0 h) (k : ∀ b o, h.get? b = some o → h'.get? b = some o) : Heap.FlyingW B l e cls a0 h' := by
  obtain ⟨f1, f2, f3, oe, vs, T', oT, ts, a1, a2, a3, a4, a5, a6, a7, a8, a9⟩ := x
  exact ⟨fun b o q => k b o (f1 b o q), f2, f3.of_keeps fun b o hb _ => ⟨o, k b o hb, rfl⟩, oe, vs, T', oT, ts, k _ _ a1, a2, a3, a4, a5, a6, k _ _ a7, a8, a9⟩
theorem wp_match (V : EnvOk X.env X.sc) {cs : List Nat} {t : Expr} {l : List Env} {a C : Addr} {a0 : Value} {k : Nat} {B : Heap} {E E' : Value → Shared → Prop} {Q : Bool → Shared → Prop} (K : c.Ok Y) (hn : okN Y.T X.sc cs t = true) (hC : Y.T.eadr[k]? = some C) (fl : Heap.FlyingW B l a (.ref C) a0 c.s.heap)
    (hQ : ∀ h' : Heap, (∀ b o, c.s.heap.get? b = some o → h'.get? b = some o) → Heap.FlyingW B l a (.ref C) a0 h' → Q (cs.any (Y.P.sub k)) { c.s with heap := h' }) :
    wpAny Y.M A' (eval (exN cs t) X.env) (fun cv s₁ => wpAny Y.M A' (excMatches (.ref a) cv) Q E' s₁) E c.s := by
  obtain ⟨nm, q, N, bs, bm, hdct, sn, sub, ab, col, dd, k0, k1, k2, k3, k5, newId, Bn, initId, bmB, mN, F⟩ := Y.EX k C hC
  match cs, hn, hQ with
  | [], hn, _ => cases hn
  | [d], hn, hQ =>
    refine glob_exc V K hn fun D hD => ?_
    obtain ⟨nm', q', N', bs', bm', hdct', sn', sub', ab', col', dd', l0, l1, l2, l3, l5, newId', Bn', initId', bmB', mN', F'⟩ := Y.EX d D hD
    obtain ⟨oe, he, hcls⟩ := fl.there
    exact exc_one (g := c.s.gens) (d := c.s.drawn) (t := c.s.toks) (os := c.s.os) (K.stays _ _ F.at_) (K.stays _ _ F'.at_) he hcls F'.isExc (F.sub d D hD) (by
      have := hQ c.s.heap (fun _ _ h => h) fl
      rw [show [d].any (Y.P.sub k) = Y.P.sub k d from Bool.or_false _] at this
      exact this)
  | [d, d'], hn, hQ =>
    show wpAny _ A' (standAt _ >>= fun _ => spliced (backTo _ (starEach [asName _, asName _] X.env)) >>= fun vs => newTuple vs) _ _ _
    refine wpAny_bind (wpAny_standAt (wpAny_bind ?_))
    rw [backTo_cons (acc_star _), backTo_cons (acc_star _)]
    refine spliced_cons (glob_exc V K (and_l hn) fun D hD => spliced_cons (glob_exc V K (and_r hn) fun D2 hD2 => spliced_nil ?_))
    refine wpAny_newTuple ?_ (line_ok (by decide : 2 ≤ 10000000))
    have kp : ∀ b o, c.s.heap.get? b = some o → (c.s.heap.push (tupOf #[.ref D, .ref D2])).get? b = some o := fun _ _ e => Heap.get?_push_of_some _ e
    have fl' := flying_keeps fl kp
    obtain ⟨nm', q', N', bs', bm', hdct', sn', sub', ab', col', dd', l0, l1, l2, l3, l5, newId', Bn', initId', bmB', mN', F'⟩ := Y.EX d D hD
    obtain ⟨nm2, q2, N2, bs2, bm2, hdct2, sn2, sub2, ab2, col2, dd2, m0, m1, m2, m3, m5, newId2, Bn2, initId2, bmB2, mN2, F2⟩ := Y.EX d' D2 hD2
    obtain ⟨oe, he, hcls⟩ := fl'.there
    refine exc_two (g := c.s.gens) (d := c.s.drawn) (t := c.s.toks) (os := c.s.os) (h := c.s.heap.push (tupOf #[.ref D, .ref D2])) ⟨_, Heap.get?_push_size _ rfl, rfl, 0, rfl⟩ (kp _ _ (K.stays _ _ F.at_)) (kp _ _ (K.stays _ _ F'.at_)) (kp _ _ (K.stays _ _ F2.at_)) he hcls F'.isExc F2.isExc (F.sub d D hD) (F.sub d' D2 hD2) ?_
    have := hQ _ kp fl'
    rw [show [d, d'].any (Y.P.sub k) = (Y.P.sub k d || Y.P.sub k d') from by rw [List.any_cons, List.any_cons, List.any_nil, Bool.or_false]] at this
    exact this
  | _ :: _ :: _ :: _, hn, _ => cases hn
theorem Go.mkOk {l : List Env} {m : MV} {Q : Value → Shared → Prop} {E : Value → Shared → Prop} (q : ∀ c' v, c'.Ok Y → Step c c' → c'.H = c.H → VR Y c'.Z c'.φ m v → Q v c'.s) : Go Y l (VRc Y) (.ok m c.H) c Q E :=
  ⟨fun z => (nomatch z), fun c' v b k s e r => (by injection e with e1 e2; subst e1; exact q c' v k s e2.symm r), fun _ _ _ _ _ _ _ _ _ z => (nomatch z)⟩
theorem Go.later {l : List Env} {m : MV} {Q : Value → Shared → Prop} {E : Value → Shared → Prop} {c' : Cf} (g : Go Y l (VRc Y) (.ok m c.H) c Q E) (s : Step c c') (e : c'.H = c.H) : Go Y l (VRc Y) (.ok m c'.H) c' Q E :=
  Go.mkOk fun c₂ v k t h r => g.ok c₂ v m k (s.trans t) (by rw [h, e]) r
theorem soundHE {l : List Env} : ∀ (he : HE) (e : Expr) (c : Cf) (m : MV), okHE X.sc he e = true → c.Ok Y → LocR Y X.env X.sc loc c → evalH he loc = some m → Wk Y A' l (eval (exHE he e) X.env) (VRc Y) (.ok m c.H) c
  | .none, _, _, _, _, K, _, q => fun Q E g => by cases q; exact wpAny_Constant_none (g.here K rfl)
  | .tt, _, _, _, _, K, _, q => fun Q E g => by cases q; exact wpAny_Constant_bool (g.here K rfl)
  | .ff, _, _, _, _, K, _, q => fun Q E g => by cases q; exact wpAny_Constant_bool (g.here K rfl)
  | .int i, _, _, _, _, K, _, q => fun Q E g => by cases q; exact wpAny_Constant_int (g.tok K _ ⟨_, rfl⟩)
  | .neg i, _, _, _, _, K, _, q => fun Q E g => by cases q; exact wpAny_UnaryOp (wpAny_Constant_int (neg_int (g.tok K _ ⟨_, rfl⟩)))
  | .var i, _, _, _, h, K, L, q => fun Q E g => eval_slot X.V K L (beq_iff_eq.mp h) (LV.val_of q) (fun z => nomatch z) fun _ _ hv => g.here K hv
  | .notv i, _, _, _, h, K, L, q => fun Q E g => by
    obtain ⟨v, q1, q2⟩ := of_bind q
    obtain ⟨b, q3, rfl⟩ := Option.map_eq_some_iff.mp q2
    cases MV.bool_of q3
    exact wpAny_UnaryOp (eval_slot X.V K L (beq_iff_eq.mp h) (LV.val_of q1) (fun z => nomatch z) fun r _ hv => by
      have hv : r = .bool b := hv
      subst hv
      exact not_of (wpAny_truthy_bool (g.here K rfl)))
  | .pair a b, e, c, _, h, K, L, q => fun Q E g => by
    obtain ⟨va, q1, q2⟩ := of_bind q
    obtain ⟨vb, q3, rfl⟩ := Option.map_eq_some_iff.mp q2
    show wpAny _ A' (standAt _ >>= fun _ => spliced (backTo _ (starEach [_, _] X.env)) >>= fun vs => newTuple vs) _ _ _
    refine wpAny_bind (wpAny_standAt (wpAny_bind ?_))
    rw [backTo_cons (and_r (and_l h)), backTo_cons (and_r (and_r h))]
    refine spliced_cons (soundHE (l := l) a _ c va (and_l (and_l h)) K L q1 _ _ (Go.mkOk fun c₁ u k₁ s₁ e₁ r₁ => spliced_cons (soundHE (l := l) b _ c₁ vb (and_l (and_r h)) k₁ (L.step s₁) q3 _ _ (Go.mkOk fun c₂ u' k₂ s₂ e₂ r₂ => spliced_nil ?_))))
    have g₂ := g.later (s₁.trans s₂) (e₂.trans e₁)
    exact wpAny_newTuple (g₂.tup (vs := [u, u']) k₂ _ (Heap.get?_push_size _ rfl) (k₂.free (Nat.le_refl _)) (fun _ _ _ e => Heap.get?_push_of_some _ e) ⟨u, [u'], rfl, VR.mono s₂.z s₂.p _ r₁, u', [], rfl, r₂, rfl⟩ (by decide : 2 ≤ 10000000)) (line_ok (by decide : 2 ≤ 10000000))
end
end Mini
end
noncomputable section
namespace Mini
open PySem PySem.W PySem.Calls PyProof.Rows
section
variable {Y : Sys} {X : Fn Y} {A' : Around} {R : MU}
theorem wp_storeA {loc : Loc} {c : Cf} (S : StS X R loc c) {x : Str} {i : Nat} {v : Value} {m : MV} {E : Value → Shared → Prop} {Q : Unit → Shared → Prop} (hx : X.sc.own x = some i) (hv : VR Y c.Z c.φ m v)
    (h : ∀ c', StS X R (loc.set i (.val m)) c' → StB c c' → c'.H = c.H → Q () c'.s) : wpAny Y.M A' (storeName X.env x v) Q E c.s :=
  wp_store S (lv := .val m) hx hv newOk_val fun c' S' b e _ => h c' S' b e
theorem soundH : ∀ (hs : List HS) (xs : List Stmt) (loc : Loc) (c : Cf), okH X.sc hs xs = true → StS X R loc c → ∀ Q E, GoS X R (execH hs loc c.H) c Q E → wpAny Y.M A' (execs (exH hs xs) X.env) Q E c.s
  | [], _, loc, c, _, S => fun _ _ g => wpAny_execs_nil (g.here S)
  | .bad :: _, _, _, _, _, _ => fun _ _ g => absurd rfl g.nb
  | .brk :: _, _, loc, c, _, S => fun _ _ g => wpAny_execs_cons (wpAny_Break (g.brk c loc S (StB.refl c) rfl))
  | .ret he :: _, _, loc, c, h, S => fun Q E g => by
    obtain ⟨v, q, g⟩ := GoS.opt (o := evalH he loc) g
    exact wpAny_execs_cons (wpAny_Return_some (soundHE (l := []) he _ c v (and_l h) S.K S.L q _ _ (Go.mkOk fun c₁ u k₁ s₁ e₁ r₁ => g.ret c₁ u v k₁ (S.out s₁) (by rw [e₁]) r₁)))
  | .assign i he :: r, xs, loc, c, h, S => fun Q E g => by
    obtain ⟨v, q, g⟩ := GoS.opt (o := evalH he loc) g
    have h1 := and_l h
    refine wpAny_execs_cons (wpAny_Assign_Name (soundHE (l := []) he _ c v (and_l (and_r h1)) S.K S.L q _ _ (Go.mkOk fun c₁ u k₁ s₁ e₁ r₁ => wp_storeA (S.step s₁ k₁) (beq_iff_eq.mp (and_l h1)) r₁ fun c₂ S₂ b₂ h₂ => ?_)) (noComp_plain (and_r (and_r h1)) _ _ _))
    exact soundH r xs.tail _ c₂ (and_r h) S₂ Q E (g.at (s₁.toStB.trans b₂) (by rw [h₂, e₁]))
noncomputable def NoEx (r : SR) : Prop := (∀ k l H, r ≠ .exm k l H) ∧ ∀ k l H, r ≠ .exf k l H
theorem execH_noEx : ∀ (hs : List HS) (loc : Loc) (H : MH), NoEx (execH hs loc H)
  | [], _, _ => ⟨fun _ _ _ h => (nomatch h), fun _ _ _ h => (nomatch h)⟩
  | .bad :: _, _, _ => ⟨fun _ _ _ h => (nomatch h), fun _ _ _ h => (nomatch h)⟩
  | .brk :: _, _, _ => ⟨fun _ _ _ h => (nomatch h), fun _ _ _ h => (nomatch h)⟩
  | .ret he :: _, loc, H => by
    show NoEx (optS (evalH he loc) fun v => SR.ret v H)
    cases evalH he loc <;> exact ⟨fun _ _ _ h => (nomatch h), fun _ _ _ h => (nomatch h)⟩
  | .assign i he :: r, loc, H => by
    show NoEx (optS (evalH he loc) fun v => execH r (loc.set i (.val v)) H)
    cases evalH he loc with
    | none => exact ⟨fun _ _ _ h => (nomatch h), fun _ _ _ h => (nomatch h)⟩
    | some v => exact execH_noEx r _ H
theorem GoS.swap {r : SR} {c : Cf} {Q : Flow → Shared → Prop} {E E' : Value → Shared → Prop} (g : GoS X R r c Q E) (h : NoEx r) : GoS X R r c Q E' :=
  ⟨g.nb, g.next, g.brk, g.ret, fun k l H _ _ q => absurd q (h.1 k l H), fun _ l k _ _ _ _ _ _ _ q => absurd q (h.2 k l _)⟩
theorem StS.heap {loc : Loc} {c : Cf} (S : StS X R loc c) {h : Heap} {tk : Nat} (k : (c.heap h tk).Ok Y) : StS X R loc (c.heap h tk) := S.step (Step.heap c h tk) k
theorem soundHs {E : Value → Shared → Prop} {a C : Addr} {a0 : Value} {k : Nat} {B : Heap} (hC : Y.T.eadr[k]? = some C) : ∀ (hs : MHs) (xs : List ExceptHandler) (loc : Loc) (c : Cf), okHs Y.T X.sc hs xs = true → StS X R loc c → Heap.FlyingW B X.l a (.ref C) a0 c.s.heap → Holds B c →
    ∀ Q E', GoS X R (execHs Y.P k hs loc c.H) c Q E' → wpAny Y.M X.A (handleBy (.ref a) X.env (exHs Y.T hs xs)) Q E c.s
  | .nil, _, _, _, _, _, _, _ => fun _ _ g => absurd rfl g.nb
  | .cons cs b r, xs, loc, c, h, S, fl, ho => fun Q E' g => by
    have h2 := and_r h
    have h3 := and_r h2
    have g : GoS X R (if cs.any (Y.P.sub k) then execH b loc c.H else execHs Y.P k r loc c.H) c Q E' := g
    obtain ⟨h0, b, rfl⟩ : ∃ h0 b', b = h0 :: b' := match b, not_t (and_l h3) with | x :: y, _ => ⟨x, y, rfl⟩
    refine wpAny_handleBy_cons (codeAny_handlers_test (wp_match X.V S.K (and_l h) hC fl fun h' kp fl' => ?_)) (by intro q; cases q)
    have k₁ := S.K.heap (h := h') c.s.toks kp
    have S₁ := S.heap k₁
    cases hq : cs.any (Y.P.sub k) with
    | true =>
      rw [hq, if_pos rfl] at g
      simp only [if_true]
      refine codeAny_handlers_suite (lands_againW (s := { c.s with heap := h' }) fl' fun h₂ fl₂ us => ?_)
      have k₂ := Cf.Ok.flew (c := c.heap h' c.s.toks) k₁ ⟨ho.z, ho.m⟩ fl₂.1 us
      exact soundH (h0 :: b) _ loc ((c.heap h' c.s.toks).heap h₂ c.s.toks) (and_l h2) (S₁.heap k₂) Q _ ((g.at ((Step.heap c h' c.s.toks).trans (Step.heap (c.heap h' c.s.toks) h₂ c.s.toks)).toStB rfl).swap (execH_noEx _ _ _))
    | false =>
      rw [hq, if_neg (by decide)] at g
      simp only [Bool.false_eq_true, if_false]
      exact soundHs hC r xs.tail loc (c.heap h' c.s.toks) (and_r h3) S₁ fl' ⟨ho.z, ho.m⟩ Q E' (g.at (Step.heap c h' c.s.toks).toStB rfl)
end
end Mini
end
noncomputable section
namespace Mini
open PySem PySem.W PySem.Calls PyProof.Rows
noncomputable def SSs (Y : Sys) (b : MSs) : Prop := ∀ (X : Fn Y) (R : MU) (xs : List Stmt) (loc : Loc) (c : Cf), okSs Y.T X.sc b xs = true → StS X R loc c → WS X R (execs (exSs Y.T b xs) X.env) (execSs Y.P X.cf b loc c.H) c
section
variable {Y : Sys} {X : Fn Y} {R : MU}
theorem ss_ife (t : MT) (a b : MSs) (ha : SSs Y a) (hb : SSs Y b) : SS Y (.ife t a b) := fun X R st loc c h S Q E g =>
  wpAny_If (seqE S (soundT t X.toBlk _ loc c (and_l h) S.ex) g fun c₁ v b' S₁ s₁ r₁ g => match v, b', r₁, g with
    | true, _, rfl, g => ha X R _ loc c₁ (and_l (and_r h)) S₁ Q E g
    | false, _, rfl, g => hb X R _ loc c₁ (and_r (and_r h)) S₁ Q E g)
theorem sss_nil : SSs Y .nil := fun X R xs loc c h S Q E g => wpAny_execs_nil (g.here S)
theorem GoS.seq {r : SR} {f : Loc → MH → SR} {c : Cf} {Q : Flow → Shared → Prop} {E : Value → Shared → Prop} {W : Shared → Prop} (g : GoS X R (r.then f) c Q E) (k : ∀ c' l, StS X R l c' → GoS X R (f l c'.H) c' Q E → W c'.s) :
    GoS X R r c (fun fl s => match fl with | .next => W s | fl => Q fl s) E :=
  ⟨fun e => g.nb (by rw [e]; rfl), fun c' l S b e => k c' l S (g.at b (by rw [e]; rfl)), fun c' l S b e => g.brk c' l S b (by rw [e]; rfl), fun c' v m k s e => g.ret c' v m k s (by rw [e]; rfl), fun k l H e s q => g.exm k l H e s (by rw [q]; rfl), fun c' l k e a C B a0 S b q => g.exf c' l k e a C B a0 S b (by rw [q]; rfl)⟩
theorem isFreeze_of {s : MS} (h : s.isFreeze = true) : ∃ i, s = .freeze i := by cases s <;> first | exact ⟨_, rfl⟩ | cases h
theorem sss_cons (s : MS) (r : MSs) (hs : s.isFreeze = false → SS Y s) (hr : SSs Y r) : SSs Y (.cons s r) := fun X R xs loc c h S Q E g => by
  unfold okSs at h
  show wpAny _ _ (execs (if s.isFreeze then exSs Y.T r xs else exS Y.T s (xs.headD default) :: exSs Y.T r xs.tail) X.env) _ _ _
  cases hf : s.isFreeze with
  | true =>
    obtain ⟨i, rfl⟩ := isFreeze_of hf
    rw [hf, if_pos rfl] at h
    rw [if_pos rfl]
    obtain ⟨p, hp, hq⟩ := List.any_eq_true.mp (and_l h)
    have g : GoS X R ((optS (lget loc i).acc? fun vs => SR.next (loc.set i (.val (.list vs))) c.H).then fun l H => execSs Y.P X.cf r l H) c Q E := g
    cases ha : (lget loc i).acc? with
    | none => rw [ha] at g; exact absurd rfl g.nb
    | some vs =>
      rw [ha] at g
      obtain ⟨c₁, e1, e2, b, S₁⟩ := S.frozen (beq_iff_eq.mp (and_r hq)) (LV.acc_of ha)
      exact e1 ▸ hr X R xs _ c₁ (and_r h) S₁ Q E (g.at b (by rw [e2]; rfl))
  | false =>
    rw [hf, if_neg (by decide)] at h
    rw [if_neg (by decide)]
    exact wpAny_execs_cons (hs hf X R _ loc c (and_l h) S _ E (GoS.seq (r := execS Y.P X.cf s loc c.H) g fun c' l S' g' => hr X R _ l c' (and_r h) S' Q E g'))
end
end Mini
end
noncomputable section
namespace Mini
open PySem PySem.W PySem.Calls PyProof.Rows
section
variable {Y : Sys} {X : Fn Y} {R : MU}
theorem leaves_pass {k : Nat} {H : MH} {e : Value} {s : Shared} {E : Value → Shared → Prop} (h : Leaves X k H e s) (hE : ∀ e s, Leaves X k H e s → E e s) : notedBy Y.M X.A X.env (cameBackBy Y.M X.A X.env E) e s := by
  have := PassesOwn.leaving (M := Y.M) (A := X.A) (env := X.env) (Q₁ := fun e s => OutX X k H e s) (E₁ := fun _ _ => False) e s h
  exact wpAny_mono this (fun _ _ h => wpAny_mono h (fun _ _ h => hE _ _ h) fun _ _ h => hE _ _ h) fun _ _ h => wpAny_mono h (fun _ _ h => hE _ _ h) fun _ _ h => hE _ _ h
theorem GoS.turn {r : SR} {f : Loc → MH → SR} {c : Cf} {Q : Flow → Shared → Prop} {E E' : Value → Shared → Prop} {W : Shared → Prop} {R' : MU} (g : GoS X R (r.turn f) c Q E) (hE : ∀ k l H e s, r = .exm k l H → Leaves X k H e s → E' e s)
    (k : ∀ c' l, StS X R' l c' → StB c c' → GoS X R (f l c'.H) c' Q E → W c'.s) (kb : ∀ c' l, StS X R' l c' → StS X R l c') :
    GoS X R' r c (fun fl s => match fl with | .next => W s | .cont => W s | .brk => Q .next s | .ret v => Q (.ret v) s) E' :=
  ⟨fun e => g.nb (by rw [e]; rfl), fun c' l S b e => k c' l S b (g.at b (by rw [e]; rfl)), fun c' l S b e => g.next c' l (kb c' l S) b (by rw [e]; rfl), fun c' v m k s e => g.ret c' v m k s (by rw [e]; rfl), hE, fun c' l k e a C B a0 S b q => absurd (by rw [q]; rfl) g.nb⟩
theorem GoS.okW {r : RS Bool} {f : Bool → MH → SR} {c : Cf} {Q : Flow → Shared → Prop} {E E' : Value → Shared → Prop} {Q' : Bool → Shared → Prop} {loc : Loc} (S : StS X R loc c) (g : GoS X R (okW r f) c Q E) (k : ∀ c' b, StS X R loc c' → Step c c' → GoS X R (f b c'.H) c' Q E → Q' b c'.s) : Go Y X.l Bc r c Q' E' :=
  ⟨fun e => g.nb (by rw [e]; rfl), fun c' v b o s e q => (by cases q; exact k c' v (S.step s o) s (g.at s.toStB (by rw [e]; rfl))), fun c' k e a C B a0 _ _ q => absurd (by rw [q]; rfl) g.nb⟩
theorem ss_whil (n : Nat) (t : MT) (b : MSs) (hb : SSs Y b) : SS Y (.whil n t b) := fun X R st loc c h S Q E g => by
  refine wpAny_While (codeAny_whileLoop (fun k s => ∃ c' loc', c'.s = s ∧ StS X R loc' c' ∧ GoS X R (whileM (evalT Y.P X.cf t) (execSs Y.P X.cf b) k loc' c'.H) c' Q E) (fun k s hI => ?_) n ⟨c, loc, rfl, S, g⟩)
  obtain ⟨c₁, loc₁, rfl, S₁, g₁⟩ := hI
  cases k with
  | zero => exact absurd rfl g₁.nb
  | succ k =>
    refine soundT t X.toBlk _ loc₁ c₁ (and_l h) S₁.ex _ _ (GoS.okW S₁ g₁ fun c₂ v S₂ s₂ g₂ => ?_)
    cases v with
    | false => exact wpAny_execs_nil (g₂.here S₂)
    | true => exact hb X R _ loc₁ c₂ (and_r h) S₂ _ _ (GoS.turn (r := execSs Y.P X.cf b loc₁ c₂.H) g₂ (fun kk l H e s q hl => leaves_pass hl fun e s h => g₂.exm kk l H e s (by rw [q]; rfl) h) (fun c₃ l S₃ b₃ g₃ => ⟨k, Nat.lt_succ_self _, c₃, l, rfl, S₃, g₃⟩) fun _ _ S => S)
theorem ss_tryy (b : MSs) (hs : MHs) (hb : SSs Y b) : SS Y (.tryy b hs) := fun X R st loc c h S Q E g => by
  have h2 := and_r h
  cases hs with
  | nil => cases not_t (and_r h2)
  | cons cs bb r =>
  have g : GoS X R ((execSs Y.P X.cf b loc c.H).catch fun k l H => execHs Y.P k (.cons cs bb r) l H) c Q E := g
  refine wpAny_Try_except (hb X R _ loc c (and_l h) S _ _ ⟨fun e => g.nb (by rw [e]; rfl), fun c' l S' b' e => wpAny_execs_nil (g.next c' l S' b' (by rw [e]; rfl)), fun c' l S' b' e => g.brk c' l S' b' (by rw [e]; rfl), fun c' v m k s e => g.ret c' v m k s (by rw [e]; rfl),
    fun k l H e s q => absurd (by rw [q]; rfl) g.nb, fun c₁ l₁ k e a C B a0 S₁ b₁ e₁ fl => ?_⟩)
  obtain ⟨rfl, hC, fly, hz, hm⟩ := fl
  have g₁ : GoS X R (execHs Y.P k (.cons cs bb r) l₁ c₁.H) c₁ Q E := g.at b₁ (by rw [e₁]; rfl)
  rw [X.el] at fly
  refine wpAny_looks_onW (X.at_.fr.trans (congrArg some X.el)) X.fr fly fun h₁ held us₁ => ?_
  refine wpAny_landsW held fun h₂ fly₂ us₂ => ?_
  have k₂ := S₁.K.flew ⟨hz, hm⟩ fly₂.1 (us₁.trans us₂)
  exact soundHs hC (.cons cs bb r) _ l₁ (c₁.heap h₂ c₁.s.toks) (and_l h2) (S₁.heap k₂) (X.el.symm ▸ fly₂) ⟨hz, hm⟩ Q E (g₁.at (Step.heap c₁ h₂ _).toStB rfl)
end
end Mini
end
noncomputable section
namespace Mini
open PySem PySem.W PySem.Calls PyProof.Rows
section
variable {Y : Sys} {X : Fn Y} {R : MU} {loc : Loc} {c : Cf}
theorem StS.hold (S : StS X R loc c) {it : Addr} {o : Obj} (hm : c.Mu it = some (.ex o)) (hl : ∀ vs n, o ≠ listOf vs n) (hR : R it = none) : StS X (upd R it (some (.ex o))) loc c := by
  refine ⟨S.K, S.base, fun a x e => (upd_ne (ne_none hR (S.ext a x e))).trans (S.ext a x e), fun a x e => ?_, ?_, S.own, fun z hz => ?_, S.L, fun x i l a hx hq hs => ?_⟩
  · rcases upd_cases e with ⟨rfl, q⟩ | ⟨_, q⟩
    · cases q; exact ⟨_, hm, fun _ => rfl⟩
    · exact S.keep a x q
  · obtain ⟨m, h⟩ := S.own
    exact (upd_ne (ne_mu hm h fun q => nomatch q)).trans S.ownR
  · obtain ⟨a, v, h1, h2, h3⟩ := S.cel z hz
    exact ⟨a, v, h1, h2, (upd_ne (ne_mu hm h2 fun q => nomatch q)).trans h3⟩
  · obtain ⟨h1, h2⟩ := S.acc x i l a hx hq hs
    obtain ⟨a', vs', n', g1, g2, _⟩ := S.acc_at hx hq
    cases g1.fun hs
    exact ⟨(upd_ne (ne_mu hm g2 fun q => hl _ _ (by injection q))).trans h1, h2⟩
theorem StS.letgo {it : Addr} {o : Obj} (hR : R it = none) (hext : ∀ a x, X.c₀.Mu a = some x → R a = some x) (S : StS X (upd R it (some (.ex o))) loc c) : StS X R loc c ∧ c.Mu it = some (.ex o) := by
  have no : ∀ {a}, upd R it (some (.ex o)) a = none → R a = none := fun h => (upd_cases h).elim (fun q => nomatch q.2) (·.2)
  refine ⟨⟨S.K, S.base, hext, fun a x e => S.keep a x ((upd_ne (ne_none hR e)).trans e), no S.ownR, S.own, fun z hz => ?_, S.L, fun x i l a hx hl hs => ?_⟩, S.keepN rfl (upd_self ..)⟩
  · obtain ⟨a, v, h1, h2, h3⟩ := S.cel z hz; exact ⟨a, v, h1, h2, no h3⟩
  · obtain ⟨h1, h2⟩ := S.acc x i l a hx hl hs; exact ⟨no h1, h2⟩
structure ForI (X : Fn Y) (R : MU) (i : Nat) (b : MSs) (Q : Flow → Shared → Prop) (E : Value → Shared → Prop) (ia : Addr) (rest : List MV) (c' : Cf) (loc' : Loc) (o : Obj) : Prop where
  S : StS X R loc' c'
  it : Iter Y c' ia rest o
  g : GoS X R (forM i (execSs Y.P X.cf b) rest loc' c'.H) c' Q E
theorem ss_forr (i : Nat) (it : MI) (b : MSs) (hb : SSs Y b) : SS Y (.forr i it b) := fun X R st loc c h S Q E g => by
  have h2 := and_r h
  have hx := own_of (and_l h)
  refine wpAny_For ((soundI it).run X.toBlk _ loc c (and_l h2) S.ex _ E ⟨fun e => g.nb (by show toS _ _ _ = _; rw [show evalI Y.P X.cf it loc c.H = .bad from e]; rfl), fun c₁ itv vs k₁ s₁ e₁ r₁ => ?_, fun c' k e a C B a0 o s e' fl => g.exf c' loc k e a C B a0 (S.step s o) s.toStB (by show toS _ _ _ = _; rw [show evalI Y.P X.cf it loc c.H = _ from e']; rfl) fl⟩) ((soundI it).plain _ _ _ · (and_l h2))
  obtain ⟨ia, o, rfl, i₁, n₁⟩ := r₁
  have S₁ := S.step s₁ k₁
  have hRi := S.free n₁
  have hext := S.ext
  refine codeAny_forLoop (fun k s => ∃ rest c' loc' o, (rest : List MV).length = k ∧ c'.s = s ∧ ForI X R i b Q E ia rest c' loc' o) (fun k s hI => ?_) vs.length ⟨vs, c₁, loc, o, rfl, rfl, S₁, i₁, g.at s₁.toStB (by show toS _ _ _ = _; rw [show evalI Y.P X.cf it loc c.H = _ from e₁]; rfl)⟩
  obtain ⟨rest, c₂, loc₂, o, rfl, rfl, I⟩ := hI
  have ne : ∀ {vs n}, c₂.Mu ia ≠ some (.ex (listOf vs n)) := fun q => I.it.o.notL (by injection I.it.mu.symm.trans q with q; injection q)
  cases rest with
  | nil =>
    refine wp_next_end I.S.K I.it X.at_.h fun hp k' => wpAny_execs_nil ?_
    have S₃ := I.S.off (c' := c₂.setM ia none hp c₂.s.toks) k' ⟨ZLe.refl, PLe.refl, rfl⟩ hRi (fun b hb => Cf.setM_ne hb) (let ⟨_, h⟩ := I.S.own; fr_ne_ex I.it.mu h) (fun v e => nomatch I.it.mu.symm.trans e) (fun v e => nomatch (Cf.setM_m ..).symm.trans e) fun _ _ => ne
    exact I.g.next _ loc₂ S₃ ⟨ZLe.refl, PLe.refl, rfl⟩ rfl
  | cons v rest =>
    refine wp_next I.S.K I.it fun rv o' hp tk k₃ hr i₃ => ?_
    have i₃' : ItO Y (c₂.setM ia (some (.ex o')) hp tk) o' rest := ItO.mono (c := c₂) ⟨ZLe.refl, PLe.refl, rfl⟩ i₃
    have b₃ : StB c₂ (c₂.setM ia (some (.ex o')) hp tk) := ⟨ZLe.refl, PLe.refl, rfl⟩
    have S₃ := I.S.off (c' := c₂.setM ia (some (.ex o')) hp tk) k₃ b₃ hRi (fun b hb => Cf.setM_ne hb) (let ⟨_, h⟩ := I.S.own; fr_ne_ex I.it.mu h) (fun v e => nomatch I.it.mu.symm.trans e) (fun v e => nomatch (Cf.setM_m ..).symm.trans e) fun _ _ => ne
    have S₄ := S₃.hold (Cf.setM_m ..) (fun _ _ => i₃.notL) hRi
    refine wpAny_assign_Name (wp_store S₄ (lv := .val v) hx hr newOk_val fun c₄ S₅ b₅ h₅ _ => ?_)
    have g₄ : GoS X R ((execSs Y.P X.cf b (loc₂.set i (.val v)) c₄.H).turn fun l H => forM i (execSs Y.P X.cf b) rest l H) c₄ Q E := I.g.at (b₃.trans b₅) (by rw [h₅]; rfl)
    refine hb X (upd R ia (some (.ex o'))) _ _ c₄ (and_r h2) S₅ _ _ (GoS.turn g₄ (fun kk l H e s q hl => leaves_pass hl fun e s h => g₄.exm kk l H e s (by rw [q]; rfl) h) (fun c₅ l S₆ b₆ g₅ => ?_) fun c₅ l S₆ => (S₆.letgo hRi hext).1)
    have p := S₆.letgo hRi hext
    exact ⟨rest.length, Nat.lt_succ_self _, rest, c₅, l, o', rfl, rfl, p.1, ⟨p.2, i₃'.mono (b₅.trans b₆)⟩, g₅⟩
end
end Mini
end
noncomputable section
namespace Mini
open PySem PySem.W PySem.Calls PyProof.Rows
variable {Y : Sys}
theorem soundSs (b : MSs) : SSs Y b :=
  @MSs.rec (fun s => s.isFreeze = false → SS Y s) (SSs Y) (fun _ => True) (fun _ => ss_bad) (fun i e _ => ss_assign i e) (fun is e _ => ss_unpack is e) (fun e f v _ => ss_setAttr e f v) (fun i o e _ => ss_aug i o e) (fun i es _ => ss_accNew i es) (fun i e _ => ss_accCopy i e) (fun i e _ => ss_accApp i e) (fun _ h => nomatch h) (fun e _ => ss_expr e)
    (fun t a b ha hb _ => ss_ife t a b ha hb) (fun n t b hb _ => ss_whil n t b hb) (fun i it b hb _ => ss_forr i it b hb) (fun e _ => ss_ret e) (fun _ => ss_brk) (fun k es _ => ss_raise k es) (fun b hs hb _ _ => ss_tryy b hs hb) sss_nil sss_cons trivial (fun _ _ _ _ => trivial) b
end Mini
end
noncomputable section
namespace Mini
open PySem PySem.W PySem.Calls PyProof.Rows
theorem zip_lookup : ∀ {ns : List Str} {vs : List Value} {x : Str}, ns.length = vs.length → x ∈ ns → ∃ v, (ns.zip vs).lookup x = some v
  | [], _, _, _, h => nomatch h
  | n :: ns, [], _, h, _ => by simp at h
  | n :: ns, v :: vs, x, h, hx => by
    rw [List.zip_cons_cons, List.lookup_cons]
    cases q : (x == n) with
    | true => exact ⟨v, rfl⟩
    | false =>
      rcases List.mem_cons.mp hx with e | e
      · rw [e] at q; simp at q
      · exact zip_lookup (by simpa using h) e
theorem zip_filterMap : ∀ (ns : List Str) (vs : List Value) (pre : List (Str × Value)), ns.Nodup → ns.length = vs.length → (∀ x ∈ ns, pre.lookup x = none) →
    ns.filterMap (fun n => ((pre ++ ns.zip vs).lookup n).map (n, ·)) = ns.zip vs
  | [], vs, _, _, _, _ => by simp
  | n :: ns, [], _, _, h, _ => by simp at h
  | n :: ns, v :: vs, pre, hn, h, hp => by
    have e1 : (pre ++ (n :: ns).zip (v :: vs)).lookup n = some v := by
      rw [List.zip_cons_cons]
      have : ∀ (l : List (Str × Value)), l.lookup n = none → (l ++ (n, v) :: ns.zip vs).lookup n = some v := by
        intro l
        induction l with
        | nil => intro _; rw [List.nil_append, List.lookup_cons, beq_self_eq_true]
        | cons p l ih =>
          intro hl
          obtain ⟨k, u⟩ := p
          rw [List.lookup_cons] at hl
          rw [List.cons_append, List.lookup_cons]
          cases q : (n == k) with
          | true => rw [q] at hl; cases hl
          | false => rw [q] at hl; exact ih hl
      exact this pre (hp n (.head _))
    rw [List.filterMap_cons, e1]
    have ih := zip_filterMap ns vs (pre ++ [(n, v)]) (List.nodup_cons.mp hn).2 (by simpa using h) (fun x hx => by
      have hne : (x == n) = false := by rw [beq_eq_false_iff_ne]; intro e; exact (List.nodup_cons.mp hn).1 (e ▸ hx)
      have h0 := hp x (.tail _ hx)
      generalize pre = l at h0
      induction l with
      | nil => rw [List.nil_append, List.lookup_cons, hne]; rfl
      | cons p l ih =>
        obtain ⟨k, u⟩ := p
        rw [List.lookup_cons] at h0
        rw [List.cons_append, List.lookup_cons]
        cases q : (x == k) with
        | true => rw [q] at h0; cases h0
        | false => rw [q] at h0; exact ih h0)
    simp only [Option.map_some, List.zip_cons_cons]
    rw [show pre ++ (n, v) :: ns.zip vs = pre ++ [(n, v)] ++ ns.zip vs by simp, ih]
theorem bind_plain {fd : FuncData} {vals : List Value} (h1 : fd.params.posonlyargs = []) (h2 : fd.params.kwonlyargs = []) (h3 : fd.params.vararg = none) (h4 : fd.params.kwarg = none) (h5 : fd.defaults = .none)
    (hn : (fd.params.args.map (·.arg)).Nodup) (hl : vals.length = fd.params.args.length) : bindArgs fd ⟨vals, []⟩ = pure ((fd.params.args.map (·.arg)).zip vals) := by
  have hm : (List.filter (fun n => (((fd.params.args.map (·.arg)).zip vals).lookup n).isNone) (fd.params.args.map (·.arg))) = [] := by
    rw [List.filter_eq_nil_iff]
    intro x hx
    obtain ⟨v, e⟩ := zip_lookup (vs := vals) (by simp [hl]) hx
    rw [e]; simp
  have hf := zip_filterMap (fd.params.args.map (·.arg)) vals [] hn (by simp [hl]) (fun _ _ => rfl)
  simp only [List.nil_append] at hf
  have hs : seqItems? (.none : Value) = pure none := rfl
  unfold bindArgs
  simp only [h1, h2, h3, h4, h5, hs, List.map_nil, List.nil_append, List.append_nil, pure_bind, List.forIn_nil]
  simp only [hl, List.length_map, Option.getD_none, List.length_nil, Nat.sub_zero, Nat.zero_sub, List.drop_nil, gt_iff_lt, Nat.lt_irrefl, decide_false, Bool.false_and, Bool.false_eq_true, if_false]
  rw [List.take_of_length_le (by simp), hm]
  simp
  rw [← List.filterMap_map, hf]
structure FnAt (T : Tie) (H0 : Heap) (f : Nat) (npar : Nat) (fd : FuncData) (body : List Stmt) (vars : List Str) : Prop where
  at_ : ∃ a o, flook f T.fadr = some a ∧ H0.get? a = some o ∧ o.data = .func fd
  bd : fd.body = .stmts body
  code : H0.CodeRec fd.code fd.qualname
  clo : fd.closure = []
  glob : fd.globals = mainGlobals
  blt : fd.builtins = builtinsNs
  kind : fd.scope.kind = .function
  co : fd.scope.isCoroutine = false
  gen : fd.scope.isGenerator = false
  p1 : fd.params.posonlyargs = []
  p2 : fd.params.kwonlyargs = []
  p3 : fd.params.vararg = none
  p4 : fd.params.kwarg = none
  p5 : fd.defaults = .none
  par : fd.params.args.map (·.arg) = vars.take npar
  nle : npar ≤ vars.length
  nd : vars.Nodup
  kinds : ∀ p ∈ fd.scope.names, p.2 ≠ .free
  pk : ∀ x ∈ vars.take npar, fd.scope.names.lookup x = some .local ∨ fd.scope.names.lookup x = some .cell
noncomputable def scOf (fd : FuncData) (vars : List Str) : SC := ⟨vars.zip (List.range vars.length), fd.scope.names⟩
theorem cellsFrom_mem : ∀ (names : List (Str × NameKind)) (n : Nat) (acc : List (Str × Addr)) (x : Str), (∃ a, (x, a) ∈ acc) ∨ (x, NameKind.cell) ∈ names → ∃ a, (x, a) ∈ cellsFrom n names acc
  | [], n, acc, x, h => by
    rcases h with h | h
    · exact h
    · cases h
  | (k, kd) :: r, n, acc, x, h => by
    unfold cellsFrom
    cases q : (kd == NameKind.cell) with
    | true =>
      rw [if_pos rfl]
      refine cellsFrom_mem r _ _ x ?_
      rcases h with ⟨a, h⟩ | h
      · exact .inl ⟨a, .tail _ h⟩
      · rcases List.mem_cons.mp h with e | h
        · cases e; exact .inl ⟨n, .head _⟩
        · exact .inr h
    | false =>
      rw [if_neg (by simp)]
      refine cellsFrom_mem r _ _ x ?_
      rcases h with h | h
      · exact .inl h
      · rcases List.mem_cons.mp h with e | h
        · cases e; simp at q
        · exact .inr h
theorem lookup_of_mem : ∀ {l : List (Str × Addr)} {x : Str} {a : Addr}, (x, a) ∈ l → ∃ b, l.lookup x = some b
  | (k, v) :: r, x, a, h => by
    rw [List.lookup_cons]
    cases q : (x == k) with
    | true => exact ⟨v, rfl⟩
    | false =>
      rcases List.mem_cons.mp h with e | h
      · cases e; simp at q
      · exact lookup_of_mem h
theorem bindL_at {kd : Str → Option NameKind} {x : Str} (hk : kd x = some .local) : ∀ (l : List (Str × Value)) (m : Str → Option Value), (l.map (·.1)).Nodup → bindL kd l m x = (l.lookup x).or (m x)
  | [], m, _ => rfl
  | (n, v) :: r, m, h => by
    rw [List.map_cons, List.nodup_cons] at h
    unfold bindL
    rw [bindL_at hk r _ h.2, List.lookup_cons]
    cases q : (x == n) with
    | true =>
      have e := beq_iff_eq.mp q
      subst e
      rw [if_pos hk]
      have : r.lookup x = none := by
        cases z : r.lookup x with
        | none => rfl
        | some u => exact absurd (List.mem_map.mpr ⟨_, lookup_mem z, rfl⟩) h.1
      rw [this]; simp
    | false =>
      have hne : x ≠ n := fun e => by rw [e] at q; simp at q
      have : (if kd n = some .local then fun y => if y = n then some v else m y else m) x = m x := by
        split
        · exact if_neg hne
        · rfl
      rw [this]
theorem bindC_at {kd : Str → Option NameKind} {x : Str} (hk : kd x ≠ some .local) : ∀ (l : List (Str × Value)) (m : Str → Option Value), (l.map (·.1)).Nodup → bindC kd l m x = (l.lookup x).or (m x)
  | [], m, _ => rfl
  | (n, v) :: r, m, h => by
    rw [List.map_cons, List.nodup_cons] at h
    unfold bindC
    rw [bindC_at hk r _ h.2, List.lookup_cons]
    cases q : (x == n) with
    | true =>
      have e := beq_iff_eq.mp q
      subst e
      rw [if_neg hk]
      have : r.lookup x = none := by
        cases z : r.lookup x with
        | none => rfl
        | some u => exact absurd (List.mem_map.mpr ⟨_, lookup_mem z, rfl⟩) h.1
      rw [this]; simp
    | false =>
      have hne : x ≠ n := fun e => by rw [e] at q; simp at q
      have : (if kd n = some .local then m else fun y => if y = n then some v else m y) x = m x := by
        split
        · rfl
        · exact if_neg hne
      rw [this]
theorem zip_range_lookup : ∀ (vars : List Str) (k : Nat) (x : Str) (i : Nat), (vars.zip (List.range' k vars.length)).lookup x = some i → k ≤ i ∧ vars[i - k]? = some x
  | [], k, x, i, h => by simp at h
  | v :: vs, k, x, i, h => by
    rw [List.length_cons, List.range'_succ, List.zip_cons_cons, List.lookup_cons] at h
    cases q : (x == v) with
    | true =>
      rw [q] at h
      cases h
      rw [beq_iff_eq.mp q]; simp
    | false =>
      rw [q] at h
      obtain ⟨h1, h2⟩ := zip_range_lookup vs (k + 1) x i h
      refine ⟨by omega, ?_⟩
      rw [show i - k = (i - (k + 1)) + 1 by omega]
      simpa using h2
theorem vars_at {fd : FuncData} {vars : List Str} {x : Str} {i : Nat} (h : (scOf fd vars).vars.lookup x = some i) : vars[i]? = some x := by
  have h' : (vars.zip (List.range' 0 vars.length)).lookup x = some i := by rw [← List.range_eq_range']; exact h
  exact (zip_range_lookup vars 0 x i h').2
theorem sc_vars {sc : SC} {x : Str} {i : Nat} (h : sc.slot x = some i) : sc.vars.lookup x = some i := by
  unfold SC.slot at h
  split at h
  · exact h
  · cases h
theorem zip_get_lookup : ∀ {ns : List Str} {vs : List Value} {i : Nat} {x : Str} {v : Value}, ns.Nodup → ns[i]? = some x → vs[i]? = some v → (ns.zip vs).lookup x = some v
  | [], _, _, _, _, _, h, _ => by simp at h
  | _ :: _, [], _, _, _, _, _, h => by simp at h
  | n :: ns, u :: vs, 0, x, v, hn, h1, h2 => by
    simp at h1 h2; subst h1; subst h2
    rw [List.zip_cons_cons, List.lookup_cons, beq_self_eq_true]
  | n :: ns, u :: vs, i + 1, x, v, hn, h1, h2 => by
    simp at h1 h2
    rw [List.nodup_cons] at hn
    have hx : x ∈ ns := List.mem_of_getElem? h1
    have : (x == n) = false := by rw [beq_eq_false_iff_ne]; intro e; exact hn.1 (e ▸ hx)
    rw [List.zip_cons_cons, List.lookup_cons, this]
    exact zip_get_lookup hn.2 h1 h2
section
variable {Y : Sys} {A : Around} {l : List Env} {c c₁ : Cf}
theorem args_get {args : List MV} {n i : Nat} (h : lget (args.map LV.val ++ List.replicate n .un) i ≠ .un) : ∃ v, args[i]? = some v ∧ lget (args.map LV.val ++ List.replicate n .un) i = .val v := by
  unfold lget List.getD at *
  rw [List.getElem?_append] at *
  by_cases hi : i < (args.map LV.val).length
  · rw [if_pos hi, List.getElem?_map] at *
    rw [List.length_map] at hi
    exact ⟨args[i], List.getElem?_eq_getElem hi, by rw [List.getElem?_eq_getElem hi]; rfl⟩
  · rw [if_neg hi, List.getElem?_replicate] at h
    exact absurd (by split <;> rfl) h
noncomputable def Mcall (Mu : MU) (L : Addr) (m : Str → Option Value) (cs : List (Str × Addr)) (cm : Str → Option Value) : MU := fun a =>
  if a = L then some (.fr m) else match cs.find? (fun p => p.2 == a && cs.lookup p.1 == some p.2) with
    | some p => some (.ce (cm p.1))
    | none => Mu a
section
variable {Mu : MU} {L : Addr} {m cm : Str → Option Value} {cs : List (Str × Addr)}
theorem Mcall_cell (ap : cs.Pairwise fun x y => x.2 ≠ y.2) (ab : ∀ n c, (n, c) ∈ cs → L < c) {n : Str} {a : Addr} (h : cs.lookup n = some a) : Mcall Mu L m cs cm a = some (.ce (cm n)) := by
  have hm := lookup_mem h
  unfold Mcall
  rw [if_neg (Nat.ne_of_gt (ab _ _ hm))]
  cases q : cs.find? (fun p => p.2 == a && cs.lookup p.1 == some p.2) with
  | none =>
    have := List.find?_eq_none.mp q _ hm
    exact absurd (by rw [h, beq_self_eq_true, beq_self_eq_true]; rfl) this
  | some p =>
    have h2 := List.find?_some q
    have e := beq_iff_eq.mp (and_l h2)
    cases name_of_addr ap (n := p.1) (n' := n) (c := a) (e ▸ List.mem_of_find?_eq_some q) hm
    rfl
theorem Mcall_old (ab : ∀ n c, (n, c) ∈ cs → L < c) {a : Addr} (h : a < L) : Mcall Mu L m cs cm a = Mu a := by
  unfold Mcall
  rw [if_neg (Nat.ne_of_lt h)]
  cases q : cs.find? (fun p => p.2 == a && cs.lookup p.1 == some p.2) with
  | none => rfl
  | some p =>
    have h2 := List.find?_some q
    have e := beq_iff_eq.mp (and_l h2)
    exact absurd (Nat.lt_trans h (e ▸ ab p.1 p.2 (List.mem_of_find?_eq_some q))) (Nat.lt_irrefl _)
theorem Mcall_some {a : Addr} {x : MC} (h : Mcall Mu L m cs cm a = some x) : (a = L ∧ x = .fr m) ∨ (∃ n, cs.lookup n = some a ∧ x = .ce (cm n)) ∨ Mu a = some x := by
  unfold Mcall at h
  by_cases e : a = L
  · rw [if_pos e] at h; cases h; exact .inl ⟨e, rfl⟩
  · rw [if_neg e] at h
    cases q : cs.find? (fun p => p.2 == a && cs.lookup p.1 == some p.2) with
    | none => rw [q] at h; exact .inr (.inr h)
    | some p =>
      rw [q] at h
      have h2 := List.find?_some q
      cases h
      exact .inr (.inl ⟨p.1, beq_iff_eq.mp (and_l h2) ▸ beq_iff_eq.mp (and_r h2), rfl⟩)
end
noncomputable def Cf.call (c : Cf) (L : Addr) (m : Str → Option Value) (cs : List (Str × Addr)) (cm : Str → Option Value) (s : Shared) : Cf := { c with Mu := Mcall c.Mu L m cs cm, s := s }
theorem Mu_lt (k : c.Ok Y) {a : Addr} {x : MC} (h : c.Mu a = some x) : a < c.s.heap.objs.size := MC.at_lt (k.inv.m _ _ h)
theorem Cf.Ok.call (k : c.Ok Y) {L : Addr} {m cm : Str → Option Value} {cs : List (Str × Addr)} {s : Shared} (x : InCallC c.s L m cs cm s) : (c.call L m cs cm s).Ok Y ∧ Step c (c.call L m cs cm s) := by
  have lt : ∀ {a y}, c.Mu a = some y → a < L := fun h => Nat.lt_of_lt_of_le (Mu_lt k h) x.toInCall.fresh
  have big : ∀ {a}, L ≤ a → c.Z a = none := fun h => (k.free (Nat.le_trans x.toInCall.fresh h)).1
  obtain ⟨h, tk, e⟩ := x.toInCall.same
  refine ⟨⟨⟨fun a o e => x.toInCall.keep a o (k.inv.z a o e), fun a y e => ?_, fun a y e => ?_⟩, k.hr.mono ZLe.refl fun a o e => (Mcall_old x.above (lt e)).trans e, k.base⟩,
    ⟨ZLe.refl, PLe.refl, (congrArg rest e : rest s = _)⟩, fun a y e => ⟨y, (Mcall_old x.above (lt e)).trans e, fun _ => rfl⟩⟩
  · rcases Mcall_some e with ⟨rfl, rfl⟩ | ⟨n, h1, rfl⟩ | e
    · exact at_fr x.toInCall.ns
    · exact x.cell n a h1
    · exact MC.at_to (x.toInCall.keep a) (k.inv.m a y e)
  · rcases Mcall_some e with ⟨rfl, rfl⟩ | ⟨n, h1, rfl⟩ | e
    · exact big (Nat.le_refl _)
    · exact big (Nat.le_of_lt (x.above n a (lookup_mem h1)))
    · exact k.inv.d a y e
structure Bnd (Y : Sys) (fd : FuncData) (vars : List Str) (vals : List Value) (env : Env) (c c₁ : Cf) : Prop where
  k : c₁.Ok Y
  st : Step c c₁
  H : c₁.H = c.H
  V : EnvOk env (scOf fd vars)
  fr : env.frame = some env.locals
  own : ∃ m, c₁.Mu env.locals = some (.fr m)
  ownN : c.Mu env.locals = none
  cel : ∀ z, fd.scope.names.lookup z = some .cell → ∃ a v, env.cells.lookup z = some a ∧ c₁.Mu a = some (.ce v) ∧ c.Mu a = none
  cinj : ∀ x y a, env.cells.lookup x = some a → env.cells.lookup y = some a → x = y
  slot : ∀ (i : Nat) y v, vars[i]? = some y → vals[i]? = some v → Slot env c₁.Mu y v
theorem callEnv_ok {fd : FuncData} {body : List Stmt} {f np : Nat} {vars : List Str} (FA : FnAt Y.T Y.H0 f np fd body vars) (L a : Addr) : EnvOk (callEnvC fd L a) (scOf fd vars) :=
  ⟨rfl, FA.kind, FA.glob, FA.blt, fun h => FA.kinds _ (lookup_mem (show fd.scope.names.lookup ("__classdict__" : Str) = some .free from h)) rfl⟩
theorem bound_at {fd : FuncData} {body : List Stmt} {f np : Nat} {vars : List Str} (FA : FnAt Y.T Y.H0 f np fd body vars) (k : c.Ok Y) {a : Addr} {vals : List Value} {s : Shared} (hl : vals.length = np)
    (x : InCallC c.s (callEnvC fd c.s.heap.objs.size a).locals (bindL (callEnvC fd c.s.heap.objs.size a).kindOf ((vars.take np).zip vals) fun _ => none) (callEnvC fd c.s.heap.objs.size a).cells
        (bindC (callEnvC fd c.s.heap.objs.size a).kindOf ((vars.take np).zip vals) fun _ => none) s) : ∃ c₁ : Cf, c₁.s = s ∧ Bnd Y fd vars vals (callEnvC fd c.s.heap.objs.size a) c c₁ := by
  have E := callEnv_ok (vars := vars) FA c.s.heap.objs.size a
  generalize hv : callEnvC fd c.s.heap.objs.size a = env at x E
  have hfr : env.frame = some env.locals := hv ▸ rfl
  have hcs : env.cells = cellsFrom (c.s.heap.objs.size + 1) fd.scope.names [] := hv ▸ rfl
  have hL : env.locals = c.s.heap.objs.size := hv ▸ rfl
  have p := k.call x
  have cel : ∀ z, fd.scope.names.lookup z = some .cell → ∃ b, env.cells.lookup z = some b := fun z hz =>
    let ⟨_, hb⟩ := cellsFrom_mem fd.scope.names (c.s.heap.objs.size + 1) [] z (.inr (lookup_mem hz))
    hcs ▸ lookup_of_mem hb
  refine ⟨_, rfl, p.1, p.2, rfl, E, hfr, ⟨_, if_pos rfl⟩, (k.free (Nat.le_of_eq hL.symm)).2, fun z hz => ?_, fun y z b h1 h2 => name_of_addr x.apart (lookup_mem h1) (lookup_mem h2), fun i y v hy hv => ?_⟩
  · obtain ⟨b, hb⟩ := cel z hz
    exact ⟨b, _, hb, Mcall_cell x.apart x.above hb, (k.free (Nat.le_of_lt (Nat.lt_of_le_of_lt (Nat.le_of_eq hL.symm) (x.above z b (lookup_mem hb))))).2⟩
  · have hi : i < np := hl ▸ (List.getElem?_eq_some_iff.mp hv).1
    have hy' : (vars.take np)[i]? = some y := by rw [List.getElem?_take, if_pos hi]; exact hy
    have hnd : (vars.take np).Nodup := List.Nodup.sublist (List.take_sublist ..) FA.nd
    have hlk : ((vars.take np).zip vals).lookup y = some v := zip_get_lookup hnd hy' hv
    have hnz : (((vars.take np).zip vals).map (·.1)).Nodup := by
      rw [List.map_fst_zip (by rw [List.length_take, hl]; exact Nat.min_le_left ..)]; exact hnd
    rcases FA.pk y (List.mem_of_getElem? hy') with h | h
    · have kd : env.kindOf y = some .local := (E.k y).trans h
      exact .inl ⟨kd, _, if_pos rfl, by rw [bindL_at kd _ _ hnz, hlk]; rfl⟩
    · have kd : env.kindOf y = some .cell := (E.k y).trans h
      obtain ⟨b, hb⟩ := cel y h
      exact .inr ⟨.inl kd, b, hb, (Mcall_cell x.apart x.above hb).trans (by rw [bindC_at (fun z => nomatch kd.symm.trans z) _ _ hnz, hlk]; rfl)⟩
theorem call_enter {fd : FuncData} {body : List Stmt} {f np : Nat} {vars : List Str} (FA : FnAt Y.T Y.H0 f np fd body vars) {a : Addr} (ha : flook f Y.T.fadr = some a) (k : c.Ok Y) {vals : List Value} (hl : vals.length = np) (hd : A.depth < recursionLimit) {R : Result → Shared → Prop}
    (h : ∀ env c₁, Bnd Y fd vars vals env c c₁ → wpAny Y.M (A.deeper env) (execs body env) (fun f s' => R (.ok (.ret (match f with | .ret v => v | _ => .none))) s')
        (fun e s' => wpAny Y.M (A.deeper env) (leaving env e) (fun _ s'' => R (.error e) s'') (fun e' s'' => R (.error e') s'') s') c₁.s) : codeAny Y.M A (.call (.ref a) ⟨vals, []⟩) R c.s := by
  obtain ⟨a', o, ha', ho, hod⟩ := FA.at_
  cases ha.symm.trans ha'
  have hbl : fd.params.args.length = np := by
    have := congrArg List.length FA.par
    rw [List.length_map, List.length_take, Nat.min_eq_left FA.nle] at this; exact this
  have hbind : bindArgs fd ⟨vals, []⟩ = pure ((vars.take np).zip vals) := by
    rw [← FA.par]
    exact bind_plain FA.p1 FA.p2 FA.p3 FA.p4 FA.p5 (FA.par.symm ▸ List.Nodup.sublist (List.take_sublist ..) FA.nd) (hl.trans hbl.symm)
  have hkind : ∀ x ∈ (vars.take np).zip vals, fd.scope.names.lookup x.1 = some .local ∨ (fd.scope.names.lookup x.1 = some .cell ∧ ((cellsFrom (c.s.heap.objs.size + 1) fd.scope.names []).lookup x.1).isSome = true) := fun x hx =>
    (FA.pk _ (List.of_mem_zip hx).1).imp id fun h => ⟨h, by
      obtain ⟨b, hb⟩ := cellsFrom_mem fd.scope.names (c.s.heap.objs.size + 1) [] x.1 (.inr (lookup_mem h))
      obtain ⟨b', hb'⟩ := lookup_of_mem hb
      rw [hb']; rfl⟩
  refine codeAny_call_cells hd (k.stays _ _ ho) hod (Y.X.nolim.keeps k.stays) (FA.code.keeps k.stays) FA.bd hbind FA.clo hkind (fun s₁ x => ?_) FA.co FA.gen FA.kind
  obtain ⟨c₁, rfl, B⟩ := bound_at FA k hl x
  exact h _ c₁ B
end
end Mini
end
noncomputable section
namespace Mini
open PySem PySem.W PySem.Calls PyProof.Rows
theorem sc_vars' {fd : FuncData} {vars : List Str} (hk : ∀ p ∈ fd.scope.names, p.2 ≠ .free) {x : Str} {i : Nat} (h : (scOf fd vars).slot x = some i) : (scOf fd vars).own x = some i := by
  have n : ((scOf fd vars).names.lookup x == some NameKind.free) = false := beq_eq_false_iff_ne.mpr fun q => hk _ (lookup_mem q) rfl
  unfold SC.slot at h
  rw [n, Bool.or_false] at h
  exact h
section
variable {Y : Sys} {A : Around} {l : List Env} {c : Cf} {cf : Nat → List MV → MH → RS MV} {D U : Nat}
theorem deep_at {env : Env} (h : At A l D U) : At (A.deeper env) (env :: l) (D + 1) (U + 3) :=
  ⟨(congrArg (Option.map (env :: ·)) h.fr : A.frames.map (env :: ·) = _), h.h, Nat.succ_le_succ h.d, Nat.add_le_add_right h.u 3⟩
noncomputable def blkOf (CO : CallOk Y cf (D + 2) (U + 4)) (RO : RecOk Y cf (D + 2) (U + 4)) (hA : At A l D U) (hc : U + 23 < cLine) {fd : FuncData} {vars : List Str} {vals : List Value} {env : Env} {c₁ : Cf} (B : Bnd Y fd vars vals env c c₁) : Blk Y :=
  { A := A.deeper env, l := env :: l, env, sc := scOf fd vars, cf, D := D + 1, U := U + 3, V := B.V, N := (fun h => nomatch h), C := fun z h => let ⟨a, _, e, _⟩ := B.cel z h; ⟨a, e⟩, CO, RO, at_ := deep_at hA,
    u := Nat.lt_of_le_of_lt (Nat.add_le_add_right (deep_at (env := env) hA).u 20) hc }
theorem call_body (CO : CallOk Y cf (D + 2) (U + 4)) (RO : RecOk Y cf (D + 2) (U + 4)) (hc : U + 23 < cLine) (hD : D < recursionLimit) {f np nv : Nat} {fd : FuncData} {body : List Stmt} {vars : List Str} {mb : MSs} (FA : FnAt Y.T Y.H0 f np fd body vars) (hok : okSs Y.T (scOf fd vars) mb body = true) (hex : exSs Y.T mb body = body)
    {a : Addr} {args : List MV} {vals : List Value} (ha : flook f Y.T.fadr = some a) (k : c.Ok Y) (hv : VRs Y c.Z c.φ args vals) (F : FramesOk c l) (hA : At A l D U) {Q E : Value → Shared → Prop} (g : Go Y l (VRc Y) (runF Y.P cf ⟨np, nv, .body mb⟩ args c.H) c Q E) :
    codeAny Y.M A (.call (.ref a) ⟨vals, []⟩) (CallPost Q E) c.s := by
  have g : Go Y l (VRc Y) (if args.length = np then endF (execSs Y.P cf mb (args.map .val ++ List.replicate (nv - np) .un) c.H) else .bad) c Q E := g
  by_cases hn : args.length = np
  · rw [if_pos hn] at g
    refine call_enter FA ha k (hv.length.trans hn) (Nat.lt_of_le_of_lt hA.d hD) fun env c₁ B => ?_
    let X : Fn Y := { toBlk := blkOf CO RO hA hc B, c₀ := c, outer := l, el := rfl, inj := fun x y i h1 h2 => Option.some.inj ((vars_at (sc_vars (own_slot h1))).symm.trans (vars_at (sc_vars (own_slot h2)))), ow := fun x i h => sc_vars' FA.kinds h, cinj := B.cinj, fr := B.fr, outF := F }
    have hu : ∀ {i}, lget (args.map LV.val ++ List.replicate (nv - np) .un) i ≠ .un → ∃ v, args[i]? = some v ∧ lget (args.map LV.val ++ List.replicate (nv - np) .un) i = .val v := args_get
    have S : StS X c.Mu (args.map .val ++ List.replicate (nv - np) .un) c₁ := by
      refine ⟨B.k, B.st.toStB, fun _ _ e => e, B.st.k, B.ownN, B.own, B.cel, fun y i hy h => ?_, fun y i l a hy hl _ => ?_⟩
      · obtain ⟨v, e1, e2⟩ := hu h
        obtain ⟨rv, e3, e4⟩ := hv.get e1
        exact ⟨rv, B.slot i y rv (vars_at (sc_vars hy)) e3, e2 ▸ VR.mono B.st.z B.st.p v e4⟩
      · obtain ⟨v, e1, e2⟩ := hu (i := i) fun q => nomatch hl.symm.trans q
        exact nomatch hl.symm.trans e2
    have hr := congrArg (execSs Y.P cf mb (args.map .val ++ List.replicate (nv - np) .un)) B.H
    have W := soundSs mb X c.Mu body _ c₁ hok S
    rw [hex] at W
    refine W _ _ ⟨fun e => g.nb (by rw [← hr, show execSs Y.P cf mb _ c₁.H = _ from e]; rfl), fun c' loc S' b' e => g.ok c' _ .none S'.K (S'.out (Step.refl _)) (by rw [← hr, show execSs Y.P cf mb _ c₁.H = _ from e]; rfl) rfl,
      fun c' loc S' b' e => absurd (by rw [← hr, show execSs Y.P cf mb _ c₁.H = _ from e]; rfl) g.nb, fun c' v m k' s' e hv => g.ok c' v m k' s' (by rw [← hr, show execSs Y.P cf mb _ c₁.H = _ from e]; rfl) hv,
      fun kk lo H e s q hl => wpAny_mono hl (fun _ s'' h => ?_) fun _ _ h => h.elim, fun c' lo kk e a C B a0 S' b' e' => absurd (by rw [← hr, show execSs Y.P cf mb _ c₁.H = _ from e']; rfl) g.nb⟩
    obtain ⟨c', a, C, B, a0, rfl, k', s', rfl, fl⟩ := h
    exact g.ex c' kk e a C B a0 k' s' (by rw [← hr, show execSs Y.P cf mb _ c₁.H = _ from q]; rfl) fl
  · rw [if_neg hn] at g; exact absurd rfl g.nb
end
section
variable (T : Tie)
noncomputable def exRec : List Nat → MEs → List Stmt → List Stmt
  | f :: fs, .cons e r, xs => .Assign [.Attribute (asName (parts (partsS (xs.headD default)).a).a) (nameOf T f) (parts (partsS (xs.headD default)).a).p] (ex T e (partsS (xs.headD default)).b) (partsS (xs.headD default)).p :: exRec fs r xs.tail
  | _, _, _ => []
noncomputable def okRec (sc : SC) (self : Str) : List Nat → MEs → List Stmt → Bool
  | [], .nil, _ => true
  | _ :: fs, .cons e r, xs => ((parts (parts (partsS (xs.headD default)).a).a).s == self) && (ok T sc e (partsS (xs.headD default)).b && (noComp (ex T e (partsS (xs.headD default)).b) && okRec sc self fs r xs.tail))
  | _, _, _ => false
end
section
variable {Y : Sys} {B : Blk Y} {loc : Loc} {c : Cf}
theorem dict_ne {es : List DictEntry} {n m : Nat} {vs : Array Value} (h : MC.ex (dictOf es n) = MC.ex (listOf vs m)) : False := by injection h with h; injection h with _ _ h; cases h
theorem Ex.setX (x : Ex B loc c) {dx : Addr} {es es' : List DictEntry} {n n' : Nat} {h : Heap} {tk : Nat} (hd : c.Mu dx = some (.ex (dictOf es n))) (k : (c.setM dx (some (.ex (dictOf es' n'))) h tk).Ok Y) : Ex B loc (c.setM dx (some (.ex (dictOf es' n'))) h tk) ∧ ∀ z r, Slot B.env c.Mu z r → Slot B.env (c.setM dx (some (.ex (dictOf es' n'))) h tk).Mu z r := by
  have hn : (c.setM dx (some (.ex (dictOf es' n'))) h tk).Mu dx = some (.ex (dictOf es' n')) := Cf.setM_m ..
  have sk : ∀ z r, Slot B.env c.Mu z r → Slot B.env (c.setM dx (some (.ex (dictOf es' n'))) h tk).Mu z r := fun z r => (slot_keep (a := dx) (fun b hb => Cf.setM_ne hb) (fun m e => nomatch hd.symm.trans e) (fun m e => nomatch hd.symm.trans e) (fun m e => nomatch hn.symm.trans e) (fun m e => nomatch hn.symm.trans e) z r).mpr
  refine ⟨⟨fun y i hy hu => ?_, k, fun e he => ?_⟩, sk⟩
  · obtain ⟨r, h1, h2⟩ := x.L y i hy hu
    exact ⟨r, sk _ _ h1, h2.setM fun vs n q => dict_ne (Option.some.inj (hd.symm.trans q))⟩
  · obtain ⟨h1, L, m, h2, h3⟩ := x.F e he
    exact ⟨h1, L, m, h2, (Cf.setM_ne (ne_mu hd h3 fun q => nomatch q)).trans h3⟩
theorem evalEs_cons {P : Prg} {cf : Nat → List MV → MH → RS MV} {e : ME} {r : MEs} {loc : Loc} {H H' : MH} {ms : List MV} (h : evalEs P cf (.cons e r) loc H = .ok ms H') : ∃ m ms' H₁, evalE P cf e loc H = .ok m H₁ ∧ evalEs P cf r loc H₁ = .ok ms' H' ∧ ms = m :: ms' := by
  have h' : ((evalE P cf e loc H).bind fun v H => (evalEs P cf r loc H).bind fun vs H => RS.ok (v :: vs) H) = .ok ms H' := h
  cases q : evalE P cf e loc H with
  | bad => rw [q] at h'; cases h'
  | ex => rw [q] at h'; cases h'
  | ok m H1 =>
    rw [q] at h'
    have h' : ((evalEs P cf r loc H1).bind fun vs H => RS.ok (m :: vs) H) = .ok ms H' := h'
    cases q2 : evalEs P cf r loc H1 with
    | bad => rw [q2] at h'; cases h'
    | ex => rw [q2] at h'; cases h'
    | ok ms' H2 => rw [q2] at h'; cases h'; exact ⟨m, ms', H1, rfl, q2, rfl⟩
theorem fput_new {f : Nat} {m : MV} : ∀ (fs : Flds), f ∉ fs.map (·.1) → fput f m fs = fs ++ [(f, m)]
  | [], _ => rfl
  | (g, u) :: r, h => by
    unfold fput
    rw [if_neg (fun e => h (by rw [e]; exact .head _)), fput_new r (fun hm => h (.tail _ hm))]; rfl
theorem Cf.Ok.setX (k : c.Ok Y) {dx : Addr} {o o' : Obj} {h : Heap} {tk : Nat} (hd : c.Mu dx = some (.ex o)) (I : Inv c.Z (upd c.Mu dx (some (.ex o'))) h) : (c.setM dx (some (.ex o')) h tk).Ok Y :=
  ⟨I, k.hr.mono ZLe.refl fun a s e => (upd_ne (ne_mu hd e fun q => nomatch q)).trans e, k.base⟩
structure RecE (Y : Sys) (B : Blk Y) (loc : Loc) (es : MEs) (k : MCls) (dx : Addr) (fs : Flds) (c c' : Cf) (ms : List MV) (ed : List DictEntry) (n : Nat) (vd : List Value) : Prop where
  ok : c'.Ok Y
  st : ∀ d : Cf, Step d c → d.Mu dx = none → Step d c'
  z : ZLe c.Z c'.Z
  eq : evalEs Y.P B.cf es loc c.H = .ok ms c'.H
  mu : c'.Mu dx = some (.ex (dictOf ed n))
  en : Ents Y.T.hs (k.flds.map (nameOf Y.T)) vd ed
  vr : VRs Y c'.Z c'.φ (fs.map (·.2) ++ ms) vd
theorem rec_body {self : Str} {ci : Nat} {k : MCls} {C x dx : Addr} (hk : Y.P.cls[ci]? = some k) (hC : Y.T.cadr[ci]? = some C) (hself : (self == dbg) = false) (hz : k.flds.length ≤ 100) {Q : Flow → Shared → Prop} {E : Value → Shared → Prop} :
    ∀ (flds : List Nat) (es : MEs) (xs : List Stmt) (c : Cf) (fs : Flds) (ed : List DictEntry) (n : Nat) (vd : List Value), okRec Y.T B.sc self flds es xs = true → fs.map (·.1) ++ flds = k.flds → Ex B loc c → Slot B.env c.Mu self (.ref x) → c.Z x = some (instObj C dx) →
      c.Mu dx = some (.ex (dictOf ed n)) → Ents Y.T.hs (fs.map fun p => nameOf Y.T p.1) vd ed → VRs Y c.Z c.φ (fs.map (·.2)) vd → (∃ ms H', evalEs Y.P B.cf es loc c.H = .ok ms H') →
      (∀ c' ms ed n vd, RecE Y B loc es k dx fs c c' ms ed n vd → Q .next c'.s) → wpAny Y.M B.A (execs (exRec Y.T flds es xs) B.env) Q E c.s
  | [], .nil, xs, c, fs, ed, n, vd, hok, hfl, X, hsl, hx, hd, hE, hv, he, h =>
    wpAny_execs_nil (h c [] ed n vd ⟨X.K, fun _ s _ => s, ZLe.refl, rfl, hd, by rw [← hfl, List.append_nil, List.map_map]; exact hE, by rw [List.append_nil]; exact hv⟩)
  | [], .cons _ _, _, _, _, _, _, _, hok, _, _, _, _, _, _, _, _, _ => nomatch hok
  | _ :: _, .nil, _, _, _, _, _, _, hok, _, _, _, _, _, _, _, _, _ => nomatch hok
  | f :: flds, .cons e r, xs, c, fs, ed, n, vd, hok, hfl, X, hsl, hx, hd, hE, hv, he, h => by
    obtain ⟨ms, H', he⟩ := he
    obtain ⟨m, ms', H₁, e1, e2, rfl⟩ := evalEs_cons he
    have hs := beq_iff_eq.mp (and_l hok)
    have h2 := and_r hok
    have h3 := and_r h2
    refine wpAny_execs_cons (wp_of (plainObj_exec_Assign_Attribute _ _ _ _ _ (noComp_plain (and_l h3) _ _ _)) (wpAny_bind (wpAny_standAt (wpAny_bind (soundE e B _ loc c (and_l h2) X _ _ ⟨(fun q => nomatch e1.symm.trans q), fun c₁ u m' k₁ s₁ e₁ r₁ => ?_, fun c₁ kk e' a C' B' a0 k₁ s₁ e₁ _ => (nomatch e1.symm.trans e₁)⟩)))))
    cases e1.symm.trans e₁
    have X₁ := X.step s₁ k₁
    have hsl₁ := hsl.step s₁
    have hd₁ : c₁.Mu dx = some (.ex (dictOf ed n)) := s₁.keep rfl hd
    have CO := cls_at hk hC
    obtain ⟨L, fm, hL⟩ := X₁.top
    have hfm : f ∈ k.flds := hfl ▸ List.mem_append_right _ (.head _)
    have hlt : ∀ p ∈ fs, p.1 < Y.T.names.length := fun p hp => (CO.flds p.1 (hfl ▸ List.mem_append_left _ (List.mem_map.mpr ⟨p, hp, rfl⟩))).1
    have hnew : f ∉ fs.map (·.1) := fun hm => (List.nodup_append.mp (hfl ▸ CO.nodup : (fs.map (·.1) ++ f :: flds).Nodup)).2.2 f hm f (.head _) rfl
    have hput : fput f m fs = fs ++ [(f, m)] := fput_new fs hnew
    have hlen : fs.length < 100 := by
      have := congrArg List.length hfl
      rw [List.length_append, List.length_map, List.length_cons] at this
      exact Nat.lt_of_lt_of_le (Nat.lt_of_lt_of_le (Nat.lt_add_of_pos_right (Nat.succ_pos _)) (Nat.le_of_eq this)) hz
    refine wpAny_bind (wp_of (assign_Attribute ..) (wpAny_bind (wpAny_holding (wpAny_Name (hs ▸ wp_var B.V k₁ hsl₁ (wpAny_bind (wpAny_standAt (wpAny_bind (wpAny_holding ?_))))) (hs ▸ hself)))))
    refine wp_put k₁ hL CO hfm (s₁.z _ _ hx) hd₁ (ex_at (k₁.inv.m _ _ hd₁)) (fun _ q => nomatch q) hE hlt hlen (mv := m) fun h' es' n' tk I hE' => ?_
    have k₂ := k₁.setX (tk := tk) hd₁ (I (.ex _) rfl)
    obtain ⟨X₂, sk⟩ := X₁.setX (tk := tk) hd₁ k₂
    refine wpAny_release (wpAny_pure ?_)
    refine rec_body hk hC hself hz flds r xs.tail (c₁.setM dx (some (.ex (dictOf es' n'))) h' tk) (fput f m fs) es' n' _ (and_r h3) (by rw [hput, List.map_append, List.append_assoc]; exact hfl) X₂ (sk _ _ hsl₁) (s₁.z _ _ hx) (upd_self ..) hE' (vput_vrs r₁ (VRs.mono s₁.z s₁.p _ hv)) ⟨ms', H', e2⟩ fun c₃ ms₃ ed₃ n₃ vd₃ R => ?_
    have e3 : evalEs Y.P B.cf r loc c₁.H = .ok ms₃ c₃.H := R.eq
    cases e2.symm.trans e3
    refine h c₃ (m :: ms') ed₃ n₃ vd₃ ⟨R.ok, fun d sd hd0 => R.st d ((sd.trans s₁).setM hd0) hd0, fun a o q => R.z a o (s₁.z a o q), he, R.mu, R.en, ?_⟩
    have := R.vr
    rw [hput, List.map_append, List.append_assoc] at this
    exact this
end
section
variable {Y : Sys} {A : Around} {l : List Env} {c : Cf} {cf : Nat → List MV → MH → RS MV} {D U : Nat}
theorem call_rec (CO : CallOk Y cf (D + 2) (U + 4)) (RO : RecOk Y cf (D + 2) (U + 4)) (hc : U + 23 < cLine) (hD : D < recursionLimit) {cf' : Nat → List MV → MH → RS MV} {f np nv ci : Nat} {k : MCls} {fd : FuncData} {body : List Stmt} {vars : List Str} {self : Str} {es : MEs} {C x dx : Addr} (hk : Y.P.cls[ci]? = some k) (hC : Y.T.cadr[ci]? = some C)
    (FA : FnAt Y.T Y.H0 f np fd body vars) (hself : vars[0]? = some self) (hs0 : (self == dbg) = false) (hz : k.flds.length ≤ 100) (hok : okRec Y.T (scOf fd vars) self k.flds es body = true) (hex : exRec Y.T k.flds es body = body)
    {a : Addr} {args : List MV} {vals : List Value} (ha : flook f Y.T.fadr = some a) (K : c.Ok Y) (hx : c.Z x = some (instObj C dx)) (hdx : c.Mu dx = some (.ex (dictOf [] 0))) (hv : VRs Y c.Z c.φ args vals) (F : FramesOk c l) (hA : At A l D U)
    (he : cf' k.init args c.H = runF Y.P cf ⟨np, nv, .record ci es⟩ args c.H) (hb : cf' k.init args c.H ≠ .bad) (R : Result → Shared → Prop) (h : ∀ c' ms es n vs, RecD Y cf' c ci k dx args c' ms es n vs → R (.ok (.ret .none)) c'.s) :
    codeAny Y.M A (.call (.ref a) ⟨.ref x :: vals, []⟩) R c.s := by
  have he : cf' k.init args c.H = if args.length + 1 = np then recM ci (evalEs Y.P cf es (.un :: args.map .val) c.H) else .bad := he
  by_cases hn : args.length + 1 = np
  · rw [if_pos hn] at he
    refine call_enter FA ha K (show (Value.ref x :: vals).length = np from (congrArg (· + 1) hv.length).trans hn) (Nat.lt_of_le_of_lt hA.d hD) fun env c₁ B => ?_
    have hu : ∀ {i}, lget (args.map LV.val ++ List.replicate 0 .un) i ≠ .un → ∃ v, args[i]? = some v ∧ lget (args.map LV.val ++ List.replicate 0 .un) i = .val v := args_get
    rw [List.replicate_zero, List.append_nil] at hu
    have X₁ : Ex (blkOf CO RO hA hc B) (.un :: args.map .val) c₁ := by
      refine ⟨fun z i hz hu' => ?_, B.k, fun e he => ?_⟩
      · cases i with
        | zero => exact absurd rfl hu'
        | succ i =>
          obtain ⟨v, e1, e2⟩ := hu (i := i) hu'
          obtain ⟨rv, e3, e4⟩ := hv.get e1
          exact ⟨rv, B.slot (i + 1) z rv (vars_at (sc_vars hz)) e3, (show lget (.un :: args.map .val) (i + 1) = .val v from e2) ▸ VR.mono B.st.z B.st.p v e4⟩
      · rcases List.mem_cons.mp he with rfl | he
        · obtain ⟨m, hm⟩ := B.own
          exact ⟨(by rw [B.V.kind]; exact fun h => nomatch h), _, m, B.fr, hm⟩
        · exact (F.step B.st) e he
    have hm : ∃ ms H', evalEs Y.P cf es (.un :: args.map .val) c₁.H = .ok ms H' := by
      rw [B.H]
      cases ee : evalEs Y.P cf es (.un :: args.map .val) c.H with
      | bad => rw [ee] at he; exact absurd he hb
      | ex => rw [ee] at he; exact absurd he hb
      | ok ms H' => exact ⟨ms, H', rfl⟩
    rw [← hex]
    refine rec_body (B := blkOf CO RO hA hc B) hk hC hs0 hz k.flds es body c₁ [] [] 0 [] hok rfl X₁ (B.slot 0 self _ hself rfl) (B.st.z _ _ hx) (B.st.keep rfl hdx) .nil rfl hm fun c' ms ed n vd r => ?_
    refine h c' ms ed n vd ⟨r.ok, fun d sd hd0 => r.st d (sd.trans B.st) hd0, fun a o q => r.z a o (B.st.z a o q), ?_, r.mu, r.en, r.vr⟩
    have e : evalEs Y.P cf es (.un :: args.map .val) c₁.H = .ok ms c'.H := r.eq
    rw [B.H] at e
    rw [he, e]; rfl
  · rw [if_neg hn] at he; exact absurd he hb
structure Tab (Y : Sys) : Prop where
  body : ∀ f np nv b, flook f Y.P.funs = some ⟨np, nv, .body b⟩ → ∃ fd body vars, FnAt Y.T Y.H0 f np fd body vars ∧ okSs Y.T (scOf fd vars) b body = true ∧ exSs Y.T b body = body
  recs : ∀ f np nv ci es, flook f Y.P.funs = some ⟨np, nv, .record ci es⟩ → ¬ NotInit Y.P f
  rbody : ∀ (ci : Nat) k, Y.P.cls[ci]? = some k → k.record = true → ∃ np nv es fd body vars self, flook k.init Y.P.funs = some ⟨np, nv, .record ci es⟩ ∧ FnAt Y.T Y.H0 k.init np fd body vars ∧ vars[0]? = some self ∧
    (self == dbg) = false ∧ k.flds.length ≤ 100 ∧ okRec Y.T (scOf fd vars) self k.flds es body = true ∧ exRec Y.T k.flds es body = body
theorem callN_succ {P : Prg} {d f : Nat} {args : List MV} {H : MH} : callN P (d + 1) f args H = match flook f P.funs with | some m => runF P (callN P d) m args H | Option.none => .bad := rfl
theorem call_all (B : Tab Y) : ∀ d D U, D + 2 * d ≤ 900 → U + 4 * d ≤ 9000 → CallOk Y (callN Y.P d) D U ∧ RecOk Y (callN Y.P d) D U
  | 0, D, U, _, _ => ⟨fun f a args vals c A l _ _ _ _ _ _ Q E g => absurd rfl g.nb, fun ci k C a x dx args vals c A l _ _ _ _ _ _ _ _ _ _ hb => absurd rfl hb⟩
  | d + 1, D, U, hD, hU => by
    obtain ⟨CO, RO⟩ := call_all B d (D + 2) (U + 4) (by omega) (by omega)
    have hc : U + 23 < cLine := by show U + 23 < 9900; omega
    have hD' : D < recursionLimit := by show D < 1000; omega
    refine ⟨fun f a args vals c A l ha hnr k hv F hA Q E g => ?_, fun ci k C a x dx args vals c A l hk hr hC ha K hx hdx hv F hA hb R h => ?_⟩
    · have g : Go Y l (VRc Y) (match flook f Y.P.funs with | some m => runF Y.P (callN Y.P d) m args c.H | Option.none => .bad) c Q E := g
      cases hf : flook f Y.P.funs with
      | none => rw [hf] at g; exact absurd rfl g.nb
      | some m =>
        rw [hf] at g
        obtain ⟨np, nv, fk⟩ := m
        cases fk with
        | body b =>
          obtain ⟨fd, body, vars, FA, hok, hex⟩ := B.body f np nv b hf
          exact call_body CO RO hc hD' FA hok hex ha k hv F hA g
        | record ci es => exact absurd hnr (B.recs f np nv ci es hf)
    · obtain ⟨np, nv, es, fd, body, vars, self, hf, FA, h0, hs0, hz, hok, hex⟩ := B.rbody ci k hk hr
      exact call_rec CO RO hc hD' hk hC FA h0 hs0 hz hok hex ha K hx hdx hv F hA (by rw [callN_succ, hf]) hb R h
end
end Mini
end
noncomputable section
namespace Mini
open PySem PySem.W PySem.Calls PyProof.Rows
section
variable (P : Prg) (T : Tie)
noncomputable def isRef (o : Option (Option Value)) (a : Addr) : Bool := o == some (some (.ref a))
noncomputable def chkG : Str × GV → Bool
  | (x, .fn f) => (flook f T.fadr).any fun a => isRef (nsIn T.K mainGlobals x) a && keepIn T.K (.ref a)
  | (x, .cls c) => (T.cadr[c]?).any fun C => isRef (nsIn T.K mainGlobals x) C && keepIn T.K (.ref C)
  | (x, .exc c) => (T.eadr[c]?).any fun C => isRef (nsIn T.K mainGlobals x) C
  | (x, .gint _ i) => (match nsIn T.K mainGlobals x with | some (some (.int j _)) => decide (j = i) | _ => false)
  | (x, .blt k) => !(x == ("__name__" : Str)) && (nsIn T.K mainGlobals x == some none && bootBuiltins x == some (bltV k))
noncomputable def chkFld (C : Addr) (f : Nat) : Bool := decide (f < T.names.length) && ((findIn T.K (.ref C) (nameOf T f)).any (noGet T.K ·) && takerIn T.K C (nameOf T f) == some none)
noncomputable def chkMeth (k : MCls) (C : Addr) (p : Nat × Nat) : Bool := decide (p.1 < T.names.length) && (!k.flds.contains p.1 && (flook p.2 T.fadr).any fun a => isRef (findIn T.K (.ref C) (nameOf T p.1)) a && (isFn T.K (.ref a) && keepIn T.K (.ref a)))
noncomputable def chkCls (k : MCls) (C : Addr) : Bool :=
  plainGet T.K C "" && (hasDictIn T.K C && (makesIn T.K C && (findIn T.K (.ref C) "__setattr__" == some (some (.builtin "object.__setattr__")) && (plainOver T.K C &&
  ((flook k.init T.fadr).any (fun a => isRef (findIn T.K (.ref C) "__init__") a && isFn T.K (.ref a)) && (k.flds.all (chkFld T C) && (decide k.flds.Nodup && k.meths.all (chkMeth T k C))))))))
noncomputable def noInit (K : Frag) (N : Addr) : Bool := match K.lookup N with
  | some ⟨_, _, .dict es _, _⟩ => es.toList.all fun e => match e.key with | .str n _ => !(n == ("__init__" : Str)) | _ => false
  | _ => false
noncomputable def tailOk (K : Frag) : Nat → List Value → Bool
  | 0, _ => false
  | n + 1, bm => bm == [.type "Exception", .type "BaseException", .type "object"] || (match bm with
    | .ref A :: tl => (match K.lookup A with | some ⟨_, _, .cls cd, _⟩ => noInit K cd.ns | _ => false) && tailOk K n tl
    | _ => false)
noncomputable def chkExc (c : Nat) (C : Addr) : Bool := match T.K.lookup C with
  | some ⟨cls, _, .cls ⟨_, _, mro, N, _, _, _, _, _, _, del⟩, sl⟩ => cls == .type "type" && (!del && (match mro, sl.toList with
    | .ref C' :: bm, [_, _, _, _, some (.builtin id), _] => C' == C && (id == "Exception.__new__" && (bm.contains (.type "BaseException") && (noInit T.K N && (tailOk T.K 8 bm &&
        (List.range T.eadr.length).all fun d => (T.eadr[d]?).any fun D => (Value.ref C :: bm).contains (.ref D) == P.sub c d))))
    | _, _ => false))
  | _ => false
noncomputable def chkRow {α β : Type} (xs : List α) (ys : List β) (f : Nat → α → β → Bool) : Bool := (List.range xs.length).all fun c => match xs[c]?, ys[c]? with | some k, some C => f c k C | _, _ => false
theorem chkRow_of {α β : Type} {xs : List α} {ys : List β} {f : Nat → α → β → Bool} (h : chkRow xs ys f = true) {c : Nat} {x : α} (e : xs[c]? = some x) : ∃ y, ys[c]? = some y ∧ f c x y = true := by
  have := List.all_eq_true.mp h c (List.mem_range.mpr (List.getElem?_eq_some_iff.mp e).1)
  rw [e] at this
  cases q : ys[c]? with
  | none => rw [q] at this; cases this
  | some y => rw [q] at this; exact ⟨y, rfl, this⟩
end
section
variable {P : Prg} {T : Tie} {H0 : Heap}
theorem noInit_of {K : Frag} {N : Addr} (X : K.In H0) (h : noInit K N = true) : ∃ mN, H0.Ns N mN ∧ mN "__init__" = none := by
  unfold noInit at h
  split at h
  · rename_i c d es n sl q
    have key : ∀ e ∈ es.toList, ∃ x t, e.key = .str x t ∧ (x == ("__init__" : Str)) = false := fun e he => by
      have := List.all_eq_true.mp h e he
      cases hk : e.key with
      | str x t => rw [hk] at this; exact ⟨x, t, rfl, not_t this⟩
      | _ => rw [hk] at this; cases this
    refine ⟨nsFind es, ⟨_, es, n, X _ _ q, rfl, fun e he => let ⟨x, t, e, _⟩ := key e (Array.mem_toList_iff.mpr he); ⟨x, t, e⟩, fun _ => rfl⟩, ?_⟩
    unfold nsFind findBy
    rw [Array.find?_eq_none.mpr fun e he hi => by
      obtain ⟨x, t, e, f⟩ := key e (Array.mem_toList_iff.mpr he)
      rw [e] at hi
      exact nomatch f.symm.trans hi]
    rfl
  · cases h
theorem tailOk_of {K : Frag} (X : K.In H0) : ∀ (n : Nat) (bm : List Value), tailOk K n bm = true → OwnTail H0 [.type "Exception", .type "BaseException", .type "object"] bm
  | 0, _, h => nomatch h
  | n + 1, bm, h => by
    unfold tailOk at h
    rcases or_of h with h | h
    · rw [beq_iff_eq.mp h]; exact .base
    · split at h
      · have h1 := and_l h
        split at h1
        · rename_i q
          obtain ⟨mN, e1, e2⟩ := noInit_of X h1
          exact .own (X _ _ q) e1 e2 (tailOk_of X n _ (and_r h))
        · cases h1
      · cases h
theorem exc_of (X : T.K.In H0) {c : Nat} {C : Addr} (h1 : chkExc P T c C = true) : ∃ nm q N bs bm hdct sn sub ab col dd k0 k1 k2 k3 k5 newId B initId bmB mN, ExcIn P T H0 c C nm q N bs bm hdct sn sub ab col dd k0 k1 k2 k3 k5 newId B initId bmB mN := by
  unfold chkExc at h1
  split at h1
  · rename_i cls dd nm bs mro N qn hd sn sub ab col del sl q
    have g1 := beq_iff_eq.mp (and_l h1)
    have hdel := not_t (and_l (and_r h1))
    have g3 := and_r (and_r h1)
    split at g3
    · rename_i C' bm k0 k1 k2 k3 id k5 hsl
      have e1 := beq_iff_eq.mp (and_l g3)
      have g3 := and_r g3
      have e2 := beq_iff_eq.mp (and_l g3)
      have g3 := and_r g3
      have g4 := and_r g3
      have g5 := and_r g4
      subst e1; subst e2; subst g1; subst hdel
      have hs : sl = #[k0, k1, k2, k3, some (.builtin "Exception.__new__"), k5] := Array.toList_inj.mp hsl
      subst hs
      obtain ⟨mN, n1, n2⟩ := noInit_of X (and_l g4)
      refine ⟨nm, qn, N, bs, bm, hd, sn, sub, ab, col, dd, k0, k1, k2, k3, k5, "Exception.__new__", "Exception", "Exception.__init__", _, mN, X _ _ q, n1, n2, tailOk_of X 8 bm (and_l g5), PySem.F.excBase_Exception, and_l g3, fun d D hD => ?_⟩
      have h2 := List.all_eq_true.mp (and_r g5) d (List.mem_range.mpr (List.getElem?_eq_some_iff.mp hD).1)
      rw [hD] at h2
      exact beq_iff_eq.mp h2
    · cases g3
  · cases h1
theorem flook_mem {α : Type} {f : Nat} {v : α} : ∀ {l : List (Nat × α)}, flook f l = some v → (f, v) ∈ l
  | (g, w) :: r, h => by
    unfold flook at h
    by_cases q : g = f
    · rw [if_pos q] at h; cases h; rw [q]; exact .head _
    · rw [if_neg q] at h; exact .tail _ (flook_mem h)
theorem ref_of {o : Option (Option Value)} {a : Addr} (h : isRef o a = true) : o = some (some (.ref a)) := beq_iff_eq.mp h
theorem clsOk_of {k : MCls} {C : Addr} (h : chkCls T k C = true) : ClsOk T k C := by
  have h2 := and_r h
  have h3 := and_r h2
  have h4 := and_r h3
  have h5 := and_r h4
  have h6 := and_r h5
  have h7 := and_r h6
  have h8 := and_r h7
  refine ⟨and_l h, and_l h2, and_l h3, beq_iff_eq.mp (and_l h4), and_l h5, ?_, fun f hf => ?_, of_decide_eq_true (and_l h8), fun m f hm => ?_⟩
  · obtain ⟨a, e, q⟩ := any_some (and_l h6)
    exact ⟨a, e, ref_of (and_l q), and_r q⟩
  · have g := List.all_eq_true.mp (and_l h7) f hf
    have g2 := and_r g
    obtain ⟨a, e, q⟩ := any_some (and_l g2)
    exact ⟨of_decide_eq_true (and_l g), ⟨a, e, q⟩, beq_iff_eq.mp (and_r g2)⟩
  · have g := List.all_eq_true.mp (and_r h8) (m, f) (flook_mem hm)
    have g2 := and_r g
    obtain ⟨a, e, q⟩ := any_some (and_r g2)
    exact ⟨of_decide_eq_true (and_l g), (fun hm => nomatch (not_t (and_l g2)).symm.trans (List.contains_iff_mem.mpr hm)), a, e, ref_of (and_l q), and_l (and_r q), and_r (and_r q)⟩
end
noncomputable def fnShape (T : Tie) (np : Nat) (vars : List Str) (fd : FuncData) : Bool :=
  codeIn T.K fd.code fd.qualname && (fd.closure.isEmpty && (decide (fd.globals = mainGlobals) && (decide (fd.builtins = builtinsNs) && (fd.scope.kind == .function && (!fd.scope.isCoroutine && (!fd.scope.isGenerator &&
  (fd.params.posonlyargs.isEmpty && (fd.params.kwonlyargs.isEmpty && (fd.params.vararg.isNone && (fd.params.kwarg.isNone && (fd.defaults == .none && (fd.params.args.map (·.arg) == vars.take np && (decide (np ≤ vars.length) && (decide vars.Nodup &&
  (fd.scope.names.all (fun p => !(p.2 == .free)) && (vars.take np).all (fun x => fd.scope.names.lookup x == some .local || fd.scope.names.lookup x == some .cell))))))))))))))))
noncomputable def fnAt (T : Tie) (f : Nat) : Option (FuncData × List Stmt) := (flook f T.fadr).bind fun a => match T.K.lookup a with
  | some ⟨_, _, .func fd, _⟩ => (match fd.body with | .stmts body => some (fd, body) | _ => none)
  | _ => none
noncomputable def okFn (P : Prg) (T : Tie) (vars : List Str) (fd : FuncData) (body : List Stmt) (m : MF) : Bool := match m.fk with
  | .body b => okSs T (scOf fd vars) b body
  | .record ci es => (P.cls[ci]?).any fun k => (vars.head?).any fun self => k.record && (!(self == dbg) && (decide (k.flds.length ≤ 100) && okRec T (scOf fd vars) self k.flds es body))
noncomputable def exFn (P : Prg) (T : Tie) (m : MF) (body : List Stmt) : List Stmt := match m.fk with
  | .body b => exSs T b body
  | .record ci es => match P.cls[ci]? with | some k => exRec T k.flds es body | none => []
noncomputable def chkFn (P : Prg) (T : Tie) (vars : List Str) (p : Nat × MF) : Bool := (fnAt T p.1).any fun q => fnShape T p.2.npar vars q.1 && okFn P T vars q.1 q.2 p.2
noncomputable def bodyOf (T : Tie) (f : Nat) : List Stmt := match fnAt T f with | some q => q.2 | none => []
noncomputable def notInit (P : Prg) (f : Nat) : Bool := P.cls.all fun k => !k.record || !(k.init == f)
noncomputable def apart (P : Prg) (gl : List (Str × GV)) : Bool := P.cls.all (fun k' => (k'.record || notInit P k'.init) && k'.meths.all fun p => notInit P p.2) && (gl.all (fun p => match p.2 with | .fn f => notInit P f | _ => true) &&
  (P.funs.all (fun p => match p.2.fk with | .record ci _ => (P.cls[ci]?).any fun k => k.record && (k.init == p.1) | _ => true) && chkRow P.cls P.cls (fun ci k _ => !k.record || (flook k.init P.funs).any fun m => match m.fk with | .record cj _ => decide (cj = ci) | _ => false)))
noncomputable def chkAll (P : Prg) (T : Tie) (vs : Nat → List Str) : Bool := T.gl.all (chkG T) && (chkRow P.cls T.cadr (fun _ k C => chkCls T k C) && (chkRow T.eadr T.eadr (fun c _ C => chkExc P T c C) && P.funs.all fun p => chkFn P T (vs p.1) p))
section
variable {P : Prg} {T : Tie} {H0 : Heap}
theorem notInit_of {f : Nat} (h : notInit P f = true) : NotInit P f := fun ci k e hr q => by
  have := List.all_eq_true.mp h k (List.mem_of_getElem? e)
  rw [hr, q, beq_self_eq_true] at this
  cases this
theorem fnShape_of (X : T.K.In H0) {f np : Nat} {vars : List Str} {fd : FuncData} {body : List Stmt} (hf : fnAt T f = some (fd, body)) (h : fnShape T np vars fd = true) : FnAt T H0 f np fd body vars := by
  obtain ⟨a, ha, hf⟩ := of_bind hf
  split at hf
  · rename_i c d fd' sl hk
    split at hf
    · rename_i body' hb
      cases hf
      have h2 := and_r h
      have h3 := and_r h2
      have h4 := and_r h3
      have h5 := and_r h4
      have h6 := and_r h5
      have h7 := and_r h6
      have h8 := and_r h7
      have h9 := and_r h8
      have h10 := and_r h9
      have h11 := and_r h10
      have h12 := and_r h11
      have h13 := and_r h12
      have h14 := and_r h13
      have h15 := and_r h14
      have h16 := and_r h15
      refine ⟨⟨a, _, ha, X _ _ hk, rfl⟩, hb, codeRec_of X (and_l h), List.isEmpty_iff.mp (and_l h2), of_decide_eq_true (and_l h3), of_decide_eq_true (and_l h4), beq_iff_eq.mp (and_l h5), not_t (and_l h6), not_t (and_l h7), List.isEmpty_iff.mp (and_l h8), List.isEmpty_iff.mp (and_l h9),
        Option.isNone_iff_eq_none.mp (and_l h10), Option.isNone_iff_eq_none.mp (and_l h11), beq_iff_eq.mp (and_l h12), beq_iff_eq.mp (and_l h13), of_decide_eq_true (and_l h14), of_decide_eq_true (and_l h15), fun p hp e => ?_, fun x hx => ?_⟩
      · have := List.all_eq_true.mp (and_l h16) p hp
        rw [e] at this; cases this
      · exact (or_of (List.all_eq_true.mp (and_r h16) x hx)).imp beq_iff_eq.mp beq_iff_eq.mp
    · cases hf
  · cases hf
theorem zip_all {α β : Type} {g : α → β} {e : α → β → β} : ∀ {l : List α}, (l.zip (l.map g)).map (fun q => e q.1 q.2) = l.map g → ∀ p ∈ l, e p (g p) = g p
  | x :: l, h, p, hp => by
    have h1 : e x (g x) = g x := (List.cons.inj h).1
    rcases List.mem_cons.mp hp with rfl | hp
    · exact h1
    · exact zip_all (List.cons.inj h).2 p hp
end
structure Shown (P : Prg) (T : Tie) (vs : Nat → List Str) (B0 : List (List Stmt)) : Prop where
  chk : chkAll P T vs = true
  bodies : P.funs.map (fun p => bodyOf T p.1) = B0
  ex : (P.funs.zip B0).map (fun q => exFn P T q.1.2 q.2) = B0
  apart : apart P T.gl = true
  nd : decide T.names.Nodup = true
theorem gint_of {T : Tie} {x : Str} {n : Nat} {i : Int} (h : chkG T (x, .gint n i) = true) : ∃ t, nsIn T.K mainGlobals x = some (some (.int i t)) := by
  have h : (match nsIn T.K mainGlobals x with | some (some (.int j _)) => decide (j = i) | _ => false) = true := h
  split at h
  · rename_i j t q; cases of_decide_eq_true h; exact ⟨t, q⟩
  · cases h
theorem tied_of {P : Prg} {T : Tie} {H0 : Heap} {vs : Nat → List Str} {B0 : List (List Stmt)} (S : Shown P T vs B0) (X : T.K.In H0) (hng : ∃ mg mb, H0.Ns mainGlobals mg ∧ H0.Ns builtinsNs mb ∧ ∀ x : Str, x ≠ "__name__" → mb x = bootBuiltins x) (hnl : H0.NoLimit) : Tied P T H0 := by
  have c2 := and_r S.chk
  have g : ∀ {x v}, T.gl.lookup x = some v → chkG T (x, v) = true := fun e => List.all_eq_true.mp (and_l S.chk) _ (lookup_mem e)
  refine ⟨X, hng, hnl, fun x f e => ?_, fun x f e => ?_, fun x f e => ?_, fun x n i e => gint_of (g e), fun x k e => ?_, of_decide_eq_true S.nd, fun c k e => ?_⟩
  · obtain ⟨a, q, h⟩ := any_some (g e); exact ⟨a, q, ref_of (and_l h), and_r h⟩
  · obtain ⟨a, q, h⟩ := any_some (g e); exact ⟨a, q, ref_of (and_l h), and_r h⟩
  · obtain ⟨a, q, h⟩ := any_some (g e); exact ⟨a, q, ref_of h⟩
  · have h := g e
    exact ⟨beq_eq_false_iff_ne.mp (not_t (and_l h)), beq_iff_eq.mp (and_l (and_r h)), beq_iff_eq.mp (and_r (and_r h))⟩
  · obtain ⟨C, q, h⟩ := chkRow_of (and_l c2) e; exact ⟨C, q, clsOk_of h⟩
noncomputable def sysOf (prog : Program) (w : World) {P : Prg} {T : Tie} {H0 : Heap} {vs : Nat → List Str} {B0 : List (List Stmt)} (S : Shown P T vs B0) (X : T.K.In H0) (hng : ∃ mg mb, H0.Ns mainGlobals mg ∧ H0.Ns builtinsNs mb ∧ ∀ x : Str, x ≠ "__name__" → mb x = bootBuiltins x) (hnl : H0.NoLimit) (hs : ∀ n, T.hs n = PyData.keyHash w.params n) : Sys :=
  have c2 := and_r S.chk
  have c3 := and_r c2
  have a2 := and_r S.apart
  { prog, w, P, T, H0, hs, X := tied_of S X hng hnl
    EX := fun c C e => let ⟨_, q, h⟩ := chkRow_of (and_l c3) e; exc_of X (by cases e.symm.trans q; exact h)
    recs := fun cj k' e hr => notInit_of ((or_of (and_l (List.all_eq_true.mp (and_l S.apart) k' (List.mem_of_getElem? e)))).resolve_left fun q => nomatch hr.symm.trans q)
    rmeth := fun cj k' m f e h => notInit_of (List.all_eq_true.mp (and_r (List.all_eq_true.mp (and_l S.apart) k' (List.mem_of_getElem? e))) _ (flook_mem h))
    rfun := fun x f e => notInit_of (List.all_eq_true.mp (and_l a2) _ (lookup_mem e)) }
section
variable {P : Prg} {T : Tie} {H0 : Heap} {vs : Nat → List Str} {B0 : List (List Stmt)} {prog : Program} {w : World}
theorem tab_of (S : Shown P T vs B0) (X : T.K.In H0) (hng : ∃ mg mb, H0.Ns mainGlobals mg ∧ H0.Ns builtinsNs mb ∧ ∀ x : Str, x ≠ "__name__" → mb x = bootBuiltins x) (hnl : H0.NoLimit) (hs : ∀ n, T.hs n = PyData.keyHash w.params n) : Tab (sysOf prog w S X hng hnl hs) := by
  have c4 := and_r (and_r (and_r S.chk))
  have a3 := and_r (and_r S.apart)
  have hex : ∀ p ∈ P.funs, exFn P T p.2 (bodyOf T p.1) = bodyOf T p.1 := zip_all (g := fun p : Nat × MF => bodyOf T p.1) (e := fun (p : Nat × MF) b => exFn P T p.2 b) (by rw [S.bodies]; exact S.ex)
  have key : ∀ {f m}, flook f P.funs = some m → ∃ fd body, FnAt T H0 f m.npar fd body (vs f) ∧ okFn P T (vs f) fd body m = true ∧ exFn P T m body = body := fun {f m} e => by
    obtain ⟨⟨fd, body⟩, h1, h2⟩ := any_some (List.all_eq_true.mp c4 (f, m) (flook_mem e))
    have h3 := hex (f, m) (flook_mem e)
    unfold bodyOf at h3
    rw [show fnAt T (f, m).1 = _ from h1] at h3
    exact ⟨fd, body, fnShape_of X h1 (and_l h2), and_r h2, h3⟩
  refine ⟨fun f np nv b e => ?_, fun f np nv ci es e hn => ?_, fun ci k hk hrec => ?_⟩
  · obtain ⟨fd, body, FA, h1, h2⟩ := key e
    exact ⟨fd, body, vs f, FA, h1, h2⟩
  · have h := List.all_eq_true.mp (and_l a3) _ (flook_mem e)
    obtain ⟨k, hk, h⟩ := any_some h
    exact hn ci k hk (and_l h) (beq_iff_eq.mp (and_r h))
  · obtain ⟨_, _, h⟩ := chkRow_of (and_r a3) hk
    obtain ⟨⟨np, nv, fk⟩, hm, h⟩ := any_some ((or_of h).resolve_left fun q => nomatch hrec.symm.trans (not_t q))
    cases fk with
    | body => cases h
    | record cj es =>
      cases of_decide_eq_true h
      obtain ⟨fd, body, FA, h1, h2⟩ := key hm
      obtain ⟨k', hk', h1⟩ := any_some h1
      obtain ⟨self, hself, h1⟩ := any_some h1
      cases hk.symm.trans hk'
      have g2 := and_r h1
      have h2' : (match P.cls[ci]? with | some k => exRec T k.flds es body | none => []) = body := h2
      rw [show P.cls[ci]? = some k from hk] at h2'
      exact ⟨np, nv, es, fd, body, vs k.init, self, hm, FA, (List.head?_eq_getElem? ▸ hself), not_t (and_l g2), of_decide_eq_true (and_l (and_r g2)), and_r (and_r g2), h2'⟩
end
theorem law_ends {Y : Sys} (B : Tab Y) {s₁ : Shared} (hH : Y.H0 = s₁.heap) {lf fa sl : Addr} {d : Nat} {x : Str} {vs : List Value} {ns : List Int} {H' : MH} (hf : flook lf Y.T.fadr = some fa) (hx : Y.T.gl.lookup x = some (.fn lf))
    (hg : s₁.heap.get? sl = some (listOf vs.toArray 0)) (hI : IntsAre vs ns) (hl : ns.length ≤ 1000) (hd : d ≤ 250) (hr : callN Y.P d lf [.list (ns.map .int)] [] = .ok (.bool true) H') :
    codeAny Y.M callerA (.call (.ref fa) ⟨[.ref sl], []⟩) (fun r s' => r = .ok (.ret (.bool true)) ∧ (∀ b o, s₁.heap.get? b = some o → s'.heap.get? b = some o) ∧ s'.os = s₁.os ∧ s'.gens = s₁.gens) s₁ := by
  let c : Cf := { Z := s₁.heap.get?, Mu := fun _ => none, φ := [], H := [], s := s₁ }
  have K : c.Ok Y := ⟨⟨fun _ _ e => e, (fun _ _ e => nomatch e), (fun _ _ e => nomatch e)⟩, ⟨rfl, (fun i o e => by cases (List.getElem?_nil (i := i)).symm.trans e), .nil⟩, hH ▸ ZLe.refl⟩
  obtain ⟨CO, _⟩ := call_all B d 301 4 (by omega) (by omega)
  have hv : VRs Y c.Z c.φ [.list (ns.map .int)] [.ref sl] := ⟨_, [], rfl, ⟨sl, vs, 0, rfl, hg, ints_vrs hI, by rw [List.length_map]; exact Nat.le_trans hl (by decide)⟩, rfl⟩
  refine codeAny_mono (CO lf fa _ _ c callerA [] hf (Y.rfun x lf hx) K hv (fun _ h => nomatch h) ⟨rfl, rfl, by decide, by decide⟩ (fun v s' => v = .bool true ∧ (∀ b o, s₁.heap.get? b = some o → s'.heap.get? b = some o) ∧ s'.os = s₁.os ∧ s'.gens = s₁.gens) (fun _ _ => False)
    ⟨(fun q => nomatch q.symm.trans hr), fun c' v m k s e r => ?_, fun c' k e a C B a0 _ _ e' _ => (nomatch hr.symm.trans e')⟩) fun r s' h => ?_
  · cases hr.symm.trans e
    have q : rest c'.s = rest s₁ := s.t
    exact ⟨r, fun b o e => k.inv.z _ _ (s.z _ _ e), congrArg (fun z => z.2.1) q, congrArg (fun z => z.1) q⟩
  · cases r with
    | error e => exact h.elim
    | ok f => cases f with
      | ret v => exact ⟨congrArg (fun v => Except.ok (Flow.ret v)) h.1, h.2⟩
      | _ => exact h.elim
theorem list_at {P : Params} {h : Heap} {a : Addr} {vs : List Value} {xs : List WData} (hw : Well P h (.ref a) (.list xs)) (hl : h.IsList a vs.toArray) : h.get? a = some (listOf vs.toArray 0) := by
  cases hw with
  | list e _ =>
    obtain ⟨o, ho, hc, n, hd⟩ := hl
    rw [e] at ho
    cases ho
    injection hd with h1 h2
    rw [e, ← h1]
end Mini
end
namespace R
open Mini
noncomputable def f0 : MF := ⟨1, 2, .body (.cons (.ife (.or (.cons (.cmp (.var 0) (.one .lt (.int 0))) (.cons (.cmp (.var 0) (.one .gt (.gint 0 18446744073709551615))) .nil))) (.cons (.raise 2 (.cons (.var 0) (.cons (.gint 0 18446744073709551615) .nil)))
    .nil) .nil)
    (.cons (.assign 1 (.int 1))
    (.cons (.whil 100 (.cmp (.var 0) (.one .ge (.int 128))) (.cons .bad
    (.cons (.aug 1 .add (.int 1))
    .nil)))
    (.cons (.ret (.var 1))
    .nil))))⟩
noncomputable def f1 : MF := ⟨1, 3, .body (.cons (.accNew 1 .nil)
    (.cons (.forr 2 (.sorted (.var 0)) (.cons (.ife (.or (.cons (.not (.acc 1)) (.cons (.cmp (.accLast 1) (.one .ne (.var 2))) .nil))) (.cons (.accApp 1 (.var 2))
    .nil) .nil)
    .nil))
    (.cons (.freeze 1)
    (.cons (.ret (.var 1))
    .nil))))⟩
noncomputable def f2 : MF := ⟨5, 5, .record 0 (.cons (.var 1) (.cons (.var 2) (.cons (.var 3) (.cons (.var 4) .nil))))⟩
noncomputable def f3 : MF := ⟨1, 1, .body (.cons (.ret (.tup (.cons (.attr (.var 0) 0) (.cons (.attr (.var 0) 1) (.cons (.attr (.var 0) 2) (.cons (.attr (.var 0) 3) .nil))))))
    .nil)⟩
noncomputable def f4 : MF := ⟨1, 3, .body (.cons (.assign 1 (.len (.attr (.var 0) 3)))
    (.cons (.assign 2 (.bin .add (.bin .add (.call 0 (.cons (.attr (.var 0) 0) .nil)) (.call 0 (.cons (.attr (.var 0) 1) .nil))) (.call 0 (.cons (.attr (.var 0) 2) .nil))))
    (.cons (.ret (.bin .add (.bin .add (.var 2) (.call 0 (.cons (.var 1) .nil))) (.var 1)))
    .nil)))⟩
noncomputable def f5 : MF := ⟨2, 5, .body (.cons (.assign 2 (.int 0))
    (.cons (.accNew 3 .nil)
    (.cons (.forr 4 (.over (.var 0)) (.cons (.aug 2 .add (.meth (.var 4) 27 .nil))
    (.cons (.ife (.and (.cons (.acc 3) (.cons (.cmp (.var 2) (.one .gt (.var 1))) .nil))) (.cons .brk
    .nil) .nil)
    (.cons (.accApp 3 (.var 4))
    .nil))))
    (.cons (.freeze 3)
    (.cons (.ret (.var 3))
    .nil)))))⟩
noncomputable def f6 : MF := ⟨4, 4, .record 1 (.cons (.var 1) (.cons (.var 2) (.cons (.var 3) .nil)))⟩
noncomputable def f7 : MF := ⟨1, 1, .body (.cons (.ret (.tup (.cons (.attr (.var 0) 0) (.cons (.attr (.var 0) 4) (.cons (.attr (.var 0) 5) .nil)))))
    .nil)⟩
noncomputable def f8 : MF := ⟨1, 1, .body (.cons (.ret (.and (.cons (.cmp (.attr (.var 0) 0) (.one .eq (.int 0))) (.cons (.cmp (.attr (.var 0) 4) (.one .eq (.gint 1 0))) (.cons (.cmp (.attr (.var 0) 5) (.one .eq (.int 0))) .nil)))))
    .nil)⟩
noncomputable def f9 : MF := ⟨6, 6, .record 2 (.cons (.call 1 (.cons (.var 1) .nil)) (.cons (.call 1 (.cons (.var 2) .nil)) (.cons (.call 1 (.cons (.var 3) .nil)) (.cons (.call 1 (.cons (.var 4) .nil)) (.cons (.var 5) .nil)))))⟩
noncomputable def f10 : MF := ⟨1, 1, .body (.cons (.ret (.tup (.cons (.tupleOf (.attr (.var 0) 6)) (.cons (.tupleOf (.attr (.var 0) 7)) (.cons (.tupleOf (.attr (.var 0) 8)) (.cons (.tupleOf (.attr (.var 0) 9)) (.cons (.attr (.var 0) 10) .nil)))))))
    .nil)⟩
noncomputable def f11 : MF := ⟨5, 5, .record 3 (.cons (.var 1) (.cons (.var 2) (.cons (.var 3) (.cons (.var 4) .nil))))⟩
noncomputable def f12 : MF := ⟨1, 1, .body (.cons (.ret (.tup (.cons (.attr (.var 0) 1) (.cons (.attr (.var 0) 0) (.cons (.meth (.attr (.var 0) 11) 24 .nil) (.cons (.attr (.var 0) 3) .nil))))))
    .nil)⟩
noncomputable def f13 : MF := ⟨1, 1, .body (.cons (.ret (.cmp (.attr (.var 0) 1) (.one .eq (.int 0))))
    .nil)⟩
noncomputable def f14 : MF := ⟨2, 3, .body (.cons (.assign 2 (.int 0))
    (.cons (.ife (.cmp (.len (.attr (.var 1) 6)) (.one .gt (.int 0))) (.cons (.assign 2 (.int 1))
    .nil) .nil)
    (.cons (.setAttr (.var 0) 12 (.new 1 (.cons (.var 2) (.cons (.int 0) (.cons (.var 2) .nil)))))
    (.cons (.setAttr (.var 0) 11 (.var 1))
    (.cons (.setAttr (.var 0) 13 (.new 3 (.cons (.var 2) (.cons (.var 2) (.cons (.var 1) (.cons .bnil .nil))))))
    (.cons (.setAttr (.var 0) 14 (.var 2))
    (.cons (.setAttr (.var 0) 15 (.var 2))
    (.cons (.setAttr (.var 0) 16 (.list .nil))
    .nil))))))))⟩
noncomputable def f15 : MF := ⟨1, 1, .body (.cons (.ret (.bin .add (.attr (.var 0) 14) (.int 1)))
    .nil)⟩
noncomputable def f16 : MF := ⟨1, 1, .body (.cons (.ret (.bin .add (.attr (.var 0) 14) (.len (.attr (.var 0) 16))))
    .nil)⟩
noncomputable def f17 : MF := ⟨4, 5, .body (.cons (.ife (.cmp (.var 1) (.one .le (.attr (.var 0) 14))) (.cons (.raise 4 (.cons (.var 1) (.cons (.attr (.var 0) 14) .nil)))
    .nil) .nil)
    (.cons (.ife (.cmp (.var 2) (.one .gt (.bin .add (.meth (.var 0) 32 .nil) (.int 1)))) (.cons (.raise 5 (.cons (.var 2) (.cons (.meth (.var 0) 32 .nil) .nil)))
    .nil) .nil)
    (.cons (.ife (.cmp (.var 2) (.one .le (.var 1))) (.cons (.ret (.list .nil))
    .nil) .nil)
    (.cons (.assign 4 (.meth (.var 0) 31 .nil))
    (.cons (.ret (.call 5 (.cons (.sliceLU (.attr (.var 0) 16) (.bin .sub (.var 1) (.var 4)) (.bin .sub (.var 2) (.var 4))) (.cons (.var 3) .nil))))
    .nil)))))⟩
noncomputable def f18 : MF := ⟨2, 2, .body (.cons (.ife (.cmp (.var 1) (.one .lt (.attr (.var 0) 14))) (.cons (.raise 4 (.cons (.var 1) (.cons (.attr (.var 0) 14) .nil)))
    .nil) .nil)
    (.cons (.ife (.cmp (.var 1) (.one .gt (.meth (.var 0) 32 .nil))) (.cons (.raise 5 (.cons (.var 1) (.cons (.meth (.var 0) 32 .nil) .nil)))
    .nil) .nil)
    (.cons (.ife (.cmp (.var 1) (.one .eq (.attr (.var 0) 14))) (.cons (.ret (.attr (.var 0) 15))
    .nil) .nil)
    (.cons (.ret (.attr (.idx (.attr (.var 0) 16) (.bin .sub (.var 1) (.meth (.var 0) 31 .nil))) 0))
    .nil))))⟩
noncomputable def f19 : MF := ⟨2, 5, .body (.cons (.ife (.cmp (.len (.var 1)) (.one .eq (.int 0))) (.cons (.ret .none)
    .nil) .nil)
    (.cons (.assign 2 (.attr (.idx (.var 1) (.int 0)) 1))
    (.cons (.forr 3 (.range1 (.len (.var 1))) (.cons (.ife (.cmp (.attr (.idx (.var 1) (.var 3)) 1) (.one .ne (.bin .add (.var 2) (.var 3)))) (.cons (.raise 7 (.cons (.attr (.idx (.var 1) (.var 3)) 1) (.cons (.bin .add (.var 2) (.var 3)) .nil)))
    .nil) .nil)
    .nil))
    (.cons (.assign 4 (.meth (.var 0) 31 .nil))
    (.cons (.ife (.cmp (.bin .sub (.bin .add (.var 2) (.len (.var 1))) (.int 1)) (.one .lt (.var 4))) (.cons (.ret .none)
    .nil) .nil)
    (.cons (.ife (.cmp (.var 2) (.one .gt (.bin .add (.meth (.var 0) 32 .nil) (.int 1)))) (.cons (.raise 7 (.cons (.var 2) (.cons (.meth (.var 0) 32 .nil) .nil)))
    .nil) .nil)
    (.cons (.ife (.cmp (.var 2) (.one .lt (.var 4))) (.cons (.assign 1 (.sliceL (.var 1) (.bin .sub (.var 4) (.var 2))))
    (.cons (.assign 2 (.var 4))
    .nil)) .nil)
    (.cons (.setAttr (.var 0) 16 (.bin .add (.sliceU (.attr (.var 0) 16) (.bin .sub (.var 2) (.var 4))) (.var 1)))
    .nil))))))))⟩
noncomputable def f20 : MF := ⟨2, 3, .body (.cons (.ife (.cmp (.var 1) (.one .le (.attr (.var 0) 14))) (.cons (.raise 4 (.cons (.var 1) (.cons (.attr (.var 0) 14) .nil)))
    .nil) .nil)
    (.cons (.ife (.cmp (.var 1) (.one .gt (.meth (.var 0) 32 .nil))) (.cons (.raise 9 (.cons (.var 1) (.cons (.meth (.var 0) 32 .nil) .nil)))
    .nil) .nil)
    (.cons (.assign 2 (.meth (.var 0) 34 (.cons (.var 1) .nil)))
    (.cons (.setAttr (.var 0) 16 (.sliceL (.attr (.var 0) 16) (.bin .sub (.var 1) (.attr (.var 0) 14))))
    (.cons (.setAttr (.var 0) 14 (.var 1))
    (.cons (.setAttr (.var 0) 15 (.var 2))
    .nil))))))⟩
noncomputable def f21 : MF := ⟨1, 3, .body (.cons (.accNew 1 .nil)
    (.cons (.forr 2 (.over (.attr (.var 0) 16)) (.cons (.accApp 1 (.meth (.var 2) 24 .nil))
    .nil))
    (.cons (.freeze 1)
    (.cons (.ret (.tup (.cons (.meth (.attr (.var 0) 12) 24 .nil) (.cons (.attr (.var 0) 14) (.cons (.attr (.var 0) 15) (.cons (.tupleOf (.var 1)) (.cons (.meth (.attr (.var 0) 13) 24 .nil) .nil)))))))
    .nil))))⟩
noncomputable def f22 : MF := ⟨2, 2, .body (.cons (.setAttr (.var 0) 17 .none)
    (.cons (.setAttr (.var 0) 16 (.list .nil))
    (.cons (.setAttr (.var 0) 18 (.var 1))
    .nil)))⟩
noncomputable def f23 : MF := ⟨1, 1, .body (.cons (.ife (.notNone (.attr (.var 0) 17)) (.cons (.ret (.bin .add (.attr (.attr (.var 0) 17) 1) (.int 1)))
    .nil) .nil)
    (.cons (.ret .none)
    .nil))⟩
noncomputable def f24 : MF := ⟨1, 1, .body (.cons (.ife (.cmp (.len (.attr (.var 0) 16)) (.one .gt (.int 0))) (.cons (.ret (.bin .sub (.bin .add (.attr (.var 0) 18) (.len (.attr (.var 0) 16))) (.int 1)))
    .nil) .nil)
    (.cons (.ife (.notNone (.attr (.var 0) 17)) (.cons (.ret (.bin .sub (.attr (.var 0) 18) (.int 1)))
    .nil) .nil)
    (.cons (.ret .none)
    .nil)))⟩
noncomputable def f25 : MF := ⟨2, 2, .body (.cons (.ife (.cmp (.var 1) (.one .lt (.attr (.var 0) 18))) (.cons (.ife (.and (.cons (.notNone (.attr (.var 0) 17)) (.cons (.cmp (.attr (.attr (.var 0) 17) 1) (.one .eq (.var 1))) .nil))) (.cons (.ret (.attr (.attr (.var 0) 17) 0))
    .nil) .nil)
    (.cons (.ret .none)
    .nil)) .nil)
    (.cons (.ife (.cmp (.var 1) (.one .ge (.bin .add (.attr (.var 0) 18) (.len (.attr (.var 0) 16))))) (.cons (.ret .none)
    .nil) .nil)
    (.cons (.ret (.attr (.idx (.attr (.var 0) 16) (.bin .sub (.var 1) (.attr (.var 0) 18))) 0))
    .nil)))⟩
noncomputable def f26 : MF := ⟨2, 2, .body (.cons (.setAttr (.var 0) 18 (.bin .add (.attr (.var 1) 1) (.int 1)))
    (.cons (.setAttr (.var 0) 16 (.list .nil))
    (.cons (.setAttr (.var 0) 17 (.var 1))
    .nil)))⟩
noncomputable def f27 : MF := ⟨2, 3, .body (.cons (.ife (.cmp (.len (.var 1)) (.one .eq (.int 0))) (.cons (.ret .none)
    .nil) .nil)
    (.cons (.assign 2 (.attr (.idx (.var 1) (.int 0)) 1))
    (.cons (.ife (.cmp (.var 2) (.one .eq (.bin .add (.attr (.var 0) 18) (.len (.attr (.var 0) 16))))) (.cons (.setAttr (.var 0) 16 (.bin .add (.attr (.var 0) 16) (.var 1)))
    .nil) (.cons (.ife (.cmp (.var 2) (.one .le (.attr (.var 0) 18))) (.cons (.setAttr (.var 0) 18 (.var 2))
    (.cons (.setAttr (.var 0) 16 (.sliceA (.var 1)))
    .nil)) (.cons (.ife (.cmp (.var 2) (.one .lt (.bin .add (.attr (.var 0) 18) (.len (.attr (.var 0) 16))))) (.cons (.setAttr (.var 0) 16 (.bin .add (.meth (.var 0) 47 (.cons (.attr (.var 0) 18) (.cons (.var 2) .nil))) (.var 1)))
    .nil) (.cons (.raise 9 (.cons (.var 2) (.cons (.bin .sub (.bin .add (.attr (.var 0) 18) (.len (.attr (.var 0) 16))) (.int 1)) .nil)))
    .nil))
    .nil))
    .nil))
    .nil)))⟩
noncomputable def f28 : MF := ⟨3, 3, .body (.cons (.ife (.cmp (.var 1) (.one .gt (.var 2))) (.cons (.raise 9 (.cons (.var 1) (.cons (.var 2) .nil)))
    .nil) .nil)
    (.cons (.ife (.or (.cons (.cmp (.var 1) (.one .lt (.attr (.var 0) 18))) (.cons (.cmp (.var 2) (.one .gt (.bin .add (.attr (.var 0) 18) (.len (.attr (.var 0) 16))))) .nil))) (.cons (.raise 9 (.cons (.var 1) (.cons (.var 2) (.cons (.attr (.var 0) 18) (.cons (.bin .add (.attr (.var 0) 18) (.len (.attr (.var 0) 16))) .nil)))))
    .nil) .nil)
    (.cons (.ret (.sliceLU (.attr (.var 0) 16) (.bin .sub (.var 1) (.attr (.var 0) 18)) (.bin .sub (.var 2) (.attr (.var 0) 18))))
    .nil)))⟩
noncomputable def f29 : MF := ⟨1, 4, .body (.cons (.accNew 1 .nil)
    (.cons (.forr 2 (.over (.attr (.var 0) 16)) (.cons (.accApp 1 (.meth (.var 2) 24 .nil))
    .nil))
    (.cons (.assign 3 .none)
    (.cons (.ife (.notNone (.attr (.var 0) 17)) (.cons (.assign 3 (.meth (.attr (.var 0) 17) 24 .nil))
    .nil) .nil)
    (.cons (.freeze 1)
    (.cons (.ret (.tup (.cons (.attr (.var 0) 18) (.cons (.tupleOf (.var 1)) (.cons (.var 3) .nil)))))
    .nil))))))⟩
noncomputable def f30 : MF := ⟨3, 4, .body (.cons (.setAttr (.var 0) 19 (.var 1))
    (.cons (.setAttr (.var 0) 20 (.var 2))
    (.cons (.assign 3 (.meth (.var 1) 31 .nil))
    (.cons (.setAttr (.var 0) 21 (.new 5 (.cons (.bin .add (.meth (.var 1) 32 .nil) (.int 1)) .nil)))
    (.cons (.setAttr (.var 0) 22 (.bin .sub (.var 3) (.int 1)))
    (.cons (.setAttr (.var 0) 23 (.bin .sub (.var 3) (.int 1)))
    .nil))))))⟩
noncomputable def f31 : MF := ⟨1, 2, .body (.cons (.assign 1 (.meth (.attr (.var 0) 21) 40 .nil))
    (.cons (.ife (.notNone (.var 1)) (.cons (.ret (.var 1))
    .nil) .nil)
    (.cons (.ret (.meth (.attr (.var 0) 19) 31 .nil))
    .nil)))⟩
noncomputable def f32 : MF := ⟨1, 2, .body (.cons (.assign 1 (.meth (.attr (.var 0) 21) 41 .nil))
    (.cons (.ife (.notNone (.var 1)) (.cons (.ret (.var 1))
    .nil) .nil)
    (.cons (.ret (.meth (.attr (.var 0) 19) 32 .nil))
    .nil)))⟩
noncomputable def f33 : MF := ⟨1, 1, .body (.cons (.tryy (.cons (.ret (.meth (.var 0) 0 (.cons (.meth (.var 0) 32 .nil) .nil)))
    .nil) (.cons [4, 5] [.bad] .nil))
    .nil)⟩
noncomputable def f34 : MF := ⟨2, 3, .body (.cons (.assign 2 (.meth (.attr (.var 0) 21) 42 (.cons (.var 1) .nil)))
    (.cons (.ife (.notNone (.var 2)) (.cons (.ret (.var 2))
    .nil) .nil)
    (.cons (.ife (.cmp (.bin .add (.var 1) (.int 1)) (.one .lt (.meth (.var 0) 31 .nil))) (.cons (.raise 4 (.cons (.var 1) (.cons (.meth (.var 0) 31 .nil) .nil)))
    .nil) .nil)
    (.cons (.ife (.cmp (.var 1) (.one .gt (.meth (.var 0) 32 .nil))) (.cons (.raise 5 (.cons (.var 1) (.cons (.meth (.var 0) 32 .nil) .nil)))
    .nil) .nil)
    (.cons (.ret (.meth (.attr (.var 0) 19) 34 (.cons (.var 1) .nil)))
    .nil)))))⟩
noncomputable def f35 : MF := ⟨3, 3, .body (.cons (.tryy (.cons (.ret (.cmp (.meth (.var 0) 0 (.cons (.var 1) .nil)) (.one .eq (.var 2))))
    .nil) (.cons [4, 5] [.ret .ff] .nil))
    .nil)⟩
noncomputable def f36 : MF := ⟨5, 8, .body (.cons (.ife (.not (.e (.meth (.var 0) 50 (.cons (.var 1) (.cons (.var 2) .nil))))) (.cons (.ret .none)
    .nil) .nil)
    (.cons (.forr 5 (.range1 (.len (.var 4))) (.cons (.ife (.cmp (.attr (.idx (.var 4) (.var 5)) 1) (.one .ne (.bin .add (.bin .add (.var 1) (.int 1)) (.var 5)))) (.cons (.raise 7 (.cons (.attr (.idx (.var 4) (.var 5)) 1) (.cons (.bin .add (.bin .add (.var 1) (.int 1)) (.var 5)) .nil)))
    .nil) .nil)
    .nil))
    (.cons (.assign 6 (.bin .add (.var 1) (.len (.var 4))))
    (.cons (.assign 7 (.meth (.var 0) 53 (.cons (.var 4) .nil)))
    (.cons (.ife (.cmp (.var 7) (.one .ne (.int 0))) (.cons (.ife (.cmp (.var 7) (.one .le (.attr (.var 0) 22))) (.cons (.raise 9 (.cons (.var 7) (.cons (.attr (.var 0) 22) .nil)))
    .nil) .nil)
    (.cons (.expr (.meth (.var 0) 36 (.cons (.sliceL (.var 4) (.bin .sub (.var 7) (.bin .add (.var 1) (.int 1)))) .nil)))
    .nil)) .nil)
    (.cons (.expr (.meth (.var 0) 55 (.cons (.min2 (.var 3) (.var 6)) .nil)))
    (.cons (.ret (.var 6))
    .nil)))))))⟩
noncomputable def f37 : MF := ⟨2, 3, .body (.cons (.ife (.cmp (.len (.var 1)) (.one .eq (.int 0))) (.cons (.ret (.meth (.var 0) 32 .nil))
    .nil) .nil)
    (.cons (.assign 2 (.bin .sub (.attr (.idx (.var 1) (.int 0)) 1) (.int 1)))
    (.cons (.ife (.cmp (.var 2) (.one .lt (.attr (.var 0) 22))) (.cons (.raise 9 (.cons (.var 2) (.cons (.attr (.var 0) 22) .nil)))
    .nil) .nil)
    (.cons (.ife (.cmp (.var 2) (.one .gt (.meth (.var 0) 32 .nil))) (.cons (.raise 7 (.cons (.var 2) (.cons (.meth (.var 0) 32 .nil) .nil)))
    .nil) .nil)
    (.cons (.expr (.meth (.attr (.var 0) 21) 46 (.cons (.var 1) .nil)))
    (.cons (.ret (.meth (.var 0) 32 .nil))
    .nil))))))⟩
noncomputable def f38 : MF := ⟨2, 3, .body (.cons (.forr 2 (.over (.var 1)) (.cons (.ife (.not (.e (.meth (.var 0) 50 (.cons (.attr (.var 2) 1) (.cons (.attr (.var 2) 0) .nil))))) (.cons (.ret (.attr (.var 2) 1))
    .nil) .nil)
    .nil))
    (.cons (.ret (.int 0))
    .nil))⟩
noncomputable def f39 : MF := ⟨3, 4, .body (.cons (.whil 100 (.cmp (.var 1) (.one .gt (.int 0))) (.cons (.tryy (.cons (.assign 3 (.meth (.var 0) 0 (.cons (.var 1) .nil)))
    .nil) (.cons [4, 5] [.ret (.pair (.var 1) (.int 0))] .nil))
    (.cons (.ife (.cmp (.var 3) (.one .le (.var 2))) (.cons (.ret (.tup (.cons (.var 1) (.cons (.var 3) .nil))))
    .nil) .nil)
    (.cons (.aug 1 .sub (.int 1))
    .nil))))
    (.cons (.ret (.tup (.cons (.int 0) (.cons (.int 0) .nil))))
    .nil))⟩
noncomputable def f40 : MF := ⟨2, 2, .body (.cons (.ife (.cmp (.attr (.var 1) 1) (.one .lt (.attr (.var 0) 22))) (.cons (.raise 8 (.cons (.attr (.var 1) 1) (.cons (.attr (.var 0) 22) .nil)))
    .nil) .nil)
    (.cons (.setAttr (.var 0) 22 (.attr (.var 1) 1))
    (.cons (.expr (.meth (.attr (.var 0) 21) 45 (.cons (.var 1) .nil)))
    .nil)))⟩
noncomputable def f41 : MF := ⟨2, 2, .body (.cons (.ife (.cmp (.var 1) (.one .le (.attr (.var 0) 22))) (.cons (.ret .none)
    .nil) .nil)
    (.cons (.ife (.cmp (.var 1) (.one .gt (.meth (.var 0) 32 .nil))) (.cons (.raise 9 (.cons (.var 1) (.cons (.meth (.var 0) 32 .nil) .nil)))
    .nil) .nil)
    (.cons (.setAttr (.var 0) 22 (.var 1))
    .nil)))⟩
noncomputable def f42 : MF := ⟨1, 1, .body (.cons (.ret (.sliceA (.attr (.attr (.var 0) 21) 16)))
    .nil)⟩
noncomputable def f43 : MF := ⟨1, 1, .body (.cons (.ret (.and (.cons (.notNone (.attr (.attr (.var 0) 21) 17)) (.cons (.not (.meth (.attr (.attr (.var 0) 21) 17) 28 .nil)) .nil))))
    .nil)⟩
noncomputable def f44 : MF := ⟨3, 3, .body (.cons (.ife (.cmp (.var 1) (.one .gt (.meth (.var 0) 32 .nil))) (.cons (.ret (.list .nil))
    .nil) .nil)
    (.cons (.ret (.meth (.var 0) 64 (.cons (.var 1) (.cons (.bin .add (.meth (.var 0) 32 .nil) (.int 1)) (.cons (.var 2) .nil)))))
    .nil))⟩
noncomputable def f45 : MF := ⟨1, 1, .body (.cons (.ret (.meth (.var 0) 16 (.cons (.meth (.var 0) 31 .nil) (.cons (.gint 2 18446744073709551615) .nil))))
    .nil)⟩
noncomputable def f46 : MF := ⟨4, 7, .body (.cons (.ife (.cmp (.var 1) (.one .gt (.var 2))) (.cons (.raise 9 (.cons (.var 1) (.cons (.var 2) .nil)))
    .nil) .nil)
    (.cons (.ife (.cmp (.var 1) (.one .lt (.meth (.var 0) 31 .nil))) (.cons (.raise 4 (.cons (.var 1) (.cons (.meth (.var 0) 31 .nil) .nil)))
    .nil) .nil)
    (.cons (.ife (.cmp (.var 2) (.one .gt (.bin .add (.meth (.var 0) 32 .nil) (.int 1)))) (.cons (.raise 9 (.cons (.var 2) (.cons (.meth (.var 0) 32 .nil) .nil)))
    .nil) .nil)
    (.cons (.ife (.cmp (.var 1) (.one .eq (.var 2))) (.cons (.ret (.list .nil))
    .nil) .nil)
    (.cons (.assign 4 (.attr (.attr (.var 0) 21) 18))
    (.cons (.assign 5 (.list .nil))
    (.cons (.ife (.cmp (.var 1) (.one .lt (.var 4))) (.cons (.assign 6 (.min2 (.var 2) (.var 4)))
    (.cons (.tryy (.cons (.assign 5 (.meth (.attr (.var 0) 19) 33 (.cons (.var 1) (.cons (.var 6) (.cons (.var 3) .nil)))))
    .nil) (.cons [5] [.bad] .nil))
    (.cons (.ife (.cmp (.len (.var 5)) (.one .lt (.bin .sub (.var 6) (.var 1)))) (.cons (.ret (.var 5))
    .nil) .nil)
    .nil))) .nil)
    (.cons (.ife (.cmp (.var 2) (.one .gt (.var 4))) (.cons (.assign 5 (.bin .add (.var 5) (.meth (.attr (.var 0) 21) 47 (.cons (.max2 (.var 1) (.var 4)) (.cons (.var 2) .nil)))))
    .nil) .nil)
    (.cons (.ret (.call 5 (.cons (.var 5) (.cons (.var 3) .nil))))
    .nil)))))))))⟩
noncomputable def f47 : MF := ⟨1, 1, .body (.cons (.ret (.tup (.cons (.attr (.var 0) 22) (.cons (.attr (.var 0) 23) (.cons (.meth (.attr (.var 0) 21) 24 .nil) .nil)))))
    .nil)⟩
noncomputable def cls : List MCls := [
    ⟨true, [0, 1, 2, 3], 2, [(24, 3), (27, 4)]⟩,
    ⟨true, [0, 4, 5], 6, [(24, 7), (28, 8)]⟩,
    ⟨true, [6, 7, 8, 9, 10], 9, [(24, 10)]⟩,
    ⟨true, [1, 0, 11, 3], 11, [(24, 12), (28, 13)]⟩,
    ⟨false, [12, 11, 13, 14, 15, 16], 14, [(31, 15), (32, 16), (33, 17), (34, 18), (36, 19), (39, 20), (24, 21)]⟩,
    ⟨false, [17, 16, 18], 22, [(40, 23), (41, 24), (42, 25), (45, 26), (46, 27), (47, 28), (24, 29)]⟩,
    ⟨false, [19, 20, 21, 22, 23], 30, [(31, 31), (32, 32), (48, 33), (0, 34), (50, 35), (52, 36), (36, 37), (53, 38), (54, 39), (45, 40), (55, 41), (58, 42), (59, 43), (16, 44), (63, 45), (64, 46), (24, 47)]⟩]
noncomputable def sub (a b : Nat) : Bool := a == b || ([(1, 0), (2, 1), (2, 0), (3, 0), (4, 3), (4, 0), (5, 3), (5, 0), (6, 3), (6, 0), (7, 3), (7, 0), (8, 3), (8, 0), (9, 3), (9, 0)] : List (Nat × Nat)).contains (a, b)
end R
namespace P02
open Mini
noncomputable def S (s : String) : PySem.Str := PySem.Str.ofString s
noncomputable def names : List PySem.Str := [S "term", S "index", S "kind", S "data", S "vote", S "commit", S "voters", S "learners", S "outgoing", S "learners_next", S "auto_leave", S "conf", S "hard", S "snap", S "base_index", S "base_term", S "entries", S "snapshot", S "offset", S "storage", S "max_committed", S "unstable", S "committed", S "applied", S "row", S "copy", S "payload", S "size", S "empty", S "same", S "initial_state", S "first_index", S "last_index", S "entries_between", S "term_at", S "set_hard", S "append", S "apply_snapshot", S "create_snapshot", S "compact", S "maybe_first", S "maybe_last", S "maybe_term", S "stable_to", S "stable_snap_to", S "restore", S "truncate_and_append", S "part", S "last_term", S "term_or_zero", S "match_term", S "up_to_date", S "maybe_append", S "find_conflict", S "conflict_by_term", S "commit_to", S "maybe_commit", S "applied_to", S "unstable_entries", S "pending_snapshot", S "first_unapplied", S "has_next", S "next_committed", S "all_entries", S "slice"]
noncomputable def fnames : List (Nat × PySem.Str × List PySem.Str) := [(0, S "varint_length", [S "n", S "count"]),
  (1, S "rising", [S "ids", S "out", S "nid"]),
  (2, S "Entry.__init__", [S "self", S "term", S "index", S "kind", S "data"]),
  (3, S "Entry.row", [S "self"]),
  (4, S "Entry.size", [S "self", S "length", S "head"]),
  (5, S "limit_size", [S "entries", S "n", S "total", S "kept", S "entry"]),
  (6, S "HardState.__init__", [S "self", S "term", S "vote", S "commit"]),
  (7, S "HardState.row", [S "self"]),
  (8, S "HardState.empty", [S "self"]),
  (9, S "ConfState.__init__", [S "self", S "voters", S "learners", S "outgoing", S "learners_next", S "auto_leave"]),
  (10, S "ConfState.row", [S "self"]),
  (11, S "Snapshot.__init__", [S "self", S "index", S "term", S "conf", S "data"]),
  (12, S "Snapshot.row", [S "self"]),
  (13, S "Snapshot.empty", [S "self"]),
  (14, S "MemoryStorage.__init__", [S "self", S "conf", S "begin"]),
  (15, S "MemoryStorage.first_index", [S "self"]),
  (16, S "MemoryStorage.last_index", [S "self"]),
  (17, S "MemoryStorage.entries_between", [S "self", S "lo", S "hi", S "limit", S "first"]),
  (18, S "MemoryStorage.term_at", [S "self", S "i"]),
  (19, S "MemoryStorage.append", [S "self", S "entries", S "start", S "k", S "first"]),
  (20, S "MemoryStorage.compact", [S "self", S "i", S "term"]),
  (21, S "MemoryStorage.row", [S "self", S "rows", S "e"]),
  (22, S "Unstable.__init__", [S "self", S "offset"]),
  (23, S "Unstable.maybe_first", [S "self"]),
  (24, S "Unstable.maybe_last", [S "self"]),
  (25, S "Unstable.maybe_term", [S "self", S "i"]),
  (26, S "Unstable.restore", [S "self", S "snapshot"]),
  (27, S "Unstable.truncate_and_append", [S "self", S "entries", S "after"]),
  (28, S "Unstable.part", [S "self", S "lo", S "hi"]),
  (29, S "Unstable.row", [S "self", S "rows", S "e", S "snap"]),
  (30, S "RaftLog.__init__", [S "self", S "storage", S "max_committed", S "first"]),
  (31, S "RaftLog.first_index", [S "self", S "i"]),
  (32, S "RaftLog.last_index", [S "self", S "i"]),
  (33, S "RaftLog.last_term", [S "self"]),
  (34, S "RaftLog.term", [S "self", S "i", S "known"]),
  (35, S "RaftLog.match_term", [S "self", S "i", S "t"]),
  (36, S "RaftLog.maybe_append", [S "self", S "index", S "log_term", S "committed", S "entries", S "k", S "newest", S "conflict"]),
  (37, S "RaftLog.append", [S "self", S "entries", S "before"]),
  (38, S "RaftLog.find_conflict", [S "self", S "entries", S "e"]),
  (39, S "RaftLog.conflict_by_term", [S "self", S "index", S "term", S "mine"]),
  (40, S "RaftLog.restore", [S "self", S "snapshot"]),
  (41, S "RaftLog.commit_to", [S "self", S "i"]),
  (42, S "RaftLog.unstable_entries", [S "self"]),
  (43, S "RaftLog.pending_snapshot", [S "self"]),
  (44, S "RaftLog.entries", [S "self", S "i", S "limit"]),
  (45, S "RaftLog.all_entries", [S "self"]),
  (46, S "RaftLog.slice", [S "self", S "lo", S "hi", S "limit", S "offset", S "found", S "end"]),
  (47, S "RaftLog.row", [S "self"]),
  (48, S "_law_draw", [S "nums", S "i"]),
  (49, S "_law_terms", [S "shared", S "n", S "count", S "odd", S "terms", S "term", S "k"]),
  (50, S "_law_entries", [S "terms", S "lo", S "hi"]),
  (51, S "_law_rows", [S "terms", S "lo", S "hi"]),
  (52, S "_law_log", [S "terms", S "base", S "kept", S "storage", S "log"]),
  (53, S "_law_waits", [S "log"]),
  (54, S "_law_late", [S "other", S "first", S "last", S "e", S "term", S "before", S "more", S "told"]),
  (55, S "law", [S "script", S "nums", S "x", S "agreed", S "shared", S "i", S "mine", S "theirs", S "last", S "end", S "y", S "low", S "kept", S "z", S "sure", S "base", S "guess", S "leader", S "other", S "commit", S "limit", S "refused", S "first", S "folded", S "done", S "at", S "turn", S "term", S "page", S "before", S "took", S "hint", S "hint_term", S "right", S "may", S "step", S "step_term", S "unlike", S "strange", S "count", S "wrong", S "e"])]
noncomputable def f48 : MF := ⟨2, 2, .body (.cons (.ret (.bin .add (.idx (.var 0) (.bin .mod (.var 1) (.len (.var 0)))) (.bin .mul (.int 7919) (.bin .fdiv (.var 1) (.len (.var 0))))))
    .nil)⟩
noncomputable def f49 : MF := ⟨4, 7, .body (.cons (.accCopy 4 (.var 0))
    (.cons (.assign 5 (.idx (.var 0) (.neg 1)))
    (.cons (.ife (.cmp (.bin .mod (.var 5) (.int 2)) (.one .ne (.var 3))) (.cons (.aug 5 .add (.int 1))
    .nil) .nil)
    (.cons (.forr 6 (.range1 (.var 2)) (.cons (.aug 5 .add (.bin .mul (.bin .mod (.var 1) (.int 3)) (.int 2)))
    (.cons (.assign 1 (.bin .fdiv (.var 1) (.int 3)))
    (.cons (.accApp 4 (.var 5))
    .nil))))
    (.cons (.freeze 4)
    (.cons (.ret (.var 4))
    .nil))))))⟩
noncomputable def f50 : MF := ⟨3, 4, .body (.cons (.ret (.comp (.new 0 (.cons (.idx (.var 0) (.var 3)) (.cons (.var 3) (.cons (.int 0) (.cons (.bin .mul (.bytesOf (.list (.cons (.idx (.var 0) (.var 3)) .nil))) (.bin .mod (.var 3) (.int 3))) .nil))))) 3 (.range2 (.var 1) (.var 2))))
    .nil)⟩
noncomputable def f51 : MF := ⟨3, 4, .body (.cons (.ret (.comp (.tup (.cons (.idx (.var 0) (.var 3)) (.cons (.var 3) (.cons (.int 0) (.cons (.bin .mul (.bytesOf (.list (.cons (.idx (.var 0) (.var 3)) .nil))) (.bin .mod (.var 3) (.int 3))) .nil))))) 3 (.range2 (.var 1) (.var 2))))
    .nil)⟩
noncomputable def f52 : MF := ⟨3, 5, .body (.cons (.assign 3 (.new 4 (.cons (.new 2 (.cons (.list (.cons (.int 1) .nil)) (.cons (.list .nil) (.cons (.list .nil) (.cons (.list .nil) (.cons .ff .nil)))))) .nil)))
    (.cons (.expr (.meth (.var 3) 36 (.cons (.call 50 (.cons (.var 0) (.cons (.int 2) (.cons (.bin .add (.var 2) (.int 1)) .nil)))) .nil)))
    (.cons (.ife (.cmp (.var 1) (.one .gt (.int 1))) (.cons (.expr (.meth (.var 3) 39 (.cons (.var 1) .nil)))
    .nil) .nil)
    (.cons (.ife (.cmp (.bin .add (.var 2) (.int 1)) (.one .lt (.len (.var 0)))) (.cons (.expr (.meth (.var 3) 36 (.cons (.list (.cons (.new 0 (.cons (.int 98) (.cons (.bin .add (.var 2) (.int 1)) (.cons (.int 0) (.cons .bnil .nil))))) (.cons (.new 0 (.cons (.int 98) (.cons (.bin .add (.var 2) (.int 2)) (.cons (.int 0) (.cons .bnil .nil))))) .nil))) .nil)))
    .nil) .nil)
    (.cons (.assign 4 (.new 6 (.cons (.var 3) (.cons (.gint 2 18446744073709551615) .nil))))
    (.cons (.ife (.cmp (.bin .add (.var 2) (.int 1)) (.one .lt (.len (.var 0)))) (.cons (.expr (.meth (.var 4) 36 (.cons (.call 50 (.cons (.var 0) (.cons (.bin .add (.var 2) (.int 1)) (.cons (.len (.var 0)) .nil)))) .nil)))
    .nil) .nil)
    (.cons (.ret (.var 4))
    .nil)))))))⟩
noncomputable def f53 : MF := ⟨1, 1, .body (.cons (.ret (.bin .sub (.bin .add (.meth (.var 0) 32 .nil) (.int 1)) (.len (.meth (.var 0) 58 .nil))))
    .nil)⟩
noncomputable def f54 : MF := ⟨5, 8, .body (.cons (.assign 5 (.meth (.var 0) 24 .nil))
    (.cons (.ife (.and (.cons (.notNone (.var 1)) (.cons (.cmp (.meth (.var 0) 52 (.cons (.idx (.var 1) (.int 0)) (.cons (.idx (.var 1) (.int 1)) (.cons (.int 1) (.cons (.idx (.var 1) (.int 2)) .nil))))) (.one .ne (.bin .add (.idx (.var 1) (.int 0)) (.len (.idx (.var 1) (.int 2)))))) .nil))) (.cons (.ret .ff)
    .nil) .nil)
    (.cons (.ife (.cmp (.meth (.var 0) 24 .nil) (.one .ne (.var 5))) (.cons (.ret .ff)
    .nil) .nil)
    (.cons (.forr 6 (.over (.list (.cons (.list .nil) (.cons (.list (.cons (.new 0 (.cons (.var 4) (.cons (.bin .add (.var 2) (.int 1)) (.cons (.int 0) (.cons .bnil .nil))))) .nil)) .nil)))) (.cons (.assign 7 .ff)
    (.cons (.tryy (.cons (.expr (.meth (.var 0) 52 (.cons (.var 2) (.cons (.var 4) (.cons (.int 0) (.cons (.bin .add (.var 6) (.list (.cons (.new 0 (.cons (.bin .add (.var 4) (.int 1)) (.cons (.var 3) (.cons (.int 0) (.cons .bnil .nil))))) .nil))) .nil))))))
    .nil) (.cons [7] [.assign 7 .tt] .nil))
    (.cons (.ife (.or (.cons (.not (.e (.var 7))) (.cons (.cmp (.meth (.var 0) 24 .nil) (.one .ne (.var 5))) .nil))) (.cons (.ret .ff)
    .nil) .nil)
    .nil))))
    (.cons (.ret .tt)
    .nil)))))⟩
noncomputable def f55 : MF := ⟨1, 49, .body (.cons (.assign 1 (.comp (.bin .mod (.var 42) (.int 999983)) 42 (.over (.sliceU (.var 0) (.int 8)))))
    (.cons (.ife (.cmp (.len (.var 1)) (.one .eq (.int 0))) (.cons (.assign 1 (.list (.cons (.int 44) .nil)))
    .nil) .nil)
    (.cons (.assign 2 (.call 48 (.cons (.var 1) (.cons (.int 0) .nil))))
    (.cons (.assign 3 (.bin .add (.int 1) (.bin .mod (.var 2) (.int 3))))
    (.cons (.accNew 4 (.cons (.int 0) (.cons (.int 1) .nil)))
    (.cons (.forr 5 (.range2 (.int 2) (.bin .add (.var 3) (.int 1))) (.cons (.accApp 4 (.bin .add (.accLast 4) (.bin .mod (.bin .fdiv (.bin .fdiv (.var 2) (.int 3)) (.var 5)) (.int 3))))
    .nil))
    (.cons (.freeze 4)
    (.cons (.assign 6 (.call 49 (.cons (.var 4) (.cons (.call 48 (.cons (.var 1) (.cons (.int 1) .nil))) (.cons (.bin .add (.int 1) (.bin .mod (.call 48 (.cons (.var 1) (.cons (.int 2) .nil))) (.int 4))) (.cons (.int 1) .nil))))))
    (.cons (.assign 7 (.call 49 (.cons (.var 4) (.cons (.call 48 (.cons (.var 1) (.cons (.int 3) .nil))) (.cons (.bin .mod (.call 48 (.cons (.var 1) (.cons (.int 4) .nil))) (.int 5)) (.cons (.int 0) .nil))))))
    (.cons (.assign 8 (.bin .sub (.len (.var 6)) (.int 1)))
    (.cons (.assign 9 (.bin .sub (.len (.var 7)) (.int 1)))
    (.cons (.assign 10 (.call 48 (.cons (.var 1) (.cons (.int 5) .nil))))
    (.cons (.assign 11 (.int 1))
    (.cons (.ife (.cmp (.bin .mod (.bin .fdiv (.var 10) (.int 8)) (.int 3)) (.one .eq (.int 0))) (.cons (.assign 11 (.bin .add (.int 1) (.bin .mod (.bin .fdiv (.var 10) (.int 24)) (.var 8))))
    .nil) .nil)
    (.cons (.assign 12 (.bin .add (.var 11) (.bin .mod (.bin .fdiv (.var 10) (.int 192)) (.bin .add (.bin .sub (.var 8) (.var 11)) (.int 1)))))
    (.cons (.assign 13 (.call 48 (.cons (.var 1) (.cons (.int 6) .nil))))
    (.cons (.assign 14 (.bin .add (.int 1) (.bin .mod (.var 13) (.var 3))))
    (.cons (.assign 15 (.bin .add (.int 1) (.bin .mod (.bin .fdiv (.var 13) (.int 4)) (.var 14))))
    (.cons (.assign 16 (.bin .add (.var 14) (.bin .mod (.var 10) (.bin .add (.bin .sub (.var 8) (.var 14)) (.int 1)))))
    (.cons (.assign 17 (.call 52 (.cons (.var 6) (.cons (.var 11) (.cons (.var 12) .nil)))))
    (.cons (.assign 18 (.call 52 (.cons (.var 7) (.cons (.var 15) (.cons (.bin .add (.var 15) (.bin .mod (.bin .fdiv (.var 13) (.int 16)) (.bin .add (.bin .sub (.var 9) (.var 15)) (.int 1)))) .nil)))))
    (.cons (.expr (.meth (.var 18) 55 (.cons (.var 14) .nil)))
    (.cons (.assign 19 (.bin .add (.var 11) (.bin .mod (.bin .fdiv (.var 13) (.int 128)) (.bin .add (.bin .sub (.var 8) (.var 11)) (.int 1)))))
    (.cons (.assign 20 (.bin .add (.int 9) (.bin .mod (.call 48 (.cons (.var 1) (.cons (.int 7) .nil))) (.int 20))))
    (.cons (.accNew 21 .nil)
    (.cons (.assign 22 .none)
    (.cons (.assign 23 .ff)
    (.cons (.assign 24 .ff)
    (.cons (.assign 25 (.var 16))
    (.cons (.forr 26 (.range1 (.int 12)) (.cons (.tryy (.cons (.assign 27 (.meth (.var 17) 0 (.cons (.var 25) .nil)))
    .nil) (.cons [4] [.assign 23 .tt, .brk] .nil))
    (.cons (.assign 28 (.meth (.var 17) 16 (.cons (.bin .add (.var 25) (.int 1)) (.cons (.var 20) .nil))))
    (.cons (.ife (.isNone (.var 22)) (.cons (.assign 22 (.tup (.cons (.var 25) (.cons (.var 27) (.cons (.var 28) .nil)))))
    .nil) .nil)
    (.cons (.assign 29 (.call 53 (.cons (.var 18) .nil)))
    (.cons (.assign 30 (.meth (.var 18) 52 (.cons (.var 25) (.cons (.var 27) (.cons (.var 19) (.cons (.var 28) .nil))))))
    (.cons (.ife (.cmp (.isNone (.var 30)) (.one .ne (.cmp (.var 25) (.one .gt (.var 3))))) (.cons (.ret .ff)
    .nil) .nil)
    (.cons (.ife (.notNone (.var 30)) (.cons (.ife (.cmp (.var 30) (.one .gt (.var 3))) (.cons (.assign 29 (.min2 (.var 29) (.bin .add (.var 3) (.int 1))))
    .nil) .nil)
    (.cons (.ife (.cmp (.call 53 (.cons (.var 18) .nil)) (.one .ne (.var 29))) (.cons (.ret .ff)
    .nil) .nil)
    (.cons (.assign 24 .tt)
    (.cons (.assign 25 (.var 30))
    (.cons .brk
    .nil))))) .nil)
    (.cons (.accApp 21 (.var 27))
    (.cons (.unpack [31, 32] (.meth (.var 18) 54 (.cons (.min2 (.var 25) (.meth (.var 18) 32 .nil)) (.cons (.var 27) .nil))))
    (.cons (.assign 33 (.max1 (.compIf (.var 43) 43 (.range2 (.var 15) (.bin .add (.min2 (.var 25) (.var 9)) (.int 1))) (.cmp (.idx (.var 7) (.var 43)) (.one .le (.var 27))))))
    (.cons (.ife (.cmp (.tup (.cons (.var 31) (.cons (.var 32) .nil))) (.one .ne (.tup (.cons (.var 33) (.cons (.idx (.var 7) (.var 33)) .nil))))) (.cons (.ret .ff)
    .nil) .nil)
    (.cons (.assign 34 (.compIf (.var 44) 44 (.range2 (.var 11) (.bin .add (.var 31) (.int 1))) (.cmp (.idx (.var 6) (.var 44)) (.one .le (.var 32)))))
    (.cons (.assign 33 (.min2 (.var 31) (.bin .sub (.var 11) (.int 1))))
    (.cons (.ife (.cmp (.len (.var 34)) (.one .gt (.int 0))) (.cons (.assign 33 (.idx (.var 34) (.neg 1)))
    .nil) .nil)
    (.cons (.unpack [35, 36] (.meth (.var 17) 54 (.cons (.var 31) (.cons (.var 32) .nil))))
    (.cons (.ife (.cmp (.var 36) (.one .ne (.ite (.cmp (.var 35) (.one .ge (.var 11))) (.idx (.var 6) (.var 35)) (.int 0)))) (.cons (.ret .ff)
    .nil) .nil)
    (.cons (.ife (.or (.cons (.cmp (.var 35) (.one .ne (.var 33))) (.cons (.cmp (.var 35) (.one .ge (.var 25))) (.cons (.cmp (.var 35) (.one .lt (.var 3))) .nil)))) (.cons (.ret .ff)
    .nil) .nil)
    (.cons (.assign 25 (.var 35))
    .nil)))))))))))))))))))
    (.cons (.ife (.and (.cons (.not (.e (.var 24))) (.cons (.not (.e (.var 23))) .nil))) (.cons (.ret .ff)
    .nil) .nil)
    (.cons (.ife (.cmp (.var 23) (.one .ne (.or (.cons (.cmp (.var 16) (.one .lt (.var 11))) (.cons (.cmp (.var 3) (.one .lt (.var 11))) .nil))))) (.cons (.ret .ff)
    .nil) .nil)
    (.cons (.assign 37 (.compIf (.var 45) 45 (.range2 (.bin .add (.var 3) (.int 1)) (.bin .add (.var 16) (.int 1))) (.or (.cons (.cmp (.idx (.var 6) (.var 45)) (.one .ne (.idx (.var 6) (.bin .sub (.var 45) (.int 1))))) (.cons (.cmp (.var 45) (.one .eq (.bin .add (.var 3) (.int 1)))) .nil)))))
    (.cons (.assign 38 (.compIf (.var 46) 46 (.range2 (.bin .add (.var 3) (.int 1)) (.bin .add (.var 9) (.int 1))) (.or (.cons (.cmp (.idx (.var 7) (.var 46)) (.one .ne (.idx (.var 7) (.bin .sub (.var 46) (.int 1))))) (.cons (.cmp (.var 46) (.one .eq (.bin .add (.var 3) (.int 1)))) .nil)))))
    (.cons (.ife (.cmp (.accLen 21) (.one .gt (.min2 (.len (.var 37)) (.bin .add (.len (.var 38)) (.int 1))))) (.cons (.ret .ff)
    .nil) .nil)
    (.cons (.ife (.e (.var 23)) (.cons (.ife (.cmp (.meth (.var 18) 50 (.cons (.var 11) (.cons (.idx (.var 6) (.var 11)) .nil))) (.one .ne (.cmp (.var 11) (.one .le (.var 3))))) (.cons (.ret .ff)
    .nil) .nil)
    (.cons (.ife (.cmp (.var 11) (.one .le (.var 3))) (.cons (.expr (.meth (.var 18) 55 (.cons (.var 11) .nil)))
    .nil) (.cons (.expr (.meth (.var 18) 45 (.cons (.new 3 (.cons (.var 11) (.cons (.idx (.var 6) (.var 11)) (.cons (.new 2 (.cons (.list (.cons (.int 1) .nil)) (.cons (.list .nil) (.cons (.list .nil) (.cons (.list .nil) (.cons .ff .nil)))))) (.cons .bnil .nil))))) .nil)))
    (.cons (.assign 15 (.var 11))
    .nil)))
    (.cons (.assign 25 (.var 11))
    .nil))) .nil)
    (.cons (.whil 100 (.cmp (.var 25) (.one .lt (.var 8))) (.cons (.assign 28 (.meth (.var 17) 16 (.cons (.bin .add (.var 25) (.int 1)) (.cons (.var 20) .nil))))
    (.cons (.assign 39 (.len (.var 28)))
    (.cons (.ife (.or (.cons (.cmp (.var 39) (.one .eq (.int 0))) (.cons (.cmp (.comp (.meth (.var 47) 24 .nil) 47 (.over (.var 28))) (.one .ne (.call 51 (.cons (.var 6) (.cons (.bin .add (.var 25) (.int 1)) (.cons (.bin .add (.bin .add (.var 25) (.int 1)) (.var 39)) .nil)))))) .nil))) (.cons (.ret .ff)
    .nil) .nil)
    (.cons (.assign 29 (.call 53 (.cons (.var 18) .nil)))
    (.cons (.ife (.cmp (.meth (.var 18) 52 (.cons (.var 25) (.cons (.meth (.var 17) 0 (.cons (.var 25) .nil)) (.cons (.var 19) (.cons (.var 28) .nil))))) (.one .ne (.bin .add (.var 25) (.var 39)))) (.cons (.ret .ff)
    .nil) .nil)
    (.cons (.assign 40 (.bin .add (.max2 (.var 25) (.var 3)) (.int 1)))
    (.cons (.aug 25 .add (.var 39))
    (.cons (.ife (.cmp (.var 25) (.one .ge (.var 40))) (.cons (.assign 29 (.min2 (.var 29) (.var 40)))
    .nil) .nil)
    (.cons (.ife (.cmp (.call 53 (.cons (.var 18) .nil)) (.one .ne (.var 29))) (.cons (.ret .ff)
    .nil) .nil)
    .nil))))))))))
    (.cons (.ife (.cmp (.comp (.meth (.var 48) 24 .nil) 48 (.over (.meth (.var 18) 63 .nil))) (.one .ne (.call 51 (.cons (.var 6) (.cons (.bin .add (.var 15) (.int 1)) (.cons (.bin .add (.var 8) (.int 1)) .nil)))))) (.cons (.ret .ff)
    .nil) .nil)
    (.cons (.ife (.cmp (.tup (.cons (.meth (.var 18) 31 .nil) (.cons (.meth (.var 18) 32 .nil) (.cons (.meth (.var 18) 48 .nil) .nil)))) (.one .ne (.tup (.cons (.bin .add (.var 15) (.int 1)) (.cons (.var 8) (.cons (.idx (.var 6) (.var 8)) .nil)))))) (.cons (.ret .ff)
    .nil) .nil)
    (.cons (.ife (.cmp (.attr (.var 18) 22) (.one .ne (.max2 (.var 14) (.var 19)))) (.cons (.ret .ff)
    .nil) .nil)
    (.cons (.ife (.cmp (.meth (.var 18) 59 .nil) (.one .ne (.and (.cons (.var 23) (.cons (.cmp (.var 11) (.one .gt (.var 3))) .nil))))) (.cons (.ret .ff)
    .nil) .nil)
    (.cons (.assign 41 (.bin .add (.int 2) (.bin .mod (.bin .fdiv (.var 13) (.int 7)) (.var 8))))
    (.cons (.ife (.cmp (.var 41) (.one .gt (.var 8))) (.cons (.assign 41 (.bin .add (.var 8) (.int 3)))
    .nil) .nil)
    (.cons (.ret (.call 54 (.cons (.var 18) (.cons (.var 22) (.cons (.var 8) (.cons (.var 41) (.cons (.idx (.var 6) (.var 8)) .nil)))))))
    .nil))))))))))))))))))))))))))))))))))))))))))))⟩
noncomputable def prg : Prg := ⟨[(0, R.f0), (1, R.f1), (2, R.f2), (3, R.f3), (4, R.f4), (5, R.f5), (6, R.f6), (7, R.f7), (8, R.f8), (9, R.f9), (10, R.f10), (11, R.f11), (12, R.f12), (13, R.f13), (14, R.f14), (15, R.f15), (16, R.f16), (17, R.f17), (18, R.f18), (19, R.f19), (20, R.f20), (21, R.f21), (22, R.f22), (23, R.f23), (24, R.f24), (25, R.f25), (26, R.f26), (27, R.f27), (28, R.f28), (29, R.f29), (30, R.f30), (31, R.f31), (32, R.f32), (33, R.f33), (34, R.f34), (35, R.f35), (36, R.f36), (37, R.f37), (38, R.f38), (39, R.f39), (40, R.f40), (41, R.f41), (42, R.f42), (43, R.f43), (44, R.f44), (45, R.f45), (46, R.f46), (47, R.f47), (48, f48), (49, f49), (50, f50), (51, f51), (52, f52), (53, f53), (54, f54), (55, f55)],
  R.cls, R.sub⟩
noncomputable def gl : List (PySem.Str × GV) := [(S "varint_length", .fn 0),
  (S "rising", .fn 1),
  (S "limit_size", .fn 5),
  (S "_law_draw", .fn 48),
  (S "_law_terms", .fn 49),
  (S "_law_entries", .fn 50),
  (S "_law_rows", .fn 51),
  (S "_law_log", .fn 52),
  (S "_law_waits", .fn 53),
  (S "_law_late", .fn 54),
  (S "law", .fn 55),
  (S "Entry", .cls 0),
  (S "HardState", .cls 1),
  (S "ConfState", .cls 2),
  (S "Snapshot", .cls 3),
  (S "MemoryStorage", .cls 4),
  (S "Unstable", .cls 5),
  (S "RaftLog", .cls 6),
  (S "KeepError", .exc 0),
  (S "StoreError", .exc 1),
  (S "BadOption", .exc 2),
  (S "RaftError", .exc 3),
  (S "Compacted", .exc 4),
  (S "Unavailable", .exc 5),
  (S "SnapNotReady", .exc 6),
  (S "LogGap", .exc 7),
  (S "CommitRegress", .exc 8),
  (S "LogPanic", .exc 9),
  (S "MAX_64", .gint 0 18446744073709551615),
  (S "NONE", .gint 1 0),
  (S "NO_LIMIT", .gint 2 18446744073709551615),
  (S "len", .blt 0),
  (S "min", .blt 1),
  (S "max", .blt 2),
  (S "tuple", .blt 3),
  (S "bytes", .blt 4),
  (S "range", .blt 5),
  (S "sorted", .blt 6)]
end P02
namespace Mini.L
open Mini
section
variable {P : Prg} {cf : Nat → List MV → MH → RS MV} {l l₁ l₂ : Loc} {H H₁ H₂ H₃ : MH} {e a b : ME} {es : MEs} {v w u : MV} {r : MSs} {x : SR} {i f k : Nat} {vs : List MV}
theorem bnd {α β : Type} {m : RS α} {f : α → MH → RS β} {c : α} {H : MH} {y : RS β} (h : m = .ok c H) (k : f c H = y) : m.bind f = y := by rw [h]; exact k
theorem op {α β : Type} {o : Option α} {f : α → RS β} {c : α} {y : RS β} (h : o = some c) (k : f c = y) : opt o f = y := by rw [h]; exact k
theorem tos {α : Type} {m : RS α} {f : α → MH → SR} {c : α} {H : MH} (h : m = .ok c H) (k : f c H = x) : toS m l f = x := by rw [h]; exact k
theorem ops {α : Type} {o : Option α} {f : α → SR} {c : α} (h : o = some c) (k : f c = x) : optS o f = x := by rw [h]; exact k
theorem thn {y : SR} {f : Loc → MH → SR} (h : y = .next l₁ H₁) (k : f l₁ H₁ = x) : y.then f = x := by rw [h]; exact k
theorem xA (h : evalE P cf e l H = .ok v H₁) (k : execSs P cf r (l.set i (.val v)) H₁ = x) : execSs P cf (.cons (.assign i e) r) l H = x := thn (tos h rfl) k
theorem xE (h : evalE P cf e l H = .ok v H₁) (k : execSs P cf r l H₁ = x) : execSs P cf (.cons (.expr e) r) l H = x := thn (tos h rfl) k
theorem xR (h : evalE P cf e l H = .ok v H₁) : execSs P cf (.cons (.ret e) r) l H = .ret v H₁ := congrArg (SR.then · _) (tos h rfl : execS P cf (.ret e) l H = .ret v H₁)
theorem xU {is : List Nat} (h : evalE P cf e l H = .ok (.tup vs) H₁) (h2 : setAll is vs l = some l₁) (k : execSs P cf r l₁ H₁ = x) : execSs P cf (.cons (.unpack is e) r) l H = x := thn (tos h (ops (c := l₁) h2 rfl)) k
theorem xS (h : evalE P cf b l H = .ok v H₁) (h2 : evalE P cf e l H₁ = .ok u H₂) (h3 : setO P u f v H₂ = some H₃) (k : execSs P cf r l H₃ = x) : execSs P cf (.cons (.setAttr e f b) r) l H = x := thn (tos h (tos h2 (ops h3 rfl))) k
theorem xG {o : Op} (h0 : (lget l i).val? = some w) (h : evalE P cf e l H = .ok v H₁) (h2 : (intz w v fun a b => binop o (.int a) (.int b)) = some u) (k : execSs P cf r (l.set i (.val u)) H₁ = x) : execSs P cf (.cons (.aug i o e) r) l H = x := thn (ops h0 (tos h (ops h2 rfl))) k
theorem xN (h : evalEs P cf es l H = .ok vs H₁) (k : execSs P cf r (l.set i (.acc vs)) H₁ = x) : execSs P cf (.cons (.accNew i es) r) l H = x := thn (tos h rfl) k
theorem xC (h : evalE P cf e l H = .ok (.list vs) H₁) (hl : vs.length ≤ 1000) (k : execSs P cf r (l.set i (.acc vs)) H₁ = x) : execSs P cf (.cons (.accCopy i e) r) l H = x := thn (tos h (ops (by show guardO (decide _) vs = _; rw [decide_eq_true hl]; rfl) rfl)) k
theorem xP (h0 : (lget l i).acc? = some vs) (h : evalE P cf e l H = .ok v H₁) (hl : vs.length < 1000) (k : execSs P cf r (l.set i (.acc (vs ++ [v]))) H₁ = x) : execSs P cf (.cons (.accApp i e) r) l H = x := thn (ops h0 (tos h (ops (by show guardO (decide _) (vs ++ [v]) = _; rw [decide_eq_true hl]; rfl) rfl))) k
theorem xZ (h0 : (lget l i).acc? = some vs) (k : execSs P cf r (l.set i (.val (.list vs))) H = x) : execSs P cf (.cons (.freeze i) r) l H = x := thn (ops h0 rfl) k
section
variable {t : MT} {c : Bool} {aa bb : MSs} {y : SR}
theorem ifT (h : evalT P cf t l H = .ok c H₁) (hc : c = true) (k : execSs P cf aa l H₁ = y) : execS P cf (.ife t aa bb) l H = y := tos h (by rw [hc]; exact k)
theorem ifF (h : evalT P cf t l H = .ok c H₁) (hc : c = false) (k : execSs P cf bb l H₁ = y) : execS P cf (.ife t aa bb) l H = y := tos h (by rw [hc]; exact k)
theorem xI (h : evalT P cf t l H = .ok c H₁) (hc : c = true) (k : execSs P cf aa l H₁ = .next l₂ H₂) (k2 : execSs P cf r l₂ H₂ = x) : execSs P cf (.cons (.ife t aa bb) r) l H = x := thn (ifT h hc k) k2
theorem x0 (h : evalT P cf t l H = .ok c H₁) (hc : c = false) (k : execSs P cf r l H₁ = x) : execSs P cf (.cons (.ife t aa .nil) r) l H = x := thn (ifF h hc rfl) k
theorem xL (h : evalT P cf t l H = .ok c H₁) (hc : c = false) (k : execSs P cf bb l H₁ = .next l₂ H₂) (k2 : execSs P cf r l₂ H₂ = x) : execSs P cf (.cons (.ife t aa bb) r) l H = x := thn (ifF h hc k) k2
theorem xIr (h : evalT P cf t l H = .ok c H₁) (hc : c = true) (k : execSs P cf aa l H₁ = .ret v H₂) : execSs P cf (.cons (.ife t aa bb) r) l H = .ret v H₂ := congrArg (SR.then · _) (ifT h hc k)
theorem xIb (h : evalT P cf t l H = .ok c H₁) (hc : c = true) (k : execSs P cf aa l H₁ = .brk l₂ H₂) : execSs P cf (.cons (.ife t aa bb) r) l H = .brk l₂ H₂ := congrArg (SR.then · _) (ifT h hc k)
theorem xIx {ex : Nat} (h : evalT P cf t l H = .ok c H₁) (hc : c = true) (k : execSs P cf aa l H₁ = .exm ex l₂ H₂) : execSs P cf (.cons (.ife t aa bb) r) l H = .exm ex l₂ H₂ := congrArg (SR.then · _) (ifT h hc k)
theorem tC {o : Cp} (h : evalE P cf a l H = .ok v H₁) (h2 : evalE P cf b l H₁ = .ok w H₂) (h3 : cmpop o v w = some c) : evalT P cf (.cmp a (.one o b)) l H = .ok c H₂ := bnd h (bnd h2 (op h3 rfl))
theorem eC {o : Cp} (h : evalE P cf a l H = .ok v H₁) (h2 : evalE P cf b l H₁ = .ok w H₂) (h3 : cmpop o v w = some c) : evalE P cf (.cmp a (.one o b)) l H = .ok (.bool c) H₂ := bnd h (bnd (bnd h2 (op h3 rfl)) rfl)
theorem tA {ts : MTs} (h : evalTs P cf true ts l H = .ok c H₁) : evalT P cf (.and ts) l H = .ok c H₁ := h
theorem tO {ts : MTs} (h : evalTs P cf false ts l H = .ok c H₁) : evalT P cf (.or ts) l H = .ok c H₁ := h
theorem tsN {a : Bool} : evalTs P cf a .nil l H = .ok a H := rfl
theorem tsC {ts : MTs} {a c' : Bool} (h : evalT P cf t l H = .ok c H₁) (hc : c = a) (k : evalTs P cf a ts l H₁ = .ok c' H₂) : evalTs P cf a (.cons t ts) l H = .ok c' H₂ := bnd h (by rw [if_pos hc]; exact k)
theorem tsX {ts : MTs} {a : Bool} (h : evalT P cf t l H = .ok c H₁) (hc : c = !a) : evalTs P cf a (.cons t ts) l H = .ok (!a) H₁ := bnd h (by rw [if_neg (by cases a <;> cases hc <;> decide)])
theorem tN (h : evalT P cf t l H = .ok c H₁) : evalT P cf (.not t) l H = .ok (!c) H₁ := bnd h rfl
end
theorem eB {o : Op} (h : evalE P cf a l H = .ok v H₁) (h2 : evalE P cf b l H₁ = .ok w H₂) (h3 : binop o v w = some u) : evalE P cf (.bin o a b) l H = .ok u H₂ := bnd h (bnd h2 (op h3 rfl))
theorem eAt (h : evalE P cf a l H = .ok v H₁) (h2 : getAttr P v f H₁ = some w) : evalE P cf (.attr a f) l H = .ok w H₁ := bnd h (op h2 rfl)
theorem eIx (h : evalE P cf a l H = .ok v H₁) (h2 : evalE P cf b l H₁ = .ok w H₂) (h3 : idxO v w = some u) : evalE P cf (.idx a b) l H = .ok u H₂ := bnd h (bnd h2 (op h3 rfl))
theorem eLen (h : evalE P cf a l H = .ok v H₁) (h2 : lenO v = some w) : evalE P cf (.len a) l H = .ok w H₁ := bnd h (op h2 rfl)
theorem eTup (h : evalEs P cf es l H = .ok vs H₁) : evalE P cf (.tup es) l H = .ok (.tup vs) H₁ := bnd h rfl
theorem eLst (h : evalEs P cf es l H = .ok vs H₁) : evalE P cf (.list es) l H = .ok (.list vs) H₁ := bnd h rfl
theorem eCons {es : MEs} (h : evalE P cf e l H = .ok v H₁) (h2 : evalEs P cf es l H₁ = .ok vs H₂) : evalEs P cf (.cons e es) l H = .ok (v :: vs) H₂ := bnd h (bnd h2 rfl)
theorem eM {m : Nat} (h : evalE P cf e l H = .ok v H₁) (hm : methOf P v m H₁ = some f) (h2 : evalEs P cf es l H₁ = .ok vs H₂) {y : RS MV} (k : cf f (v :: vs) H₂ = y) : evalE P cf (.meth e m es) l H = y := bnd h (op hm (bnd h2 k))
theorem eCl (h2 : evalEs P cf es l H = .ok vs H₂) {y : RS MV} (k : cf f vs H₂ = y) : evalE P cf (.call f es) l H = y := bnd h2 k
theorem eMin {i j : Int} (h : evalE P cf a l H = .ok (.int i) H₁) (h2 : evalE P cf b l H₁ = .ok (.int j) H₂) : evalE P cf (.min2 a b) l H = .ok (.int (if j < i then j else i)) H₂ := bnd h (bnd h2 rfl)
section
variable {c c' : Nat} {hs : MHs} {bb : MSs} {t : MT}
theorem bnx {α β : Type} {m : RS α} {f : α → MH → RS β} {H : MH} (h : m = .ex c H) : m.bind f = .ex c H := by rw [h]; rfl
theorem tosx {α : Type} {m : RS α} {f : α → MH → SR} (h : m = .ex c H₁) : toS m l f = .exf c l H₁ := by rw [h]; rfl
theorem aX (h : evalE P cf e l H = .ex c H₁) : execSs P cf (.cons (.assign i e) r) l H = .exf c l H₁ := congrArg (SR.then · _) (tosx h : execS P cf (.assign i e) l H = _)
theorem eX (h : evalE P cf e l H = .ex c H₁) : execSs P cf (.cons (.expr e) r) l H = .exf c l H₁ := congrArg (SR.then · _) (tosx h : execS P cf (.expr e) l H = _)
theorem rX (h : evalE P cf e l H = .ex c H₁) : execSs P cf (.cons (.ret e) r) l H = .exf c l H₁ := congrArg (SR.then · _) (tosx h : execS P cf (.ret e) l H = _)
theorem raz {m : RS (List MV)} (h : m = .ok vs H₁) (hi : allInts vs = true) : raiseM c m l = .exm c l H₁ := by
  rw [h]
  show (if allInts vs = true then _ else _) = _
  rw [if_pos hi]
theorem xX (h : evalEs P cf es l H = .ok vs H₁) (hi : allInts vs = true) : execSs P cf (.cons (.raise c es) r) l H = .exm c l H₁ := congrArg (SR.then · _) (raz h hi : execS P cf (.raise c es) l H = _)
theorem xTn (k : execSs P cf bb l H = .next l₁ H₁) (k2 : execSs P cf r l₁ H₁ = x) : execSs P cf (.cons (.tryy bb hs) r) l H = x := thn (show SR.catch _ _ = _ by rw [k]; rfl) k2
theorem xTr (k : execSs P cf bb l H = .ret v H₁) : execSs P cf (.cons (.tryy bb hs) r) l H = .ret v H₁ := congrArg (SR.then · _) (show SR.catch (execSs P cf bb l H) (fun c l H => execHs P c hs l H) = .ret v H₁ by rw [k]; rfl)
theorem cat {y : SR} (k : execSs P cf bb l H = .exf c l₁ H₁) (k2 : execHs P c hs l₁ H₁ = y) : execS P cf (.tryy bb hs) l H = y := by show SR.catch _ _ = _; rw [k]; exact k2
theorem xTc (k : execSs P cf bb l H = .exf c l₁ H₁) (k2 : execHs P c hs l₁ H₁ = .ret v H₂) : execSs P cf (.cons (.tryy bb hs) r) l H = .ret v H₂ := congrArg (SR.then · _) (cat k k2)
theorem xTb (k : execSs P cf bb l H = .exf c l₁ H₁) (k2 : execHs P c hs l₁ H₁ = .brk l₂ H₂) : execSs P cf (.cons (.tryy bb hs) r) l H = .brk l₂ H₂ := congrArg (SR.then · _) (cat k k2)
theorem xTcn (k : execSs P cf bb l H = .exf c l₁ H₁) (k2 : execHs P c hs l₁ H₁ = .next l₂ H₂) (k3 : execSs P cf r l₂ H₂ = x) : execSs P cf (.cons (.tryy bb hs) r) l H = x := thn (cat k k2) k3
theorem lim_big : 1000000 ≤ intLim := by decide +kernel
theorem aI {a : Int} {r : List MV} (h : a.natAbs < 1000000) (k : allInts r = true) : allInts (.int a :: r) = true := by
  show (decide (a.natAbs < intLim) && allInts r) = true
  rw [decide_eq_true (Nat.lt_of_lt_of_le h lim_big), k]; rfl
variable {n : Nat} {test : Loc → MH → RS Bool} {body : Loc → MH → SR} {y : SR} {b : Bool}
theorem wT (h : test l H = .ok b H₁) (hb : b = true) (k : body l H₁ = .next l₂ H₂) (k2 : whileM test body n l₂ H₂ = y) : whileM test body (n + 1) l H = y := by
  show okW (test l H) _ = _
  rw [h, hb]
  show SR.turn (body l H₁) _ = _
  rw [k]; exact k2
theorem wR (h : test l H = .ok b H₁) (hb : b = true) (k : body l H₁ = .ret v H₂) : whileM test body (n + 1) l H = .ret v H₂ := by
  show okW (test l H) _ = _
  rw [h, hb]
  show SR.turn (body l H₁) _ = _
  rw [k]; rfl
theorem w0 (h : test l H = .ok b H₁) (hb : b = false) : whileM test body (n + 1) l H = .next l H₁ := by
  show okW (test l H) _ = _
  rw [h, hb]; rfl
theorem xWn (k : whileM (evalT P cf t) (execSs P cf bb) n l H = .next l₁ H₁) (k2 : execSs P cf r l₁ H₁ = x) : execSs P cf (.cons (.whil n t bb) r) l H = x := thn k k2
theorem xWr (k : whileM (evalT P cf t) (execSs P cf bb) n l H = .ret v H₁) : execSs P cf (.cons (.whil n t bb) r) l H = .ret v H₁ := congrArg (SR.then · _) k
theorem fN {w : MV} {ws : List MV} (k : body (l.set i (.val w)) H = .next l₁ H₁) (k2 : forM i body ws l₁ H₁ = y) : forM i body (w :: ws) l H = y := by
  show SR.turn (body (l.set i (.val w)) H) _ = _
  rw [k]; exact k2
theorem fB {w : MV} {ws : List MV} (k : body (l.set i (.val w)) H = .brk l₁ H₁) : forM i body (w :: ws) l H = .next l₁ H₁ := by
  show SR.turn (body (l.set i (.val w)) H) _ = _
  rw [k]; rfl
theorem fR {w : MV} {ws : List MV} (k : body (l.set i (.val w)) H = .ret v H₁) : forM i body (w :: ws) l H = .ret v H₁ := by
  show SR.turn (body (l.set i (.val w)) H) _ = _
  rw [k]; rfl
theorem fX {w : MV} {ws : List MV} (k : body (l.set i (.val w)) H = .exm c l₁ H₁) : forM i body (w :: ws) l H = .exm c l₁ H₁ := by
  show SR.turn (body (l.set i (.val w)) H) _ = _
  rw [k]; rfl
theorem xFn {it : MI} (h : evalI P cf it l H = .ok vs H₁) (k : forM i (execSs P cf bb) vs l H₁ = .next l₂ H₂) (k2 : execSs P cf r l₂ H₂ = x) : execSs P cf (.cons (.forr i it bb) r) l H = x := thn (tos h k) k2
theorem xFr {it : MI} (h : evalI P cf it l H = .ok vs H₁) (k : forM i (execSs P cf bb) vs l H₁ = .ret v H₂) : execSs P cf (.cons (.forr i it bb) r) l H = .ret v H₂ := congrArg (SR.then · _) (tos h k : execS P cf (.forr i it bb) l H = _)
theorem xFx {it : MI} (h : evalI P cf it l H = .ok vs H₁) (k : forM i (execSs P cf bb) vs l H₁ = .exm c l₂ H₂) : execSs P cf (.cons (.forr i it bb) r) l H = .exm c l₂ H₂ := congrArg (SR.then · _) (tos h k : execS P cf (.forr i it bb) l H = _)
theorem iR1 {k : Int} (h : evalE P cf e l H = .ok (.int k) H₁) (hk : k.natAbs ≤ 1000) : evalI P cf (.range1 e) l H = .ok (rangeV 0 k) H₁ := bnd h (op (by show guardO (decide _) _ = _; rw [decide_eq_true hk]; rfl) rfl)
theorem iR2 {j k : Int} (h : evalE P cf a l H = .ok (.int j) H₁) (h2 : evalE P cf e l H₁ = .ok (.int k) H₂) (hk : j.natAbs ≤ 1000 ∧ k.natAbs ≤ 1000 ∧ k - j ≤ 1000) : evalI P cf (.range2 a e) l H = .ok (rangeV j k) H₂ :=
  bnd h (bnd h2 (op (by show guardO (decide (j.natAbs ≤ 1000000 ∧ k.natAbs ≤ 1000000 ∧ k - j ≤ 1000)) _ = _; rw [decide_eq_true ⟨Nat.le_trans hk.1 (by decide), Nat.le_trans hk.2.1 (by decide), hk.2.2⟩]; rfl) rfl))
theorem iO {vs : List MV} (h : evalE P cf e l H = .ok (.list vs) H₁) : evalI P cf (.over e) l H = .ok vs H₁ := bnd h rfl
end
theorem runB {np nv : Nat} {bd : MSs} {args : List MV} {y : SR} (hn : args.length = np) (k : execSs P cf bd (args.map .val ++ List.replicate (nv - np) .un) H = y) : runF P cf ⟨np, nv, .body bd⟩ args H = endF y := by
  show (if args.length = np then _ else RS.bad) = _
  rw [if_pos hn, k]
theorem runR {np nv : Nat} {bd : MSs} {args : List MV} (hn : args.length = np) (k : execSs P cf bd (args.map .val ++ List.replicate (nv - np) .un) H = .ret v H₁) : runF P cf ⟨np, nv, .body bd⟩ args H = .ok v H₁ := runB hn k
theorem runN {np nv : Nat} {bd : MSs} {args : List MV} (hn : args.length = np) (k : execSs P cf bd (args.map .val ++ List.replicate (nv - np) .un) H = .next l₁ H₁) : runF P cf ⟨np, nv, .body bd⟩ args H = .ok .none H₁ := runB hn k
theorem runX {np nv c : Nat} {bd : MSs} {args : List MV} (hn : args.length = np) (k : execSs P cf bd (args.map .val ++ List.replicate (nv - np) .un) H = .exm c l₁ H₁) : runF P cf ⟨np, nv, .body bd⟩ args H = .ex c H₁ := runB hn k
theorem callAt {m : MF} {d f : Nat} {args : List MV} {y : RS MV} (h : flook f P.funs = some m) (k : runF P (callN P d) m args H = y) : callN P (d + 1) f args H = y := by
  show (match flook f P.funs with | some m => runF P (callN P d) m args H | Option.none => .bad) = y
  rw [h]; exact k
end
end Mini.L
namespace Mini.L
open Mini
noncomputable def conf1 : MV := .inst 2 [.list [.int 1], .list [], .list [], .list [], .bool false]
noncomputable def hard1 : MV := .inst 1 [.int 1, .int 0, .int 1]
noncomputable def snapE (i t : Nat) : MV := .inst 3 [.int i, .int t, conf1, .bytes []]
noncomputable def dat (t i : Nat) : List Nat := (List.replicate (i % 3) [t]).flatten
noncomputable def en (t i : Nat) : MV := .inst 0 [.int t, .int i, .int 0, .bytes (dat t i)]
structure Lg where
  b : Nat
  t : Nat
  st : List MV
  sn : Option (Nat × Nat)
  ue : List MV
  off : Nat
  com : Nat
  app : Nat
noncomputable def snV : Option (Nat × Nat) → MV
  | none => .none
  | some p => snapE p.1 p.2
noncomputable def stO (L : Lg) : MObj := ⟨4, [(12, hard1), (11, conf1), (13, snapE 1 1), (14, .int L.b), (15, .int L.t), (16, .list L.st)]⟩
noncomputable def unO (L : Lg) : MObj := ⟨5, [(17, snV L.sn), (16, .list L.ue), (18, .int L.off)]⟩
noncomputable def lgO (k : Nat) (L : Lg) : MObj := ⟨6, [(19, .obj k), (20, .int 18446744073709551615), (21, .obj (k + 2)), (22, .int L.com), (23, .int L.app)]⟩
noncomputable def hp (k : Nat) (L : Lg) : MH := [stO L, lgO k L, unO L]
inductive Sh where
  | one
  | fst
  | snd
noncomputable def HH : Sh → Lg → Lg → MH
  | .one, L, _ => hp 0 L
  | .fst, L, O => hp 0 L ++ hp 3 O
  | .snd, L, O => hp 0 O ++ hp 3 L
noncomputable def sx : Sh → Nat
  | .snd => 3
  | _ => 0
noncomputable def lx : Sh → Nat
  | .snd => 4
  | _ => 1
noncomputable def ux : Sh → Nat
  | .snd => 5
  | _ => 2
noncomputable abbrev P := P02.prg
variable {cf : Nat → List MV → MH → RS MV} {p : Sh} {L O : Lg} {H : MH} {i : Nat}
noncomputable def Lg.mf (L : Lg) : MV := match L.sn with | none => .none | some q => .int ((q.1 : Int) + 1)
theorem f23 : runF P cf R.f23 [.obj (ux p)] (HH p L O) = .ok L.mf (HH p L O) := by
  obtain ⟨b, t, st, sn, ue, off, com, app⟩ := L
  cases p <;> cases sn <;> rfl
theorem f15 : runF P cf R.f15 [.obj (sx p)] (HH p L O) = .ok (.int ((L.b : Int) + 1)) (HH p L O) := by cases p <;> rfl
theorem f16 : runF P cf R.f16 [.obj (sx p)] (HH p L O) = .ok (.int ((L.b : Int) + L.st.length)) (HH p L O) := by cases p <;> rfl
theorem nz {n m : Nat} (h : n < m) : decide ((n : Int) < (m : Int)) = true := decide_eq_true (Int.ofNat_lt.mpr h)
theorem nf {n m : Nat} (h : m ≤ n) : decide ((n : Int) < (m : Int)) = false := decide_eq_false (Int.not_lt.mpr (Int.ofNat_le.mpr h))
theorem lz {n m : Nat} (h : n ≤ m) : decide ((n : Int) ≤ (m : Int)) = true := decide_eq_true (Int.ofNat_le.mpr h)
theorem lf {n m : Nat} (h : m < n) : decide ((n : Int) ≤ (m : Int)) = false := decide_eq_false (Int.not_le.mpr (Int.ofNat_lt.mpr h))
theorem ez {n m : Nat} (h : n = m) : decide ((n : Int) = (m : Int)) = true := decide_eq_true (congrArg _ h)
theorem ef {n m : Nat} (h : n ≠ m) : decide ((n : Int) = (m : Int)) = false := decide_eq_false fun q => h (Int.ofNat.inj q)
theorem f24a (h : 0 < L.ue.length) : runF P cf R.f24 [.obj (ux p)] (HH p L O) = .ok (.int ((L.off : Int) + L.ue.length - 1)) (HH p L O) := by
  cases p <;> exact runB rfl (xIr rfl (nz h) (xR rfl))
theorem f24b (h : L.ue = []) (hs : L.sn = none) : runF P cf R.f24 [.obj (ux p)] (HH p L O) = .ok .none (HH p L O) := by
  obtain ⟨b, t, st, sn, ue, off, com, app⟩ := L
  cases h; cases hs
  cases p <;> rfl
theorem f24c (h : L.ue = []) {q : Nat × Nat} (hs : L.sn = some q) : runF P cf R.f24 [.obj (ux p)] (HH p L O) = .ok (.int ((L.off : Int) - 1)) (HH p L O) := by
  obtain ⟨b, t, st, sn, ue, off, com, app⟩ := L
  cases h; cases hs
  cases p <;> rfl
theorem f25a (h : i < L.off) (hs : L.sn = none) : runF P cf R.f25 [.obj (ux p), .int i] (HH p L O) = .ok .none (HH p L O) := by
  obtain ⟨b, t, st, sn, ue, off, com, app⟩ := L
  cases hs
  cases p <;> exact runB rfl (xIr rfl (nz h) (x0 rfl rfl (xR rfl)))
theorem f25b (h : i < L.off) {t : Nat} (hs : L.sn = some (i, t)) : runF P cf R.f25 [.obj (ux p), .int i] (HH p L O) = .ok (.int t) (HH p L O) := by
  obtain ⟨b, t, st, sn, ue, off, com, app⟩ := L
  cases hs
  cases p <;> exact runB rfl (xIr rfl (nz h) (xIr (tA (tsC rfl rfl (tsC rfl (ez rfl) tsN))) rfl (xR rfl)))
theorem f25c (h : i < L.off) {j t : Nat} (hs : L.sn = some (j, t)) (hj : j ≠ i) : runF P cf R.f25 [.obj (ux p), .int i] (HH p L O) = .ok .none (HH p L O) := by
  obtain ⟨b, t, st, sn, ue, off, com, app⟩ := L
  cases hs
  cases p <;> exact runB rfl (xIr rfl (nz h) (x0 (tA (tsC rfl rfl (tsX rfl (ef hj)))) rfl (xR rfl)))
theorem f25d (h : L.off + L.ue.length ≤ i) : runF P cf R.f25 [.obj (ux p), .int i] (HH p L O) = .ok .none (HH p L O) := by
  have h1 := Nat.le_trans (Nat.le_add_right ..) h
  cases p <;> exact runB rfl (x0 rfl (nf h1) (xIr rfl (lz h) (xR rfl)))
theorem place_nat {n k : Nat} : place n (k : Int) = some k := if_pos (Int.natCast_nonneg k)
theorem idx_list {xs : List MV} {k : Nat} {v : MV} (h : xs[k]? = some v) : idxO (.list xs) (.int (k : Int)) = some v := by
  show ((place xs.length (k : Int)).bind fun n => xs[n]?).or _ = _
  rw [place_nat]
  show (xs[k]?).or _ = _
  rw [h]; rfl
theorem sub_nat {a b : Nat} (h : b ≤ a) : (a : Int) - (b : Int) = ((a - b : Nat) : Int) := (Int.ofNat_sub h).symm
theorem f25e {t : Nat} (h : L.off ≤ i) (hi : L.ue[i - L.off]? = some (en t i)) : runF P cf R.f25 [.obj (ux p), .int i] (HH p L O) = .ok (.int t) (HH p L O) := by
  have h1 : i - L.off < L.ue.length := (List.getElem?_eq_some_iff.mp hi).1
  have h2 : i < L.off + L.ue.length := by omega
  cases p <;> exact runB rfl (x0 rfl (nf h) (x0 rfl (lf h2) (xR (eAt (eIx rfl rfl (by rw [sub_nat h]; exact idx_list hi)) rfl))))
end Mini.L
namespace Mini.L
open Mini
noncomputable def es (T : Nat → Nat) (a n : Nat) : List MV := (List.range n).map fun k => en (T (a + k)) (a + k)
theorem es_len {T : Nat → Nat} {a n : Nat} : (es T a n).length = n := by rw [es, List.length_map, List.length_range]
theorem es_get {T : Nat → Nat} {a n k : Nat} (h : k < n) : (es T a n)[k]? = some (en (T (a + k)) (a + k)) := by rw [es, List.getElem?_map, List.getElem?_range h]; rfl
theorem es_succ {T : Nat → Nat} {a n : Nat} : es T a (n + 1) = en (T a) a :: es T (a + 1) n := by
  rw [es, List.range_succ_eq_map, List.map_cons, List.map_map]
  refine congrArg (List.cons _) (List.map_congr_left fun k _ => ?_)
  show en (T (a + (k + 1))) _ = en (T (a + 1 + k)) _
  rw [Nat.add_right_comm, ← Nat.add_assoc]
theorem es_add {T : Nat → Nat} {n : Nat} : ∀ {a m : Nat}, es T a (m + n) = es T a m ++ es T (a + m) n
  | a, 0 => by rw [Nat.zero_add]; rfl
  | a, m + 1 => by rw [Nat.add_right_comm, es_succ, es_succ, List.cons_append, es_add, Nat.add_right_comm a 1 m]; rfl
theorem es_congr {T T' : Nat → Nat} {a n : Nat} (h : ∀ k, a ≤ k → k < a + n → T k = T' k) : es T a n = es T' a n :=
  List.map_congr_left fun k hk => by rw [h (a + k) (Nat.le_add_right ..) (Nat.add_lt_add_left (List.mem_range.mp hk) a)]
theorem es_take {T : Nat → Nat} {a n k : Nat} (h : k ≤ n) : (es T a n).take k = es T a k := by
  obtain ⟨m, rfl⟩ := Nat.le.dest h
  rw [es_add, List.take_left' es_len]
theorem es_drop {T : Nat → Nat} {a n k : Nat} (h : k ≤ n) : (es T a n).drop k = es T (a + k) (n - k) := by
  obtain ⟨m, rfl⟩ := Nat.le.dest h
  rw [es_add, List.drop_left' es_len, Nat.add_sub_cancel_left]
structure Gd (L : Lg) (T : Nat → Nat) (f l o : Nat) : Prop where
  off : L.off = o
  lo : f < o
  hi : o ≤ l + 1
  ue : L.ue = es T o (l + 1 - o)
  bd : l < 100
  tb : ∀ i, i ≤ l → T i < 100
  st : (L.sn = none ∧ L.b = f ∧ L.t = T f ∧ ∃ x, L.st = es T (f + 1) (o - 1 - f) ++ x ∧ (o = l + 1 → x = [])) ∨ (L.sn = some (f, T f) ∧ o = f + 1)
variable {p : Sh} {L O : Lg} {H : MH} {i d f l o : Nat} {T : Nat → Nat}
theorem gS : getAttr P (.obj (lx p)) 19 (HH p L O) = some (.obj (sx p)) := by cases p <;> rfl
theorem gU : getAttr P (.obj (lx p)) 21 (HH p L O) = some (.obj (ux p)) := by cases p <;> rfl
theorem gC : getAttr P (.obj (lx p)) 22 (HH p L O) = some (.int L.com) := by cases p <;> rfl
theorem gA : getAttr P (.obj (lx p)) 23 (HH p L O) = some (.int L.app) := by cases p <;> rfl
theorem gO : getAttr P (.obj (ux p)) 18 (HH p L O) = some (.int L.off) := by cases p <;> rfl
theorem gE : getAttr P (.obj (ux p)) 16 (HH p L O) = some (.list L.ue) := by cases p <;> rfl
theorem gN : getAttr P (.obj (ux p)) 17 (HH p L O) = some (snV L.sn) := by cases p <;> rfl
theorem gB : getAttr P (.obj (sx p)) 14 (HH p L O) = some (.int L.b) := by cases p <;> rfl
theorem gT : getAttr P (.obj (sx p)) 15 (HH p L O) = some (.int L.t) := by cases p <;> rfl
theorem gL : getAttr P (.obj (sx p)) 16 (HH p L O) = some (.list L.st) := by cases p <;> rfl
theorem mL {m f : Nat} (h : flook m [(31, 31), (32, 32), (48, 33), (0, 34), (50, 35), (52, 36), (36, 37), (53, 38), (54, 39), (45, 40), (55, 41), (58, 42), (59, 43), (16, 44), (63, 45), (64, 46), (24, 47)] = some f) : methOf P (.obj (lx p)) m (HH p L O) = some f := by cases p <;> exact h
theorem mU {m f : Nat} (h : flook m [(40, 23), (41, 24), (42, 25), (45, 26), (46, 27), (47, 28), (24, 29)] = some f) : methOf P (.obj (ux p)) m (HH p L O) = some f := by cases p <;> exact h
theorem mS {m f : Nat} (h : flook m [(31, 15), (32, 16), (33, 17), (34, 18), (36, 19), (39, 20), (24, 21)] = some f) : methOf P (.obj (sx p)) m (HH p L O) = some f := by cases p <;> exact h
theorem c31 (G : Gd L T f l o) : callN P (d + 2) 31 [.obj (lx p)] (HH p L O) = .ok (.int ((f : Int) + 1)) (HH p L O) := by
  refine callAt rfl (runR rfl (xA (eM (eAt rfl gU) (mU rfl) rfl (callAt rfl f23)) ?_))
  rcases G.st with ⟨h, hb, _⟩ | ⟨h, _⟩
  · have e : L.mf = .none := by unfold Lg.mf; rw [h]
    rw [e]
    exact x0 rfl rfl (xR (eM (eAt rfl gS) (mS rfl) rfl (hb ▸ callAt rfl f15)))
  · have e : L.mf = .int ((f : Int) + 1) := by unfold Lg.mf; rw [h]
    rw [e]
    exact xIr rfl rfl (xR rfl)
theorem Gd.len (G : Gd L T f l o) : o + L.ue.length = l + 1 := by rw [G.ue, es_len]; have := G.hi; omega
theorem c32 (G : Gd L T f l o) : callN P (d + 2) 32 [.obj (lx p)] (HH p L O) = .ok (.int l) (HH p L O) := by
  have hl := G.len
  have ho := G.off
  by_cases hu : 0 < L.ue.length
  · refine callAt rfl (runR rfl (xA (eM (eAt rfl gU) (mU rfl) rfl (callAt rfl (f24a hu))) (xIr rfl rfl (xR ?_))))
    exact congrArg (fun x => RS.ok (MV.int x) _) (by rw [ho]; omega : (L.off : Int) + L.ue.length - 1 = l)
  · have hu : L.ue = [] := List.length_eq_zero_iff.mp (Nat.eq_zero_of_not_pos hu)
    rw [hu] at hl
    have hl : o = l + 1 := hl
    rcases G.st with ⟨h, hb, _, x, hx, h0⟩ | ⟨h, hf⟩
    · refine callAt rfl (runR rfl (xA (eM (eAt rfl gU) (mU rfl) rfl (callAt rfl (f24b hu h))) (x0 rfl rfl (xR (eM (eAt rfl gS) (mS rfl) rfl (callAt rfl ?_))))))
      refine f16.trans (congrArg (fun x => RS.ok (MV.int x) _) ?_)
      rw [hx, h0 hl, List.append_nil, es_len, hb]
      have := G.lo
      omega
    · refine callAt rfl (runR rfl (xA (eM (eAt rfl gU) (mU rfl) rfl (callAt rfl (f24c hu h))) (xIr rfl rfl (xR ?_))))
      exact congrArg (fun x => RS.ok (MV.int x) _) (by rw [ho]; omega : (L.off : Int) - 1 = l)
theorem dn {i j : Int} (h : i < j) : decide (i < j) = true := decide_eq_true h
theorem dm {i j : Int} (h : j ≤ i) : decide (i < j) = false := decide_eq_false (Int.not_lt.mpr h)
theorem f18a (h : i = L.b) : callN P (d + 2) 18 [.obj (sx p), .int i] (HH p L O) = .ok (.int L.t) (HH p L O) := by
  subst h
  refine callAt rfl (runR rfl (x0 (tC rfl (eAt rfl gB) rfl) (nf (Nat.le_refl _)) (x0 (tC rfl (eM rfl (mS rfl) rfl (callAt rfl f16)) rfl) (dm (by omega)) (xIr (tC rfl (eAt rfl gB) rfl) (ez rfl) (xR (eAt rfl gT))))))
theorem f18b {t : Nat} (h : L.b < i) (hi : L.st[i - (L.b + 1)]? = some (en t i)) : callN P (d + 2) 18 [.obj (sx p), .int i] (HH p L O) = .ok (.int t) (HH p L O) := by
  have hl := (List.getElem?_eq_some_iff.mp hi).1
  refine callAt rfl (runR rfl (x0 (tC rfl (eAt rfl gB) rfl) (nf (Nat.le_of_lt h)) (x0 (tC rfl (eM rfl (mS rfl) rfl (callAt rfl f16)) rfl) (dm (by omega)) (x0 (tC rfl (eAt rfl gB) rfl) (ef (Nat.ne_of_gt h))
    (xR (eAt (v := en t i) (eIx (eAt rfl gL) (eB rfl (eM rfl (mS rfl) rfl (callAt rfl f15)) rfl) ?_) rfl))))))
  rw [show (i : Int) - ((L.b : Int) + 1) = ((i - (L.b + 1) : Nat) : Int) by omega]
  exact idx_list hi
theorem c34 (G : Gd L T f l o) (h1 : f ≤ i) (h2 : i ≤ l) : callN P (d + 3) 34 [.obj (lx p), .int i] (HH p L O) = .ok (.int (T i)) (HH p L O) := by
  have ho := G.off
  have st : ∀ {x : List MV}, L.st = es T (f + 1) (o - 1 - f) ++ x → L.b = f → f < i → i < o → L.st[i - (L.b + 1)]? = some (en (T i) i) := fun e hb hf hi => by
    rw [e, hb, List.getElem?_append_left (by rw [es_len]; omega), es_get (by omega), show f + 1 + (i - (f + 1)) = i by omega]
  by_cases hi : o ≤ i
  · have hg : L.ue[i - L.off]? = some (en (T i) i) := by rw [G.ue, ho, es_get (by omega), show o + (i - o) = i by omega]
    exact callAt rfl (runR rfl (xA (eM (eAt rfl gU) (mU rfl) rfl (callAt rfl (f25e (by omega) hg))) (xIr rfl rfl (xR rfl))))
  · rcases G.st with ⟨h, hb, ht, x, hx, _⟩ | ⟨h, hf⟩
    · refine callAt rfl (runR rfl (xA (eM (eAt rfl gU) (mU rfl) rfl (callAt rfl (f25a (by omega) h))) (x0 rfl rfl (x0 (tC rfl (eM rfl (mL rfl) rfl (c31 G)) rfl) (dm (by omega)) (x0 (tC rfl (eM rfl (mL rfl) rfl (c32 G)) rfl) (nf h2) (xR (eM (eAt rfl gS) (mS rfl) rfl ?_)))))))
      by_cases hf : i = f
      · exact (f18a (hf.trans hb.symm)).trans (by rw [ht, hf])
      · exact f18b (by omega) (st hx hb (by omega) (by omega))
    · have : i = f := by omega
      subst this
      exact callAt rfl (runR rfl (xA (eM (eAt rfl gU) (mU rfl) rfl (callAt rfl (f25b (by omega) h))) (xIr rfl rfl (xR rfl))))
end Mini.L
namespace Mini.L
open Mini
variable {p : Sh} {L O : Lg} {H : MH} {i d f l o t : Nat} {T : Nat → Nat}
theorem c34c (G : Gd L T f l o) (h : i < f) : callN P (d + 3) 34 [.obj (lx p), .int i] (HH p L O) = .ex 4 (HH p L O) := by
  have ho := G.off
  have hl := G.lo
  have hh := G.hi
  have hb := G.bd
  have k : callN P (d + 2) 25 [.obj (ux p), .int i] (HH p L O) = .ok .none (HH p L O) := by
    rcases G.st with ⟨h, _⟩ | ⟨h, _⟩
    · exact callAt rfl (f25a (by omega) h)
    · exact callAt rfl (f25c (by omega) h (by omega))
  exact callAt rfl (runX rfl (xA (eM (eAt rfl gU) (mU rfl) rfl k) (x0 rfl rfl (xIx (tC rfl (eM rfl (mL rfl) rfl (c31 G)) rfl) (dn (by omega)) (xX (eCons rfl (eCons (eM rfl (mL rfl) rfl (c31 G)) rfl)) (aI (by omega) (aI (by omega) rfl)))))))
theorem c34u (G : Gd L T f l o) (h : l < i) (hi : i < 100000) : callN P (d + 3) 34 [.obj (lx p), .int i] (HH p L O) = .ex 5 (HH p L O) := by
  have hl := G.len
  have ho := G.off
  have hl2 := G.lo
  have hh := G.hi
  have hb := G.bd
  exact callAt rfl (runX rfl (xA (eM (eAt rfl gU) (mU rfl) rfl (callAt rfl (f25d (by omega)))) (x0 rfl rfl (x0 (tC rfl (eM rfl (mL rfl) rfl (c31 G)) rfl) (dm (by omega)) (xIx (tC rfl (eM rfl (mL rfl) rfl (c32 G)) rfl) (nz h) (xX (eCons rfl (eCons (eM rfl (mL rfl) rfl (c32 G)) rfl)) (aI (by omega) (aI (by omega) rfl))))))))
theorem c35 (G : Gd L T f l o) (h1 : f ≤ i) (h2 : i ≤ l) : callN P (d + 4) 35 [.obj (lx p), .int i, .int t] (HH p L O) = .ok (.bool (decide (T i = t))) (HH p L O) :=
  callAt rfl (runR rfl (xTr (xR ((eC (eM rfl (mL rfl) rfl (c34 G h1 h2)) rfl rfl).trans (congrArg (fun x => RS.ok (MV.bool x) _) (decide_eq_decide.mpr Int.ofNat_inj))))))
theorem c35x (G : Gd L T f l o) (h : i < f ∨ l < i) (hi : i < 100000) : callN P (d + 4) 35 [.obj (lx p), .int i, .int t] (HH p L O) = .ok (.bool false) (HH p L O) := by
  rcases h with h | h
  · exact callAt rfl (runR rfl (xTc (rX (bnx (eM rfl (mL rfl) rfl (c34c G h)))) rfl))
  · exact callAt rfl (runR rfl (xTc (rX (bnx (eM rfl (mL rfl) rfl (c34u G h hi)))) rfl))
noncomputable def cbt (T : Nat → Nat) (f t : Nat) : Nat → Nat × Nat
  | 0 => (0, 0)
  | n + 1 => if n + 1 < f then (n + 1, 0) else if T (n + 1) ≤ t then (n + 1, T (n + 1)) else cbt T f t n
noncomputable def loc4 (a b c e : MV) : Loc := [.val a, .val b, .val c, .val e]
noncomputable def bd39 : MSs := match R.f39.fk with | .body (.cons (.whil _ _ b) _) => b | _ => .nil
noncomputable def ts39 : MT := match R.f39.fk with | .body (.cons (.whil _ t _) _) => t | _ => .and .nil
theorem loop39 (G : Gd L T f l o) (hf : 1 ≤ f) : ∀ (n N : Nat) (x : LV), n ≤ l → n < N →
    (cbt T f t n = (0, 0) ∧ ∃ y, whileM (evalT P (callN P (d + 3)) ts39) (execSs P (callN P (d + 3)) bd39) N [.val (.obj (lx p)), .val (.int n), .val (.int t), x] (HH p L O) = .next [.val (.obj (lx p)), .val (.int (0 : Nat)), .val (.int t), y] (HH p L O)) ∨
    whileM (evalT P (callN P (d + 3)) ts39) (execSs P (callN P (d + 3)) bd39) N [.val (.obj (lx p)), .val (.int n), .val (.int t), x] (HH p L O) = .ret (.tup [.int (cbt T f t n).1, .int (cbt T f t n).2]) (HH p L O)
  | 0, N + 1, x, _, _ => .inl ⟨rfl, x, w0 rfl (nf (Nat.le_refl 0))⟩
  | n + 1, N + 1, x, hl, hN => by
    have hb := G.bd
    by_cases h1 : n + 1 < f
    · refine .inr ?_
      rw [show cbt T f t (n + 1) = (n + 1, 0) from if_pos h1]
      exact wR rfl (nz (Nat.succ_pos n)) (xTc (aX (eM rfl (mL rfl) rfl (c34c G h1))) rfl)
    · have hc : cbt T f t (n + 1) = if T (n + 1) ≤ t then (n + 1, T (n + 1)) else cbt T f t n := if_neg h1
      by_cases h2 : T (n + 1) ≤ t
      · refine .inr ?_
        rw [hc, if_pos h2]
        exact wR rfl (nz (Nat.succ_pos n)) (xTn (xA (eM rfl (mL rfl) rfl (c34 G (by omega) hl)) rfl) (xIr rfl (lz h2) (xR rfl)))
      · rw [hc, if_neg h2]
        have ih := loop39 G hf n N (.val (.int (T (n + 1)))) (by omega) (by omega)
        have st : ∀ y, whileM (evalT P (callN P (d + 3)) ts39) (execSs P (callN P (d + 3)) bd39) N [.val (.obj (lx p)), .val (.int n), .val (.int t), .val (.int (T (n + 1)))] (HH p L O) = y →
            whileM (evalT P (callN P (d + 3)) ts39) (execSs P (callN P (d + 3)) bd39) (N + 1) [.val (.obj (lx p)), .val (.int ((n + 1 : Nat) : Int)), .val (.int t), x] (HH p L O) = y := fun y k =>
          wT rfl (nz (Nat.succ_pos n)) (xTn (xA (eM rfl (mL rfl) rfl (c34 G (by omega) hl)) rfl) (x0 rfl (lf (by omega)) (xG (w := .int ((n + 1 : Nat) : Int)) (u := .int n) rfl rfl (congrArg (fun x => some (MV.int x)) (by omega : ((n + 1 : Nat) : Int) - 1 = n)) rfl))) k
        exact ih.imp (fun ⟨a, y, b⟩ => ⟨a, y, st _ b⟩) fun b => st _ b
theorem c39 (G : Gd L T f l o) (hf : 1 ≤ f) {n : Nat} (hn : n ≤ l) : callN P (d + 4) 39 [.obj (lx p), .int n, .int t] (HH p L O) = .ok (.tup [.int (cbt T f t n).1, .int (cbt T f t n).2]) (HH p L O) := by
  have hb := G.bd
  rcases loop39 (d := d) (p := p) (O := O) (t := t) G hf n 100 .un hn (by omega) with ⟨h, y, k⟩ | k
  · rw [h]; exact callAt rfl (runR rfl (xWn k (xR rfl)))
  · exact callAt rfl (runR rfl (xWr k))
end Mini.L
namespace Mini.L
open Mini
variable {p : Sh} {L O : Lg} {H : MH} {i d f l o t n : Nat} {T : Nat → Nat} {x : LV}
theorem c0 (h : n < 128) : callN P (d + 1) 0 [.int n] H = .ok (.int 1) H :=
  callAt rfl (runR rfl (x0 (tO (tsC rfl (dm (Int.natCast_nonneg n)) (tsC rfl (dm (by omega)) tsN))) rfl (xA rfl (xWn (w0 rfl (lf h)) (xR rfl)))))
theorem dat_len : (dat t i).length = i % 3 := by rw [dat, len_flat]; exact Nat.mul_one _
noncomputable def sz (i : Nat) : Nat := 4 + i % 3
theorem c4 (ht : t < 128) (hi : i < 128) : callN P (d + 2) 4 [en t i] H = .ok (.int (sz i)) H := by
  have hd : callN P (d + 1) 0 [.int ((dat t i).length : Nat)] H = .ok (.int 1) H := c0 (by rw [dat_len]; omega)
  refine callAt rfl (runR rfl (xA rfl (xA (eB (eB (eCl rfl (c0 ht)) (eCl rfl (c0 hi)) rfl) (eCl rfl (c0 (Nat.succ_pos _))) rfl) (xR ?_))))
  refine (eB (eB rfl (eCl rfl hd) rfl) rfl rfl).trans (congrArg (fun x => RS.ok (MV.int x) _) ?_)
  rw [sz, dat_len]; omega
noncomputable def grow (lim : Nat) : Nat → Nat → Nat → Bool → Nat
  | 0, _, _, _ => 0
  | m + 1, i, tot, fst => if fst = false ∧ lim < tot + sz i then 0 else 1 + grow lim m (i + 1) (tot + sz i) false
theorem grow_le {lim : Nat} : ∀ {m i tot : Nat} {b : Bool}, grow lim m i tot b ≤ m
  | 0, _, _, _ => Nat.le_refl 0
  | m + 1, i, tot, b => by
    unfold grow
    split
    · exact Nat.zero_le _
    · rw [Nat.add_comm]; exact Nat.succ_le_succ grow_le
theorem grow_pos {lim m i tot : Nat} : 1 ≤ grow lim (m + 1) i tot true := by
  unfold grow
  rw [if_neg (fun h => nomatch h.1)]; omega
theorem grow_all {lim : Nat} : ∀ {m i tot : Nat} {b : Bool}, tot + 6 * m ≤ lim → grow lim m i tot b = m
  | 0, _, _, _, _ => rfl
  | m + 1, i, tot, b, h => by
    have hs : sz i ≤ 6 := by unfold sz; omega
    unfold grow
    rw [if_neg (fun h => by omega), grow_all (by omega)]; omega
theorem grow_cut {lim m' : Nat} : ∀ {m i tot : Nat} {b : Bool}, grow lim m i tot b < m → grow lim (m + m') i tot b = grow lim m i tot b
  | 0, _, _, _, h => absurd h (Nat.not_lt_zero _)
  | m + 1, i, tot, b, h => by
    rw [Nat.add_right_comm]
    unfold grow at h ⊢
    split
    · rfl
    · rename_i q
      rw [if_neg q] at h
      rw [grow_cut (by omega)]
noncomputable def bd5 : MSs := match R.f5.fk with | .body (.cons _ (.cons _ (.cons (.forr _ _ b) _))) => b | _ => .nil
theorem loop5 {lim : Nat} {E : MV} (hT : ∀ j, j < i + n → T j < 128) : ∀ (m a tot : Nat) (kept : List MV) (x : LV), a + m = i + n → a + m < 128 → kept.length + m < 1000 →
    ∃ v2 v4, forM 4 (execSs P (callN P (d + 2)) bd5) (es T a m) [.val E, .val (.int lim), .val (.int tot), .acc kept, x] H = .next [.val E, .val (.int lim), v2, .acc (kept ++ es T a (grow lim m a tot kept.isEmpty)), v4] H
  | 0, a, tot, kept, x, _, _, _ => ⟨_, _, by rw [show grow lim 0 a tot kept.isEmpty = 0 from rfl, show es T a 0 = [] from rfl, List.append_nil]; rfl⟩
  | m + 1, a, tot, kept, x, h1, h2, h3 => by
    have hs := c4 (d := d) (H := H) (hT a (by omega)) (show a < 128 by omega)
    have e := es_succ (T := T) (a := a) (n := m)
    rw [e]
    by_cases hk : kept.isEmpty = false ∧ lim < tot + sz a
    · rw [show grow lim (m + 1) a tot kept.isEmpty = 0 from if_pos hk, show es T a 0 = [] from rfl, List.append_nil]
      exact ⟨_, _, fB (xG (w := .int tot) (u := .int ((tot + sz a : Nat) : Int)) rfl (eM rfl rfl rfl hs) rfl (xIb (tA (tsC rfl (congrArg not hk.1) (tsC rfl (nz hk.2) tsN))) rfl rfl))⟩
    · have hg : grow lim (m + 1) a tot kept.isEmpty = grow lim m (a + 1) (tot + sz a) false + 1 := (if_neg hk).trans (Nat.add_comm ..)
      obtain ⟨v2, v4, ih⟩ := loop5 hT m (a + 1) (tot + sz a) (kept ++ [en (T a) a]) (.val (en (T a) a)) (by omega) (by omega) (by rw [List.length_append]; show kept.length + 1 + m < 1000; omega)
      have he : (kept ++ [en (T a) a]).isEmpty = false := by cases kept <;> rfl
      rw [he, List.append_assoc, List.singleton_append, ← es_succ, ← hg] at ih
      refine ⟨v2, v4, fN (xG (w := .int tot) (u := .int ((tot + sz a : Nat) : Int)) rfl (eM rfl rfl rfl hs) rfl ?_) ih⟩
      have fin : ∀ {H}, execSs P (callN P (d + 2)) (.cons (.accApp 3 (.var 4)) .nil) [.val E, .val (.int lim), .val (.int ((tot + sz a : Nat) : Int)), .acc kept, .val (en (T a) a)] H = .next [.val E, .val (.int lim), .val (.int ((tot + sz a : Nat) : Int)), .acc (kept ++ [en (T a) a]), .val (en (T a) a)] H := xP rfl rfl (by omega) rfl
      cases hke : kept.isEmpty with
      | true => exact x0 (tA (tsX rfl (congrArg not hke))) rfl fin
      | false => exact x0 (tA (tsC rfl (congrArg not hke) (tsX rfl (nf (Nat.le_of_not_lt fun q => hk ⟨hke, q⟩))))) rfl fin
theorem c5 {lim m a : Nat} (hT : ∀ j, j < a + m → T j < 128) (hm : a + m < 128) : callN P (d + 3) 5 [.list (es T a m), .int lim] H = .ok (.list (es T a (grow lim m a 0 true))) H := by
  obtain ⟨v2, v4, k⟩ := loop5 (d := d) (H := H) (E := .list (es T a m)) (lim := lim) hT m a 0 [] .un rfl hm (by show 0 + m < 1000; omega)
  exact callAt rfl (runR rfl (xA rfl (xN rfl (xFn (iO rfl) k (xZ rfl (xR rfl))))))
end Mini.L
namespace Mini.L
open Mini
variable {p : Sh} {L O : Lg} {H : MH} {i d f l o t n lo hi lim : Nat} {T : Nat → Nat} {x : LV}
theorem minN {i j : Nat} : (if (j : Int) < (i : Int) then (j : Int) else (i : Int)) = ((min i j : Nat) : Int) := by split <;> omega
theorem maxN {i j : Nat} : (if (i : Int) < (j : Int) then (j : Int) else (i : Int)) = ((max i j : Nat) : Int) := by split <;> omega
theorem minP {i j : Nat} (h : 1 ≤ j) : (if (j : Int) - ((1 : Nat) : Int) < (i : Int) then (j : Int) - ((1 : Nat) : Int) else (i : Int)) = ((min i (j - 1) : Nat) : Int) := by split <;> omega
theorem bound_nat {n k : Nat} (h : k ≤ n) : bound n (k : Int) = k := by
  unfold bound
  rw [if_neg (by omega)]; omega
theorem sl {xs : List MV} {a b : Int} {j k : Nat} (ha : a = j) (hb : b = k) (hj : j ≤ k) (hk : k ≤ xs.length) : sliceO (.list xs) (bd (.int a)) (bd (.int b)) = some (.list ((xs.take k).drop j)) := by
  subst ha; subst hb
  show some (MV.list (cut xs (bound xs.length j) (bound xs.length k))) = _
  rw [bound_nat hk, bound_nat (Nat.le_trans hj hk)]; rfl
theorem eSl {P : Prg} {cf : Nat → List MV → MH → RS MV} {l : Loc} {e a b : ME} {u v w y : MV} {H H₁ H₂ H₃ : MH} (h : evalE P cf e l H = .ok v H₁) (h1 : evalE P cf a l H₁ = .ok u H₂) (h2 : evalE P cf b l H₂ = .ok w H₃) (h3 : sliceO v (bd u) (bd w) = some y) : evalE P cf (.sliceLU e a b) l H = .ok y H₃ :=
  bnd h (bnd h1 (bnd h2 (op h3 rfl)))
theorem eMinV {P : Prg} {cf : Nat → List MV → MH → RS MV} {l : Loc} {a b : ME} {i j k : Int} {H H₁ H₂ : MH} (h : evalE P cf a l H = .ok (.int i) H₁) (h2 : evalE P cf b l H₁ = .ok (.int j) H₂) (e : (if j < i then j else i) = k) : evalE P cf (.min2 a b) l H = .ok (.int k) H₂ := e ▸ eMin h h2
theorem eMax {P : Prg} {cf : Nat → List MV → MH → RS MV} {l : Loc} {a b : ME} {i j : Int} {H H₁ H₂ : MH} (h : evalE P cf a l H = .ok (.int i) H₁) (h2 : evalE P cf b l H₁ = .ok (.int j) H₂) : evalE P cf (.max2 a b) l H = .ok (.int (if i < j then j else i)) H₂ := bnd h (bnd h2 rfl)
theorem add_list {xs ys : List MV} (h : xs.length + ys.length ≤ 1000) : binop .add (.list xs) (.list ys) = some (.list (xs ++ ys)) := by
  show (guardO (decide (xs.length + ys.length ≤ 1000)) _ : Option MV) = _
  rw [decide_eq_true h]; rfl
theorem eMaxV {P : Prg} {cf : Nat → List MV → MH → RS MV} {l : Loc} {a b : ME} {i j k : Int} {H H₁ H₂ : MH} (h : evalE P cf a l H = .ok (.int i) H₁) (h2 : evalE P cf b l H₁ = .ok (.int j) H₂) (e : (if i < j then j else i) = k) : evalE P cf (.max2 a b) l H = .ok (.int k) H₂ := e ▸ eMax h h2
theorem c28 (h1 : L.off ≤ lo) (h2 : lo ≤ hi) (h3 : hi ≤ L.off + L.ue.length) : callN P (d + 1) 28 [.obj (ux p), .int lo, .int hi] (HH p L O) = .ok (.list ((L.ue.take (hi - L.off)).drop (lo - L.off))) (HH p L O) :=
  callAt rfl (runR rfl (x0 rfl (nf h2) (x0 (tO (tsC (tC rfl (eAt rfl gO) rfl) (nf h1) (tsC (tC rfl (eB (eAt rfl gO) (eLen (eAt rfl gE) rfl) rfl) rfl) (nf h3) tsN))) rfl
    (xR (eSl (eAt rfl gE) (eB rfl (eAt rfl gO) rfl) (eB rfl (eAt rfl gO) rfl) (sl (sub_nat h1) (sub_nat (Nat.le_trans h1 h2)) (Nat.sub_le_sub_right h2 _) (by omega)))))))
theorem es_part {a m j k : Nat} (h1 : j ≤ k) (h2 : k ≤ m) : ((es T a m).take k).drop j = es T (a + j) (k - j) := by rw [es_take h2, es_drop h1]
theorem c17 {xs : List MV} (hs : L.st = es T (f + 1) n ++ xs) (hb : L.b = f) (h1 : f < lo) (h2 : lo < hi) (h3 : hi ≤ f + 1 + n) (hn : f + 1 + n < 128) (hT : ∀ j, j < f + 1 + n → T j < 128) :
    callN P (d + 4) 17 [.obj (sx p), .int lo, .int hi, .int lim] (HH p L O) = .ok (.list (es T lo (grow lim (hi - lo) lo 0 true))) (HH p L O) := by
  have hl : L.st.length = n + xs.length := by rw [hs, List.length_append, es_len]
  have e : (L.st.take (hi - (f + 1))).drop (lo - (f + 1)) = es T lo (hi - lo) := by
    rw [hs, List.take_append_of_le_length (by rw [es_len]; omega), es_part (by omega) (by omega), show f + 1 + (lo - (f + 1)) = lo by omega, show hi - (f + 1) - (lo - (f + 1)) = hi - lo by omega]
  refine callAt rfl (runR rfl (x0 (tC rfl (eAt rfl gB) rfl) (lf (by omega)) ?_))
  refine x0 (tC rfl (eB (eM rfl (mS rfl) rfl (callAt rfl f16)) rfl rfl) rfl) (dm (by rw [hl, hb]; omega)) ?_
  refine x0 rfl (lf h2) (xA (eM rfl (mS rfl) rfl (callAt rfl f15)) ?_)
  refine xR (eCl (eCons (eSl (eAt rfl gL) rfl rfl (sl (xs := L.st) (j := lo - (f + 1)) (k := hi - (f + 1)) (by rw [hb]; omega) (by rw [hb]; omega) (by omega) (by omega))) (eCons rfl rfl)) ?_)
  rw [e]
  exact c5 (fun j hj => hT j (by omega)) (by omega)
theorem c46 (G : Gd L T f l o) (h1 : f < lo) (h2 : lo ≤ l) : callN P (d + 5) 46 [.obj (lx p), .int lo, .int ((l : Int) + 1), .int lim] (HH p L O) = .ok (.list (es T lo (grow lim (l + 1 - lo) lo 0 true))) (HH p L O) := by
  have ho := G.off
  have hh := G.hi
  have hb := G.bd
  have hu := G.ue
  have hlen : L.ue.length = l + 1 - o := by rw [hu, es_len]
  have hT : ∀ j, j < l + 1 → T j < 128 := fun j hj => Nat.lt_trans (G.tb j (by omega)) (by decide)
  have k5 : callN P (d + 4) 5 [.list (es T lo (l + 1 - lo)), .int lim] (HH p L O) = .ok (.list (es T lo (grow lim (l + 1 - lo) lo 0 true))) (HH p L O) := c5 (fun j hj => hT j (by omega)) (by omega)
  refine callAt rfl (runR rfl (x0 rfl (dm (by omega)) (x0 (tC rfl (eM rfl (mL rfl) rfl (c31 G)) rfl) (dm (by omega)) (x0 (tC rfl (eB (eM rfl (mL rfl) rfl (c32 G)) rfl rfl) rfl) (dm (by omega)) (x0 rfl (decide_eq_false (by omega))
    (xA (eAt (eAt rfl gU) gO) (xA rfl ?_)))))))
  by_cases hlo : lo < o
  · obtain ⟨hs, hbf, ht, xs, hx, h0⟩ := G.st.resolve_right fun h => by omega
    have k17 : callN P (d + 4) 17 [.obj (sx p), .int lo, .int o, .int lim] (HH p L O) = .ok (.list (es T lo (grow lim (o - lo) lo 0 true))) (HH p L O) := c17 hx hbf h1 hlo (by omega) (by omega) (fun j hj => hT j (by omega))
    have kmin : (if (L.off : Int) < (l : Int) + 1 then (L.off : Int) else (l : Int) + 1) = (o : Int) := by rw [ho]; exact (minN (i := l + 1) (j := o)).trans (congrArg _ (Nat.min_eq_right hh))
    by_cases hk : grow lim (o - lo) lo 0 true < o - lo
    · have e : grow lim (l + 1 - lo) lo 0 true = grow lim (o - lo) lo 0 true := by
        rw [show l + 1 - lo = o - lo + (l + 1 - o) by omega]; exact grow_cut hk
      rw [e]
      refine xIr rfl (nz (by omega)) (xA (eMinV rfl rfl kmin) (xTn (xA (eM (eAt rfl gS) (mS rfl) rfl k17) rfl) (xIr (tC rfl rfl rfl) (dn ?_) (xR rfl))))
      show ((es T lo _).length : Int) < (o : Int) - (lo : Int)
      rw [es_len]; omega
    · have hk : grow lim (o - lo) lo 0 true = o - lo := Nat.le_antisymm grow_le (Nat.le_of_not_lt hk)
      rw [hk] at k17
      refine xI (l₂ := [.val (.obj (lx p)), .val (.int lo), .val (.int ((l : Int) + 1)), .val (.int lim), .val (.int L.off), .val (.list (es T lo (o - lo))), .val (.int o)]) rfl (nz (by omega)) (xA (eMinV rfl rfl kmin) (xTn (xA (eM (eAt rfl gS) (mS rfl) rfl k17) rfl) (x0 (tC rfl rfl rfl) (dm ?_) rfl))) ?_
      · show (o : Int) - (lo : Int) ≤ ((es T lo _).length : Int)
        rw [es_len]; omega
      by_cases hoe : o = l + 1
      · refine x0 rfl (dm (by rw [ho]; omega)) (xR (eCl rfl ?_))
        rw [hoe]; exact k5
      · have k28 : callN P (d + 4) 28 [.obj (ux p), .int o, .int ((l + 1 : Nat) : Int)] (HH p L O) = .ok (.list (es T o (l + 1 - o))) (HH p L O) := by
          refine (c28 (by omega) (by omega) (by omega)).trans (congrArg (fun x => RS.ok (MV.list x) _) ?_)
          rw [hu, es_part (by omega) (by omega), ho, Nat.sub_self]; rfl
        have kmax : (if (lo : Int) < (L.off : Int) then (L.off : Int) else (lo : Int)) = (o : Int) := by rw [if_pos (by omega), ho]
        refine xI rfl (dn (by omega)) (xA (eB rfl (eM (eAt rfl gU) (mU rfl) (eCons (eMaxV rfl rfl kmax) (eCons rfl rfl)) k28) (add_list (by rw [es_len, es_len]; omega))) rfl) (xR (eCl rfl ?_))
        have e : es T lo (o - lo) ++ es T o (l + 1 - o) = es T lo (l + 1 - lo) := by
          rw [show l + 1 - lo = (o - lo) + (l + 1 - o) by omega, es_add, show lo + (o - lo) = o by omega]
        rw [e]; exact k5
  · have k28 : callN P (d + 4) 28 [.obj (ux p), .int lo, .int ((l + 1 : Nat) : Int)] (HH p L O) = .ok (.list (es T lo (l + 1 - lo))) (HH p L O) := by
      refine (c28 (by omega) (by omega) (by omega)).trans (congrArg (fun x => RS.ok (MV.list x) _) ?_)
      rw [hu, es_part (by omega) (by omega), ho, show o + (lo - o) = lo by omega, show l + 1 - o - (lo - o) = l + 1 - lo by omega]
    have kmax : (if (lo : Int) < (L.off : Int) then (L.off : Int) else (lo : Int)) = (lo : Int) := if_neg (by omega)
    refine x0 rfl (nf (by omega)) (xI rfl (dn (by omega)) (xA (eB rfl (eM (eAt rfl gU) (mU rfl) (eCons (eMaxV rfl rfl kmax) (eCons rfl rfl)) k28) (add_list (by rw [es_len]; show 0 + _ ≤ 1000; omega))) rfl) (xR (eCl rfl ?_)))
    exact k5
theorem c44 (G : Gd L T f l o) (h1 : f < lo) (h2 : lo ≤ l + 1) : callN P (d + 6) 44 [.obj (lx p), .int lo, .int lim] (HH p L O) = .ok (.list (es T lo (grow lim (l + 1 - lo) lo 0 true))) (HH p L O) := by
  by_cases h : lo ≤ l
  · exact callAt rfl (runR rfl (x0 (tC rfl (eM rfl (mL rfl) rfl (c32 G)) rfl) (nf h) (xR (eM rfl (mL rfl) (eCons rfl (eCons (eB (eM rfl (mL rfl) rfl (c32 G)) rfl rfl) (eCons rfl rfl))) (c46 G h1 h)))))
  · have e : l + 1 - lo = 0 := by omega
    rw [e]
    exact callAt rfl (runR rfl (xIr (tC rfl (eM rfl (mL rfl) rfl (c32 G)) rfl) (nz (by omega)) (xR rfl)))
theorem c45 (G : Gd L T f l o) (h : f ≤ l) : callN P (d + 7) 45 [.obj (lx p)] (HH p L O) = .ok (.list (es T (f + 1) (l - f))) (HH p L O) := by
  have hb := G.bd
  refine callAt rfl (runR rfl (xR (eM rfl (mL rfl) (eCons (eM rfl (mL rfl) rfl (c31 G)) (eCons rfl rfl)) ((c44 (lo := f + 1) (lim := 18446744073709551615) G (by omega) (by omega)).trans ?_))))
  rw [grow_all (by omega), show l + 1 - (f + 1) = l - f by omega]
end Mini.L
namespace Mini.L
open Mini
variable {p : Sh} {L O : Lg} {H : MH} {i d f l o t n m c : Nat} {T M : Nat → Nat} {x : LV}
theorem sE {xs : List MV} : setO P (.obj (ux p)) 16 (.list xs) (HH p L O) = some (HH p { L with ue := xs } O) := by cases p <;> rfl
theorem sO {k : Nat} : setO P (.obj (ux p)) 18 (.int k) (HH p L O) = some (HH p { L with off := k } O) := by cases p <;> rfl
theorem sN {k t : Nat} : setO P (.obj (ux p)) 17 (snapE k t) (HH p L O) = some (HH p { L with sn := some (k, t) } O) := by cases p <;> rfl
theorem sC {k : Nat} : setO P (.obj (lx p)) 22 (.int k) (HH p L O) = some (HH p { L with com := k } O) := by cases p <;> rfl
theorem eSA {P : Prg} {cf : Nat → List MV → MH → RS MV} {l : Loc} {e : ME} {xs : List MV} {H H₁ : MH} (h : evalE P cf e l H = .ok (.list xs) H₁) : evalE P cf (.sliceA e) l H = .ok (.list xs) H₁ := (bnd h (op (c := MV.list xs) (by
  show some (MV.list ((xs.take xs.length).drop 0)) = _
  rw [List.take_length]; rfl) rfl))
theorem eSL {P : Prg} {cf : Nat → List MV → MH → RS MV} {l : Loc} {e a : ME} {xs : List MV} {k : Int} {j : Nat} {H H₁ H₂ : MH} (h : evalE P cf e l H = .ok (.list xs) H₁) (h1 : evalE P cf a l H₁ = .ok (.int k) H₂) (hk : k = j) (hj : j ≤ xs.length) : evalE P cf (.sliceL e a) l H = .ok (.list (xs.drop j)) H₂ := (bnd h (bnd h1 (op (c := MV.list (xs.drop j)) (by
  subst hk
  show some (MV.list ((xs.take xs.length).drop (bound xs.length j))) = _
  rw [List.take_length, bound_nat hj]) rfl)))
noncomputable def mix (c : Nat) (T M : Nat → Nat) : Nat → Nat := fun i => if i < c then T i else M i
theorem es_mix_lo {a k : Nat} (h : a + k ≤ c) : es (mix c T M) a k = es T a k := es_congr fun j _ h2 => if_pos (by omega)
theorem es_mix_hi {a k : Nat} (h : c ≤ a) : es (mix c T M) a k = es M a k := es_congr fun j h1 _ => if_neg (by omega)
theorem es_mix {a k j : Nat} (h : a + k = c) : es T a k ++ es M c j = es (mix c T M) a (k + j) := by
  rw [es_add, es_mix_lo (Nat.le_of_eq h), es_mix_hi (Nat.le_of_eq h.symm), h]
noncomputable def Lg.put (L : Lg) (T M : Nat → Nat) (o c m : Nat) : Lg := { L with off := min o c, ue := es (mix c T M) (min o c) (c + m - min o c) }
theorem Gd.put (G : Gd L T f l o) (hm : 1 ≤ m) (hc : f < c) (hc2 : c ≤ l + 1) (hb : c + m ≤ 100) (hM : ∀ i, c ≤ i → i < c + m → M i < 100) : Gd (L.put T M o c m) (mix c T M) f (c + m - 1) (min o c) := by
  have hl := G.lo
  have hh := G.hi
  refine ⟨rfl, by omega, by omega, ?_, by omega, fun i hi => ?_, ?_⟩
  · show es _ _ _ = es _ _ _
    rw [show c + m - 1 + 1 = c + m by omega]
  · unfold mix
    split
    · exact G.tb i (by omega)
    · exact hM i (by omega) (by omega)
  · rcases G.st with ⟨h, hb, ht, x, hx, h0⟩ | ⟨h, hf⟩
    · refine .inl ⟨h, hb, ht.trans (if_pos hc).symm, es T (min o c) (o - min o c) ++ x, ?_, fun q => by omega⟩
      show L.st = _
      rw [hx, ← List.append_assoc, es_mix_lo (by omega), show o - 1 - f = (min o c - 1 - f) + (o - min o c) by omega, es_add, show f + 1 + (min o c - 1 - f) = min o c by omega]
    · exact .inr ⟨h.trans (by unfold mix; rw [if_pos hc]), by omega⟩
theorem es_first (hm : 1 ≤ m) : (es M c m)[0]? = some (en (M c) c) := es_get hm
theorem c27 (G : Gd L T f l o) (hm : 1 ≤ m) (hc : f < c) (hc2 : c ≤ l + 1) (hb : c + m ≤ 100) : callN P (d + 2) 27 [.obj (ux p), .list (es M c m)] (HH p L O) = .ok .none (HH p (L.put T M o c m) O) := by
  have ho := G.off
  have hl := G.len
  have hu := G.ue
  have hh := G.hi
  have hlen : (es M c m).length = m := es_len
  have hul : L.ue.length = l + 1 - o := by rw [hu, es_len]
  refine callAt rfl (runN (l₁ := [.val (.obj (ux p)), .val (.list (es M c m)), .val (.int c)]) rfl (x0 (tC (v := .int m) (eLen rfl (congrArg (fun k : Nat => some (MV.int k)) hlen)) rfl rfl) (decide_eq_false (by omega)) (xA (eAt (v := en (M c) c) (eIx rfl rfl (idx_list (k := 0) (es_first hm))) rfl) ?_)))
  by_cases h1 : c = l + 1
  · refine xI (tC rfl (eB (eAt rfl gO) (eLen (eAt rfl gE) rfl) rfl) rfl) (ez (m := L.off + L.ue.length) (by omega)) (xS (eB (eAt rfl gE) rfl (add_list (by omega))) rfl sE rfl) ?_
    have e : { L with ue := L.ue ++ es M c m } = L.put T M o c m := by
      unfold Lg.put
      rw [hu, es_mix (by omega), show min o c = o by omega, ho, show l + 1 - o + m = c + m - o by omega]
    rw [e]; rfl
  · by_cases h2 : c ≤ o
    · refine xL (tC rfl (eB (eAt rfl gO) (eLen (eAt rfl gE) rfl) rfl) rfl) (ef (m := L.off + L.ue.length) (by omega)) (xI (tC rfl (eAt rfl gO) rfl) (lz (by omega)) (xS rfl rfl sO (xS (eSA rfl) rfl sE rfl)) rfl) ?_
      have e : { L with off := c, ue := es M c m } = L.put T M o c m := by
        unfold Lg.put
        rw [show min o c = c by omega, es_mix_hi (Nat.le_refl c), Nat.add_sub_cancel_left]
      rw [← e]; rfl
    · have k28 : callN P (d + 1) 28 [.obj (ux p), .int L.off, .int c] (HH p L O) = .ok (.list (es T o (c - o))) (HH p L O) := by
        refine (c28 (Nat.le_refl _) (by omega) (by omega)).trans (congrArg (fun x => RS.ok (MV.list x) _) ?_)
        rw [hu, es_part (by omega) (by omega), ho, Nat.sub_self]; rfl
      refine xL (tC rfl (eB (eAt rfl gO) (eLen (eAt rfl gE) rfl) rfl) rfl) (ef (m := L.off + L.ue.length) (by omega)) (xL (tC rfl (eAt rfl gO) rfl) (lf (by omega)) (xI (tC rfl (eB (eAt rfl gO) (eLen (eAt rfl gE) rfl) rfl) rfl) (nz (m := L.off + L.ue.length) (by omega)) (xS (eB (eM rfl (mU rfl) (eCons (eAt rfl gO) (eCons rfl rfl)) k28) rfl (add_list (by rw [es_len, es_len]; omega))) rfl sE rfl) rfl) rfl) ?_
      have e : { L with ue := es T o (c - o) ++ es M c m } = L.put T M o c m := by
        unfold Lg.put
        rw [es_mix (by omega), show min o c = o by omega, ho, show c - o + m = c + m - o by omega]
      rw [e]; rfl
theorem c37 (G : Gd L T f l o) (hm : 1 ≤ m) (hc : f < c) (hc2 : c ≤ l + 1) (hb : c + m ≤ 100) (hM : ∀ i, c ≤ i → i < c + m → M i < 100) (hcom : L.com < c) :
    callN P (d + 3) 37 [.obj (lx p), .list (es M c m)] (HH p L O) = .ok (.int ((c + m - 1 : Nat) : Int)) (HH p (L.put T M o c m) O) := by
  have hlen : (es M c m).length = m := es_len
  refine callAt rfl (runR rfl (x0 (tC (v := .int m) (eLen rfl (congrArg (fun k : Nat => some (MV.int k)) hlen)) rfl rfl) (decide_eq_false (by omega)) (xA (eB (eAt (v := en (M c) c) (eIx rfl rfl (idx_list (k := 0) (es_first hm))) rfl) rfl rfl) ?_)))
  refine x0 (tC rfl (eAt rfl gC) rfl) (dm (by omega)) (x0 (tC rfl (eM rfl (mL rfl) rfl (c32 G)) rfl) (dm (by omega)) (xE (eM (eAt rfl gU) (mU rfl) rfl (c27 G hm hc hc2 hb)) (xR (eM rfl (mL rfl) rfl (c32 (G.put hm hc hc2 hb hM))))))
noncomputable def fcon (T M : Nat → Nat) (l : Nat) : Nat → Nat → Nat
  | 0, _ => 0
  | n + 1, a => if a ≤ l ∧ T a = M a then fcon T M l n (a + 1) else a
noncomputable def bd38 : MSs := match R.f38.fk with | .body (.cons (.forr _ _ b) _) => b | _ => .nil
theorem loop38 (G : Gd L T f l o) {E : MV} : ∀ (n a : Nat) (x : LV), f ≤ a → 1 ≤ a → a + n < 1000 →
    (fcon T M l n a = 0 ∧ ∃ y, forM 2 (execSs P (callN P (d + 4)) bd38) (es M a n) [.val (.obj (lx p)), .val E, x] (HH p L O) = .next [.val (.obj (lx p)), .val E, y] (HH p L O)) ∨
    forM 2 (execSs P (callN P (d + 4)) bd38) (es M a n) [.val (.obj (lx p)), .val E, x] (HH p L O) = .ret (.int (fcon T M l n a)) (HH p L O)
  | 0, a, x, _, _, _ => .inl ⟨rfl, x, rfl⟩
  | n + 1, a, x, h1, h2, h3 => by
    rw [es_succ]
    by_cases h : a ≤ l ∧ T a = M a
    · rw [show fcon T M l (n + 1) a = fcon T M l n (a + 1) from if_pos h]
      have st : ∀ y, forM 2 (execSs P (callN P (d + 4)) bd38) (es M (a + 1) n) [.val (.obj (lx p)), .val E, .val (en (M a) a)] (HH p L O) = y → forM 2 (execSs P (callN P (d + 4)) bd38) (en (M a) a :: es M (a + 1) n) [.val (.obj (lx p)), .val E, x] (HH p L O) = y := fun y k =>
        fN (x0 (tN (bnd (eM rfl (mL rfl) rfl (c35 G h1 h.1)) rfl)) (congrArg not (decide_eq_true h.2)) rfl) k
      exact (loop38 G n (a + 1) (.val (en (M a) a)) (by omega) (by omega) (by omega)).imp (fun ⟨e, y, k⟩ => ⟨e, y, st _ k⟩) fun k => st _ k
    · rw [show fcon T M l (n + 1) a = a from if_neg h]
      refine .inr (fR ?_)
      by_cases h4 : a ≤ l
      · exact xIr (tN (bnd (eM rfl (mL rfl) rfl (c35 G h1 h4)) rfl)) (congrArg not (decide_eq_false fun e => h ⟨h4, e⟩)) (xR rfl)
      · exact xIr (tN (bnd (eM rfl (mL rfl) rfl (c35x G (.inr (by omega)) (by omega))) rfl)) rfl (xR rfl)
theorem c38 (G : Gd L T f l o) {a : Nat} (h1 : f ≤ a) (h2 : 1 ≤ a) (h3 : a + n < 1000) : callN P (d + 5) 38 [.obj (lx p), .list (es M a n)] (HH p L O) = .ok (.int (fcon T M l n a)) (HH p L O) := by
  rcases loop38 (d := d) (p := p) (O := O) (M := M) (E := .list (es M a n)) G n a .un h1 h2 h3 with ⟨e, y, k⟩ | k
  · rw [e]; exact callAt rfl (runR rfl (xFn (iO rfl) k (xR rfl)))
  · exact callAt rfl (runR rfl (xFr (iO rfl) k))
theorem c41 (G : Gd L T f l o) (h : i ≤ l) : callN P (d + 3) 41 [.obj (lx p), .int i] (HH p L O) = .ok .none (HH p { L with com := max L.com i } O) := by
  by_cases hc : i ≤ L.com
  · have e : { L with com := max L.com i } = L := by rw [show max L.com i = L.com by omega]
    rw [e]
    exact callAt rfl (runR rfl (xIr (tC rfl (eAt rfl gC) rfl) (lz hc) (xR rfl)))
  · rw [show max L.com i = i by omega]
    exact callAt rfl (runN rfl (x0 (tC rfl (eAt rfl gC) rfl) (lf (by omega)) (x0 (tC rfl (eM rfl (mL rfl) rfl (c32 G)) rfl) (nf h) (xS rfl rfl sC rfl))))
theorem Gd.com (G : Gd L T f l o) (k : Nat) : Gd { L with com := k } T f l o := ⟨G.off, G.lo, G.hi, G.ue, G.bd, G.tb, G.st⟩
end Mini.L
namespace Mini.L
open Mini
variable {p : Sh} {L O : Lg} {H : MH} {i d f l o n m c k t cm : Nat} {T M : Nat → Nat} {x : LV}
theorem range_nat {a b : Nat} : rangeV (a : Int) (b : Int) = (List.range' a (b - a)).map fun (j : Nat) => MV.int (j : Int) := by
  unfold rangeV
  rw [show ((b : Int) - (a : Int)).toNat = b - a by omega, List.range'_eq_map_range, List.map_map]; rfl
theorem iR1n {P : Prg} {cf : Nat → List MV → MH → RS MV} {l : Loc} {e : ME} {H H₁ : MH} (h : evalE P cf e l H = .ok (.int n) H₁) (hn : n ≤ 1000) : evalI P cf (.range1 e) l H = .ok ((List.range' 0 n).map fun (j : Nat) => MV.int (j : Int)) H₁ :=
  (iR1 h (by omega)).trans (congrArg (RS.ok · H₁) (range_nat (a := 0)))
theorem iR2n {P : Prg} {cf : Nat → List MV → MH → RS MV} {l : Loc} {e a : ME} {j k : Int} {H H₁ H₂ : MH} (h : evalE P cf a l H = .ok (.int j) H₁) (h2 : evalE P cf e l H₁ = .ok (.int k) H₂) (hj : j = m) (hk : k = n) (hn : m ≤ 1000 ∧ n ≤ 1000) : evalI P cf (.range2 a e) l H = .ok ((List.range' m (n - m)).map fun (j : Nat) => MV.int (j : Int)) H₂ := by
  subst hj; subst hk
  exact (iR2 h h2 (by omega)).trans (congrArg (RS.ok · H₂) range_nat)
noncomputable def bd36 : MSs := match R.f36.fk with | .body (.cons _ (.cons (.forr _ _ b) _)) => b | _ => .nil
noncomputable def loc36 (s i t c e : MV) (x : LV) : Loc := [.val s, .val i, .val t, .val c, .val e, x, .un, .un]
def Ixd (E : List MV) (j k : Nat) : Prop := ∃ v, E[j]? = some v ∧ ∀ H, getAttr P v 1 H = some (.int k)
theorem loop36 {E : List MV} {s u w : MV} : ∀ (m a : Nat) (x : LV), (∀ j, a ≤ j → j < a + m → Ixd E j (i + 1 + j)) →
    ∃ y, forM 5 (execSs P (callN P d) bd36) ((List.range' a m).map fun (j : Nat) => MV.int (j : Int)) (loc36 s (.int i) u w (.list E) x) H = .next (loc36 s (.int i) u w (.list E) y) H
  | 0, _, x, _ => ⟨x, rfl⟩
  | m + 1, a, x, h => by
    obtain ⟨v, h1, h2⟩ := h a (Nat.le_refl _) (by omega)
    obtain ⟨y, k⟩ := loop36 m (a + 1) (.val (.int a)) fun j hj hm => h j (by omega) (by omega)
    refine ⟨y, ?_⟩
    rw [List.range'_succ, List.map_cons]
    exact fN (x0 (tC (eAt (eIx rfl rfl (idx_list h1)) (h2 H)) rfl rfl) (congrArg not (ez rfl)) rfl) k
theorem es_ixd {a n j : Nat} (h : j < n) : Ixd (es M a n) j (a + j) := ⟨_, es_get h, fun _ => rfl⟩
theorem c36n (G : Gd L T f l o) (h1 : f ≤ i) (hi : i < 1000) (h : l < i ∨ T i ≠ t) {E : MV} : callN P (d + 5) 36 [.obj (lx p), .int i, .int t, .int cm, E] (HH p L O) = .ok .none (HH p L O) := by
  by_cases h4 : i ≤ l
  · exact callAt rfl (runR rfl (xIr (tN (bnd (eM rfl (mL rfl) rfl (c35 G h1 h4)) rfl)) (congrArg not (decide_eq_false (h.resolve_left (by omega)))) (xR rfl)))
  · exact callAt rfl (runR rfl (xIr (tN (bnd (eM rfl (mL rfl) rfl (c35x G (.inr (by omega)) (by omega))) rfl)) rfl (xR rfl)))
theorem fcon_spec : ∀ {n a : Nat}, 1 ≤ a → (fcon T M l n a = 0 ∧ ∀ j, a ≤ j → j < a + n → j ≤ l ∧ T j = M j) ∨ (a ≤ fcon T M l n a ∧ fcon T M l n a < a + n ∧ (∀ j, a ≤ j → j < fcon T M l n a → j ≤ l ∧ T j = M j) ∧ ¬ (fcon T M l n a ≤ l ∧ T (fcon T M l n a) = M (fcon T M l n a)))
  | 0, a, _ => .inl ⟨rfl, fun j h1 h2 => absurd h2 (by omega)⟩
  | n + 1, a, h => by
    unfold fcon
    split
    · rename_i q
      rcases fcon_spec (n := n) (a := a + 1) (by omega) with ⟨e, h2⟩ | ⟨e1, e2, e3, e4⟩
      · exact .inl ⟨e, fun j h3 h4 => if hj : j = a then hj ▸ q else h2 j (by omega) (by omega)⟩
      · exact .inr ⟨by omega, by omega, fun j h3 h4 => if hj : j = a then hj ▸ q else e3 j (by omega) h4, e4⟩
    · rename_i q
      exact .inr ⟨Nat.le_refl _, by omega, fun j h3 h4 => absurd h4 (by omega), q⟩
theorem c36s (G : Gd L T f l o) (h1 : f ≤ i) (h2 : i ≤ l) (ht : T i = t) (hn : i + n < 100) (hc : fcon T M l n (i + 1) = 0) (hl : i + n ≤ l) : callN P (d + 6) 36 [.obj (lx p), .int i, .int t, .int cm, .list (es M (i + 1) n)] (HH p L O) = .ok (.int ((i + n : Nat) : Int)) (HH p { L with com := max L.com (min cm (i + n)) } O) := by
  have hlen : (es M (i + 1) n).length = n := es_len
  obtain ⟨y, k⟩ := loop36 (d := d + 5) (H := HH p L O) (E := es M (i + 1) n) (s := .obj (lx p)) (u := .int t) (w := .int cm) (i := i) n 0 .un fun j _ hj => es_ixd (by omega)
  refine callAt rfl (runR rfl (x0 (tN (bnd (eM rfl (mL rfl) rfl (c35 G h1 h2)) rfl)) (congrArg not (decide_eq_true ht)) (xFn (iR1n (eLen rfl (congrArg (fun k : Nat => some (MV.int k)) hlen)) (by omega)) k ?_)))
  refine xA (eB (w := .int n) rfl (eLen rfl (congrArg (fun k : Nat => some (MV.int k)) hlen)) rfl) (xA (eM rfl (mL rfl) rfl (c38 G (by omega) (by omega) (by omega))) ?_)
  rw [hc]
  refine x0 rfl rfl (xE (eM rfl (mL rfl) (eCons (eMinV (k := ((min cm (i + n) : Nat) : Int)) rfl rfl (minN (i := cm) (j := i + n))) rfl) (c41 G (by omega))) (xR rfl))
theorem c36c (G : Gd L T f l o) (h1 : f ≤ i) (h2 : i ≤ l) (ht : T i = t) (hn : i + n < 100) (hc : fcon T M l n (i + 1) = c) (hf : i < c) (hcn : c ≤ i + n) (hcl : c ≤ l + 1) (hM : ∀ j, j ≤ i + n → M j < 100) (hcom : L.com < c) :
    callN P (d + 6) 36 [.obj (lx p), .int i, .int t, .int cm, .list (es M (i + 1) n)] (HH p L O) = .ok (.int ((i + n : Nat) : Int)) (HH p { L.put T M o c (i + n + 1 - c) with com := max L.com (min cm (i + n)) } O) := by
  have hlen : (es M (i + 1) n).length = n := es_len
  obtain ⟨y, k⟩ := loop36 (d := d + 5) (H := HH p L O) (E := es M (i + 1) n) (s := .obj (lx p)) (u := .int t) (w := .int cm) (i := i) n 0 .un fun j _ hj => es_ixd (by omega)
  refine callAt rfl (runR rfl (x0 (tN (bnd (eM rfl (mL rfl) rfl (c35 G h1 h2)) rfl)) (congrArg not (decide_eq_true ht)) (xFn (iR1n (eLen rfl (congrArg (fun k : Nat => some (MV.int k)) hlen)) (by omega)) k ?_)))
  refine xA (eB (w := .int n) rfl (eLen rfl (congrArg (fun k : Nat => some (MV.int k)) hlen)) rfl) (xA (eM rfl (mL rfl) rfl (c38 G (by omega) (by omega) (by omega))) ?_)
  rw [hc]
  have hd : (es M (i + 1) n).drop (c - (i + 1)) = es M c (i + n + 1 - c) := by
    rw [es_drop (by omega), show i + 1 + (c - (i + 1)) = c by omega, show n - (c - (i + 1)) = i + n + 1 - c by omega]
  have k37 := c37 (p := p) (O := O) (d := d + 2) G (M := M) (m := i + n + 1 - c) (c := c) (by omega) (by omega) hcl (by omega) (fun j _ hj => hM j (by omega)) hcom
  have G' := G.put (M := M) (m := i + n + 1 - c) (c := c) (by omega) (by omega) hcl (by omega) (fun j _ hj => hM j (by omega))
  rw [← hd] at k37
  refine xI rfl (congrArg not (decide_eq_false (by omega))) (x0 (tC rfl (eAt rfl gC) rfl) (lf hcom) (xE (eM rfl (mL rfl) (eCons (eSL (j := c - (i + 1)) rfl rfl (by omega) (by omega)) rfl) k37) rfl)) (xE (eM rfl (mL rfl) (eCons (eMinV (k := ((min cm (i + n) : Nat) : Int)) rfl rfl (minN (i := cm) (j := i + n))) rfl) (c41 G' (by omega))) (xR rfl))
theorem c40 (G : Gd L T f l o) (h : L.com ≤ k) : callN P (d + 2) 40 [.obj (lx p), snapE k t] (HH p L O) = .ok .none (HH p { L with com := k, off := k + 1, ue := [], sn := some (k, t) } O) := by
  have k26 : ∀ {L : Lg}, callN P (d + 1) 26 [.obj (ux p), snapE k t] (HH p L O) = .ok .none (HH p { L with off := k + 1, ue := [], sn := some (k, t) } O) := fun {L} => callAt rfl (runN rfl (xS rfl rfl (sO (k := k + 1)) (xS rfl rfl sE (xS rfl rfl sN rfl))))
  exact callAt rfl (runN rfl (x0 (tC rfl (eAt rfl gC) rfl) (nf h) (xS rfl rfl sC (xE (eM (eAt rfl gU) (mU rfl) rfl k26) rfl))))
theorem c42 : callN P (d + 1) 42 [.obj (lx p)] (HH p L O) = .ok (.list L.ue) (HH p L O) := callAt rfl (runR rfl (xR (eSA (eAt (eAt rfl gU) gE))))
theorem c53 (G : Gd L T f l o) : callN P (d + 3) 53 [.obj (lx p)] (HH p L O) = .ok (.int o) (HH p L O) := by
  have hl := G.len
  exact callAt rfl (runR rfl (xR ((eB (eB (eM rfl (mL rfl) rfl (c32 G)) rfl rfl) (eLen (eM rfl (mL rfl) rfl c42) rfl) rfl).trans (congrArg (fun x => RS.ok (MV.int x) _) (by omega : (l : Int) + 1 - (L.ue.length : Int) = o)))))
theorem c33 (G : Gd L T f l o) (h : f ≤ l) : callN P (d + 4) 33 [.obj (lx p)] (HH p L O) = .ok (.int (T l)) (HH p L O) :=
  callAt rfl (runR rfl (xTr (xR (eM rfl (mL rfl) (eCons (eM rfl (mL rfl) rfl (c32 G)) rfl) (c34 G h (Nat.le_refl _))))))
theorem c43 : callN P (d + 2) 43 [.obj (lx p)] (HH p L O) = .ok (.bool (match L.sn with | none => false | some q => !decide ((q.1 : Int) = 0))) (HH p L O) := by
  obtain ⟨b, t, st, sn, ue, off, com, app⟩ := L
  cases sn with
  | none => cases p <;> exact callAt rfl (runR rfl (xR rfl))
  | some q => cases p <;> exact callAt rfl (runR rfl (xR rfl))
end Mini.L
namespace Mini.L
open Mini
variable {p : Sh} {L O : Lg} {H : MH} {i d f l o n m c k t cm : Nat} {T M : Nat → Nat} {x : LV}
theorem eqvs_self : ∀ {l : List MV}, (∀ v ∈ l, eqv v v = true) → eqvs l l = true
  | [], _ => rfl
  | v :: r, h => by
    show (((v :: r).head?.any (eqv v)) && eqvs r r) = true
    rw [show (v :: r).head?.any (eqv v) = eqv v v from rfl, h v (.head _), eqvs_self fun w hw => h w (.tail _ hw)]; rfl
theorem eqv_self : ∀ (n : Nat) (v : MV), plain n v = true → eqv v v = true
  | _, .none, _ => rfl
  | _, .bool b, _ => by cases b <;> rfl
  | _, .int i, _ => decide_eq_true rfl
  | _, .bytes l, _ => beq_self_eq_true l
  | n + 1, .tup l, h => eqvs_self fun v hv => eqv_self n v (List.all_eq_true.mp h v hv)
  | n + 1, .list l, h => eqvs_self fun v hv => eqv_self n v (List.all_eq_true.mp h v hv)
  | 0, .tup _, h => nomatch h
  | 0, .list _, h => nomatch h
  | n, .inst .., h => by cases n <;> cases h
  | n, .obj .., h => by cases n <;> cases h
theorem ne_self {v : MV} (h : plain 8 v = true) (hi : v.int? = none) : cmpop .ne v v = some false := by
  show (intz v v _).or (cmpO .ne v v) = _
  unfold intz
  rw [hi]
  show guardO (plain 8 v && eqv v v) false = _
  rw [h, eqv_self 8 v h]; rfl
noncomputable def er (t i : Nat) : MV := .tup [.int t, .int i, .int 0, .bytes (dat t i)]
noncomputable def rs (T : Nat → Nat) (a n : Nat) : List MV := (List.range n).map fun k => er (T (a + k)) (a + k)
theorem rs_succ {a n : Nat} : rs T a (n + 1) = er (T a) a :: rs T (a + 1) n := by
  rw [rs, List.range_succ_eq_map, List.map_cons, List.map_map]
  refine congrArg (List.cons _) (List.map_congr_left fun k _ => ?_)
  show er (T (a + (k + 1))) _ = er (T (a + 1 + k)) _
  rw [Nat.add_right_comm, ← Nat.add_assoc]
theorem rs_congr {T T' : Nat → Nat} {a n : Nat} (h : ∀ k, a ≤ k → k < a + n → T k = T' k) : rs T a n = rs T' a n :=
  List.map_congr_left fun k hk => by rw [h (a + k) (Nat.le_add_right ..) (Nat.add_lt_add_left (List.mem_range.mp hk) a)]
theorem rs_plain {a n : Nat} : ((rs T a n).all (plain 5)) = true := List.all_eq_true.mpr fun v hv => by
  obtain ⟨j, _, rfl⟩ := List.mem_map.mp hv; rfl
theorem rs_plain7 {a n : Nat} : plain 8 (.list (rs T a n)) = true := List.all_eq_true.mpr fun v hv => by
  obtain ⟨j, _, rfl⟩ := List.mem_map.mp hv; rfl
noncomputable def bd29 : MSs := match R.f29.fk with | .body (.cons _ (.cons (.forr _ _ b) _)) => b | _ => .nil
theorem loop29 {s u : LV} : ∀ (m a : Nat) (ks : List MV) (x : LV), ks.length + m < 1000 → ∃ y, forM 2 (execSs P (callN P (d + 1)) bd29) (es T a m) [s, .acc ks, x, u] H = .next [s, .acc (ks ++ rs T a m), y, u] H
  | 0, a, ks, x, _ => ⟨x, by rw [show rs T a 0 = [] from rfl, List.append_nil]; rfl⟩
  | m + 1, a, ks, x, h => by
    obtain ⟨y, k⟩ := loop29 m (a + 1) (ks ++ [er (T a) a]) (.val (en (T a) a)) (by rw [List.length_append]; show ks.length + 1 + m < _; omega)
    refine ⟨y, ?_⟩
    rw [es_succ, rs_succ]
    rw [List.append_assoc, List.singleton_append] at k
    exact fN (xP rfl (eM rfl rfl rfl (callAt rfl rfl)) (by omega) rfl) k
noncomputable def confR : MV := .tup [.tup [.int 1], .tup [], .tup [], .tup [], .bool false]
noncomputable def snR : Option (Nat × Nat) → MV
  | none => .none
  | some q => .tup [.int q.1, .int q.2, confR, .bytes []]
theorem c29 (G : Gd L T f l o) : callN P (d + 3) 29 [.obj (ux p)] (HH p L O) = .ok (.tup [.int L.off, .tup (rs T o (l + 1 - o)), snR L.sn]) (HH p L O) := by
  have hb := G.bd
  obtain ⟨y, k⟩ := loop29 (d := d + 1) (H := HH p L O) (T := T) (s := .val (.obj (ux p))) (u := .un) (l + 1 - o) o [] .un (by show 0 + _ < 1000; omega)
  refine callAt rfl (runR rfl (xN rfl (xFn (iO (eAt rfl gE)) (G.ue ▸ k) (xA rfl ?_))))
  cases hs : L.sn with
  | none => exact x0 (c := false) (bnd (eAt rfl gN) (by rw [hs]; rfl)) rfl (xZ rfl (xR (eTup (eCons (eAt rfl gO) (eCons rfl (eCons rfl rfl))))))
  | some q =>
    have hv : getAttr P (.obj (ux p)) 17 (HH p L O) = some (snapE q.1 q.2) := by rw [gN, hs]; rfl
    exact xI (c := true) (bnd (eAt rfl hv) rfl) rfl (xA (eM (eAt rfl hv) rfl rfl (callAt rfl rfl)) rfl) (xZ rfl (xR (eTup (eCons (eAt rfl gO) (eCons rfl (eCons rfl rfl))))))
theorem c47 (G : Gd L T f l o) : ∃ v, plain 8 v = true ∧ v.int? = none ∧ ∀ d, callN P (d + 4) 47 [.obj (lx p)] (HH p L O) = .ok v (HH p L O) := by
  refine ⟨.tup [.int L.com, .int L.app, .tup [.int L.off, .tup (rs T o (l + 1 - o)), snR L.sn]], ?_, rfl, fun d => callAt rfl (runR rfl (xR (eTup (eCons (eAt rfl gC) (eCons (eAt rfl gA) (eCons (eM (eAt rfl gU) (mU rfl) rfl (c29 G)) rfl))))))⟩
  show (true && (true && ((true && (((rs T o (l + 1 - o)).all (plain 5)) && (plain 6 (snR L.sn) && true))) && true))) = true
  rw [rs_plain]
  cases L.sn <;> rfl
theorem mapR_all {g : MV → MH → RS (Option MV)} {φ : Nat → MV} : ∀ {l : List Nat}, (∀ j ∈ l, g (.int (j : Int)) H = .ok (some (φ j)) H) → mapR g (l.map fun (j : Nat) => MV.int (j : Int)) H = .ok (l.map φ) H
  | [], _ => rfl
  | j :: r, h => by
    show (match g (.int (j : Int)) H with | .ok (some w) H₁ => (mapR g _ H₁).bind fun ws H₂ => .ok (w :: ws) H₂ | .ok Option.none H₁ => mapR g _ H₁ | _ => .bad) = _
    rw [h j (.head _)]
    show (mapR g (r.map _) H).bind _ = _
    rw [mapR_all fun k hk => h k (.tail _ hk)]; rfl
theorem mapR_some {g : MV → MH → RS (Option MV)} {φ : Nat → MV} {ψ : Nat → Bool} : ∀ {l : List Nat}, (∀ j ∈ l, g (.int (j : Int)) H = .ok (if ψ j then some (φ j) else none) H) → mapR g (l.map fun (j : Nat) => MV.int (j : Int)) H = .ok ((l.filter ψ).map φ) H
  | [], _ => rfl
  | j :: r, h => by
    have ih := mapR_some (g := g) fun k hk => h k (.tail _ hk)
    show (match g (.int (j : Int)) H with | .ok (some w) H₁ => (mapR g _ H₁).bind fun ws H₂ => .ok (w :: ws) H₂ | .ok Option.none H₁ => mapR g _ H₁ | _ => .bad) = _
    rw [h j (.head _), List.filter_cons]
    cases ψ j with
    | true =>
      show (mapR g (r.map _) H).bind _ = _
      rw [ih]; rfl
    | false => exact ih
theorem mapR_es {g : MV → MH → RS (Option MV)} : ∀ {n a : Nat}, (∀ j, a ≤ j → j < a + n → g (en (T j) j) H = .ok (some (er (T j) j)) H) → mapR g (es T a n) H = .ok (rs T a n) H
  | 0, _, _ => rfl
  | n + 1, a, h => by
    rw [es_succ, rs_succ]
    show (match g (en (T a) a) H with | .ok (some w) H₁ => (mapR g _ H₁).bind fun ws H₂ => .ok (w :: ws) H₂ | .ok Option.none H₁ => mapR g _ H₁ | _ => .bad) = _
    rw [h a (Nat.le_refl _) (by omega)]
    show (mapR g (es T (a + 1) n) H).bind _ = _
    rw [mapR_es fun k h1 h2 => h k (by omega) (by omega)]; rfl
section
variable {P : Prg} {cf : Nat → List MV → MH → RS MV} {l : Loc} {e : ME} {it : MI} {tt : MT} {xi : Nat} {vs ws : List MV} {H H₁ H₂ : MH}
theorem eComp (h : evalI P cf it l H = .ok vs H₁) (hl : vs.length ≤ 1000) (k : mapR (fun v H => (evalE P cf e (l.set xi (.val v)) H).bind fun w H => .ok (some w) H) vs H₁ = .ok ws H₂) : evalE P cf (.comp e xi it) l H = .ok (.list ws) H₂ :=
  bnd h (by rw [if_neg (Nat.not_lt.mpr hl)]; exact bnd k rfl)
theorem eCompIf (h : evalI P cf it l H = .ok vs H₁) (hl : vs.length ≤ 1000) (k : mapR (fun v H => (evalT P cf tt (l.set xi (.val v)) H).bind fun t H => if t then (evalE P cf e (l.set xi (.val v)) H).bind fun w H => .ok (some w) H else .ok Option.none H) vs H₁ = .ok ws H₂) : evalE P cf (.compIf e xi it tt) l H = .ok (.list ws) H₂ :=
  bnd h (by rw [if_neg (Nat.not_lt.mpr hl)]; exact bnd k rfl)
theorem eNewR {c : Nat} {es : MEs} {kk : MCls} {y : RS MV} (h : evalEs P cf es l H = .ok vs H₁) (hc : P.cls[c]? = some kk) (hr : kk.record = true) (k : cf kk.init vs H₁ = y) : evalE P cf (.new c es) l H = y :=
  bnd h (op hc (by rw [if_pos hr]; exact k))
end
theorem range'_map {g : Nat → MV} {a n : Nat} : (List.range' a n).map g = (List.range n).map fun k => g (a + k) := by rw [List.range'_eq_map_range, List.map_map]; rfl
noncomputable def tl (ts : List Nat) : MV := .list (ts.map fun (t : Nat) => MV.int (t : Int))
noncomputable def tf (ts : List Nat) (i : Nat) : Nat := ts.getD i 0
theorem tl_get {ts : List Nat} {j : Nat} (h : j < ts.length) : idxO (tl ts) (.int (j : Int)) = some (.int (tf ts j)) := idx_list (by rw [List.getElem?_map, tf, List.getD, List.getElem?_eq_getElem h]; rfl)
theorem tl_len {ts : List Nat} : lenO (tl ts) = some (.int ts.length) := by
  show some (MV.int ((ts.map _).length : Nat)) = _
  rw [List.length_map]
theorem byte_ok (h : t < 256) : byteO [.int (t : Int)] = some (.bytes [t]) := by
  show (guardO (decide (0 ≤ (t : Int) ∧ (t : Int) < 256)) (MV.bytes [(t : Int).toNat])) = _
  rw [decide_eq_true ⟨Int.natCast_nonneg t, by omega⟩]; rfl
theorem fm_nat {a b : Nat} : ((a : Int).fmod (b : Int)) = ((a % b : Nat) : Int) := by rw [Int.fmod_eq_emod_of_nonneg _ (Int.natCast_nonneg b), Int.natCast_emod]
theorem mul_dat {t i : Nat} : binop .mul (.bytes [t]) (.int ((i : Int).fmod ((3 : Nat) : Int))) = some (.bytes (dat t i)) := by
  rw [fm_nat]
  show (guardO (decide (0 ≤ ((i % 3 : Nat) : Int) ∧ ((i % 3 : Nat) : Int) ≤ 1000 ∧ [t].length = 1)) (MV.bytes (List.replicate ((i % 3 : Nat) : Int).toNat [t]).flatten)).or _ = _
  rw [decide_eq_true ⟨by omega, by omega, rfl⟩]; rfl
theorem eBy {P : Prg} {cf : Nat → List MV → MH → RS MV} {l : Loc} {e : ME} {xs : List MV} {w : MV} {H H₁ : MH} (h : evalE P cf e l H = .ok (.list xs) H₁) (k : byteO xs = some w) : evalE P cf (.bytesOf e) l H = .ok w H₁ := bnd h (op (show (some xs).bind byteO = some w from k) rfl)
theorem c50 {ts : List Nat} (hm : m ≤ 1000) (hn : n ≤ ts.length) (hl : ts.length ≤ 1000) (ht : ∀ j, j < ts.length → tf ts j < 256) : callN P (d + 2) 50 [tl ts, .int m, .int n] H = .ok (.list (es (tf ts) m (n - m))) H := by
  have hr : es (tf ts) m (n - m) = (List.range' m (n - m)).map fun j => en (tf ts j) j := (range'_map (g := fun j => en (tf ts j) j)).symm
  rw [hr]
  refine callAt rfl (runR rfl (xR (eComp (iR2n rfl rfl rfl rfl ⟨hm, by omega⟩) (by rw [List.length_map, List.length_range']; omega) (mapR_all fun j hj => ?_))))
  have hj : j < ts.length := by have := List.mem_range'_1.mp hj; omega
  have ix : idxO (tl ts) (.int (j : Int)) = some (.int (tf ts j)) := tl_get hj
  exact bnd (eNewR (eCons (eIx rfl rfl ix) (eCons rfl (eCons rfl (eCons (eB (eBy (eLst (eCons (eIx rfl rfl ix) rfl)) (byte_ok (ht j hj))) rfl (mul_dat (i := j))) rfl)))) rfl rfl (callAt rfl rfl)) rfl
theorem c51 {ts : List Nat} (hm : m ≤ 1000) (hn : n ≤ ts.length) (hl : ts.length ≤ 1000) (ht : ∀ j, j < ts.length → tf ts j < 256) : callN P (d + 2) 51 [tl ts, .int m, .int n] H = .ok (.list (rs (tf ts) m (n - m))) H := by
  have hr : rs (tf ts) m (n - m) = (List.range' m (n - m)).map fun j => er (tf ts j) j := (range'_map (g := fun j => er (tf ts j) j)).symm
  rw [hr]
  refine callAt rfl (runR rfl (xR (eComp (iR2n rfl rfl rfl rfl ⟨hm, by omega⟩) (by rw [List.length_map, List.length_range']; omega) (mapR_all fun j hj => ?_))))
  have hj : j < ts.length := by have := List.mem_range'_1.mp hj; omega
  have ix : idxO (tl ts) (.int (j : Int)) = some (.int (tf ts j)) := tl_get hj
  exact bnd (eTup (eCons (eIx rfl rfl ix) (eCons rfl (eCons rfl (eCons (eB (eBy (eLst (eCons (eIx rfl rfl ix) rfl)) (byte_ok (ht j hj))) rfl (mul_dat (i := j))) rfl))))) rfl
end Mini.L
namespace Mini.L
open Mini
variable {p : Sh} {L O s : Lg} {H : MH} {i d f l o n m c k t cm a b : Nat} {T M : Nat → Nat} {x : LV} {E : List MV}
noncomputable def PH : Sh → Lg → MH
  | .snd, O => hp 0 O
  | _, _ => []
noncomputable def SH : Sh → Lg → Lg → MH
  | .snd, s, O => hp 0 O ++ [stO s]
  | _, s, _ => [stO s]
theorem f15s {cf : Nat → List MV → MH → RS MV} : runF P cf R.f15 [.obj (sx p)] (SH p s O) = .ok (.int ((s.b : Int) + 1)) (SH p s O) := by cases p <;> rfl
theorem f16s {cf : Nat → List MV → MH → RS MV} : runF P cf R.f16 [.obj (sx p)] (SH p s O) = .ok (.int ((s.b : Int) + s.st.length)) (SH p s O) := by cases p <;> rfl
theorem gBs : getAttr P (.obj (sx p)) 14 (SH p s O) = some (.int s.b) := by cases p <;> rfl
theorem gTs : getAttr P (.obj (sx p)) 15 (SH p s O) = some (.int s.t) := by cases p <;> rfl
theorem gLs : getAttr P (.obj (sx p)) 16 (SH p s O) = some (.list s.st) := by cases p <;> rfl
theorem mSs {m f : Nat} (h : flook m [(31, 15), (32, 16), (33, 17), (34, 18), (36, 19), (39, 20), (24, 21)] = some f) : methOf P (.obj (sx p)) m (SH p s O) = some f := by cases p <;> exact h
theorem sLs {xs : List MV} : setO P (.obj (sx p)) 16 (.list xs) (SH p s O) = some (SH p { s with st := xs } O) := by cases p <;> rfl
theorem sBs {k : Nat} : setO P (.obj (sx p)) 14 (.int k) (SH p s O) = some (SH p { s with b := k } O) := by cases p <;> rfl
theorem sTs {k : Nat} : setO P (.obj (sx p)) 15 (.int k) (SH p s O) = some (SH p { s with t := k } O) := by cases p <;> rfl
noncomputable def bd19 : MSs := match R.f19.fk with | .body (.cons _ (.cons _ (.cons (.forr _ _ b) _))) => b | _ => .nil
theorem loop19 {u : MV} : ∀ (m j0 : Nat) (x : LV), (∀ j, j0 ≤ j → j < j0 + m → Ixd E j (a + j)) →
    ∃ y, forM 3 (execSs P (callN P d) bd19) ((List.range' j0 m).map fun (j : Nat) => MV.int (j : Int)) [.val u, .val (.list E), .val (.int a), x, .un] H = .next [.val u, .val (.list E), .val (.int a), y, .un] H
  | 0, _, x, _ => ⟨x, rfl⟩
  | m + 1, j0, x, h => by
    obtain ⟨v, h1, h2⟩ := h j0 (Nat.le_refl _) (by omega)
    obtain ⟨y, k⟩ := loop19 m (j0 + 1) (.val (.int j0)) fun j hj hm => h j (by omega) (by omega)
    refine ⟨y, ?_⟩
    rw [List.range'_succ, List.map_cons]
    exact fN (x0 (tC (eAt (eIx rfl rfl (idx_list h1)) (h2 H)) rfl rfl) (congrArg not (ez rfl)) rfl) k
theorem eSU {P : Prg} {cf : Nat → List MV → MH → RS MV} {l : Loc} {e a : ME} {xs : List MV} {k : Int} {j : Nat} {H H₁ H₂ : MH} (h : evalE P cf e l H = .ok (.list xs) H₁) (h1 : evalE P cf a l H₁ = .ok (.int k) H₂) (hk : k = j) (hj : j ≤ xs.length) : evalE P cf (.sliceU e a) l H = .ok (.list (xs.take j)) H₂ := (bnd h (bnd h1 (op (c := MV.list (xs.take j)) (by
  subst hk
  show some (MV.list ((xs.take (bound xs.length j)).drop 0)) = _
  rw [bound_nat hj]; rfl) rfl)))
theorem c19e : callN P (d + 1) 19 [.obj (sx p), .list []] (SH p s O) = .ok .none (SH p s O) := by cases p <;> exact callAt rfl (runR rfl (xIr rfl rfl (xR rfl)))
theorem c19 (hm : E.length = m) (h0 : 1 ≤ m) (hb : m ≤ 500) (hi : ∀ j, j < m → Ixd E j (a + j)) (h1 : s.b < a) (h2 : a ≤ s.b + s.st.length + 1) (hs : s.st.length ≤ 500) :
    callN P (d + 2) 19 [.obj (sx p), .list E] (SH p s O) = .ok .none (SH p { s with st := s.st.take (a - (s.b + 1)) ++ E } O) := by
  obtain ⟨v, e1, e2⟩ := hi 0 h0
  have hl : lenO (.list E) = some (.int m) := congrArg (fun k : Nat => some (MV.int k)) hm
  obtain ⟨y, k⟩ := loop19 (d := d + 1) (H := SH p s O) (E := E) (a := a) (u := .obj (sx p)) m 0 .un fun j _ hj => hi j (by omega)
  refine callAt rfl (runN (l₁ := [.val (.obj (sx p)), .val (.list E), .val (.int a), y, .val (.int ((s.b : Int) + 1))]) rfl (x0 (tC (eLen rfl hl) rfl rfl) (decide_eq_false (by omega)) (xA (eAt (eIx rfl rfl (idx_list (k := 0) e1)) (e2 _)) (xFn (iR1n (eLen rfl hl) (by omega)) k (xA (eM rfl (mSs rfl) rfl (callAt rfl f15s)) ?_)))))
  refine x0 (tC (eB (eB rfl (eLen rfl hl) rfl) rfl rfl) rfl rfl) (dm (by omega)) (x0 (tC rfl (eB (eM rfl (mSs rfl) rfl (callAt rfl f16s)) rfl rfl) rfl) (dm (by omega)) (x0 rfl (dm (by omega)) (xS (eB (eSU (j := a - (s.b + 1)) (eAt rfl gLs) rfl (by omega) (by omega)) rfl (add_list (by rw [List.length_take]; omega))) rfl sLs rfl)))
theorem c18s (h : s.b < i) (hi : s.st[i - (s.b + 1)]? = some (en t i)) : callN P (d + 2) 18 [.obj (sx p), .int i] (SH p s O) = .ok (.int t) (SH p s O) := by
  have hl := (List.getElem?_eq_some_iff.mp hi).1
  refine callAt rfl (runR rfl (x0 (tC rfl (eAt rfl gBs) rfl) (nf (Nat.le_of_lt h)) (x0 (tC rfl (eM rfl (mSs rfl) rfl (callAt rfl f16s)) rfl) (dm (by omega)) (x0 (tC rfl (eAt rfl gBs) rfl) (ef (Nat.ne_of_gt h))
    (xR (eAt (v := en t i) (eIx (eAt rfl gLs) (eB rfl (eM rfl (mSs rfl) rfl (callAt rfl f15s)) rfl) ?_) rfl))))))
  rw [show (i : Int) - ((s.b : Int) + 1) = ((i - (s.b + 1) : Nat) : Int) by omega]
  exact idx_list hi
theorem c20 (h : s.b < i) (hi : s.st[i - (s.b + 1)]? = some (en t i)) : callN P (d + 3) 20 [.obj (sx p), .int i] (SH p s O) = .ok .none (SH p { s with b := i, t := t, st := s.st.drop (i - s.b) } O) := by
  have hl := (List.getElem?_eq_some_iff.mp hi).1
  exact callAt rfl (runN rfl (x0 (tC rfl (eAt rfl gBs) rfl) (lf h) (x0 (tC rfl (eM rfl (mSs rfl) rfl (callAt rfl f16s)) rfl) (dm (by omega)) (xA (eM rfl (mSs rfl) rfl (c18s h hi)) (xS (eSL (j := i - s.b) (eAt rfl gLs) (eB rfl (eAt rfl gBs) rfl) (sub_nat (Nat.le_of_lt h)) (by omega)) rfl sLs (xS rfl rfl sBs (xS rfl rfl sTs rfl)))))))
noncomputable def lg0 (s : Lg) : Lg := { b := s.b, t := s.t, st := s.st, sn := none, ue := [], off := s.b + s.st.length + 1, com := s.b, app := s.b }
theorem sub1 {b : Nat} : binop .sub (.int ((b : Int) + 1)) (.int 1) = some (.int b) := congrArg (fun x => some (MV.int x)) (by omega : (b : Int) + 1 - 1 = b)
theorem eNewO {P : Prg} {cf : Nat → List MV → MH → RS MV} {l : Loc} {c : Nat} {es : MEs} {kk : MCls} {vs : List MV} {H H₁ H₂ : MH} (h : evalEs P cf es l H = .ok vs H₁) (hc : P.cls[c]? = some kk) (hr : kk.record = false) (k : cf kk.init (.obj H₁.length :: vs) (H₁ ++ [⟨c, []⟩]) = .ok .none H₂) : evalE P cf (.new c es) l H = .ok (.obj H₁.length) H₂ :=
  bnd h (op hc (by rw [if_neg (fun q => Bool.noConfusion (hr.symm.trans q))]; exact bnd k rfl))
theorem new6 {loc : Loc} {es : MEs} (he : evalEs P (callN P (d + 3)) es loc (SH p s O) = .ok [.obj (sx p), .int 18446744073709551615] (SH p s O)) (hp : p ≠ .fst) : evalE P (callN P (d + 3)) (.new 6 es) loc (SH p s O) = .ok (.obj (lx p)) (HH p (lg0 s) O) := by
  cases p with
  | fst => exact absurd rfl hp
  | one => exact eNewO he rfl rfl (callAt rfl (runN rfl (xS rfl rfl rfl (xS rfl rfl rfl (xA rfl (xS rfl rfl rfl (xS (eB rfl rfl sub1) rfl rfl (xS (eB rfl rfl sub1) rfl rfl rfl))))))))
  | snd => exact eNewO he rfl rfl (callAt rfl (runN rfl (xS rfl rfl rfl (xS rfl rfl rfl (xA rfl (xS rfl rfl rfl (xS (eB rfl rfl sub1) rfl rfl (xS (eB rfl rfl sub1) rfl rfl rfl))))))))
noncomputable def st0 : Lg := { b := 1, t := 1, st := [], sn := none, ue := [], off := 0, com := 0, app := 0 }
theorem c14 : callN P (d + 2) 14 [.obj (sx p), conf1] (PH p O ++ [⟨4, []⟩]) = .ok .none (SH p st0 O) := by cases p <;> rfl
end Mini.L
namespace Mini.L
open Mini
variable {p : Sh} {L O s : Lg} {H : MH} {i d f l o n m c k t cm a b : Nat} {T M : Nat → Nat} {x : LV} {E : List MV}
theorem c32i (hu : L.ue = []) (hs : L.sn = none) : callN P (d + 2) 32 [.obj (lx p)] (HH p L O) = .ok (.int ((L.b : Int) + L.st.length)) (HH p L O) :=
  callAt rfl (runR rfl (xA (eM (eAt rfl gU) (mU rfl) rfl (callAt rfl (f24b hu hs))) (x0 rfl rfl (xR (eM (eAt rfl gS) (mS rfl) rfl (callAt rfl f16))))))
theorem c37i (hu : L.ue = []) (hs : L.sn = none) (hm : 1 ≤ m) (h1 : L.com < c) (h2 : c ≤ L.b + L.st.length + 1) (h3 : c < L.off) (G : Gd { L with off := c, ue := es M c m } T f l o) :
    callN P (d + 3) 37 [.obj (lx p), .list (es M c m)] (HH p L O) = .ok (.int l) (HH p { L with off := c, ue := es M c m } O) := by
  have hlen : (es M c m).length = m := es_len
  have hz : L.ue.length = 0 := congrArg List.length hu
  have k27 : callN P (d + 2) 27 [.obj (ux p), .list (es M c m)] (HH p L O) = .ok .none (HH p { L with off := c, ue := es M c m } O) := by
    refine callAt rfl (runN (l₁ := [.val (.obj (ux p)), .val (.list (es M c m)), .val (.int c)]) rfl (x0 (tC (v := .int m) (eLen rfl (congrArg (fun k : Nat => some (MV.int k)) hlen)) rfl rfl) (decide_eq_false (by omega)) (xA (eAt (v := en (M c) c) (eIx rfl rfl (idx_list (k := 0) (es_first hm))) rfl) ?_)))
    exact xL (tC rfl (eB (eAt rfl gO) (eLen (eAt rfl gE) rfl) rfl) rfl) (ef (m := L.off + L.ue.length) (by omega)) (xI (tC rfl (eAt rfl gO) rfl) (lz (by omega)) (xS rfl rfl sO (xS (eSA rfl) rfl sE rfl)) rfl) rfl
  refine callAt rfl (runR rfl (x0 (tC (v := .int m) (eLen rfl (congrArg (fun k : Nat => some (MV.int k)) hlen)) rfl rfl) (decide_eq_false (by omega)) (xA (eB (eAt (v := en (M c) c) (eIx rfl rfl (idx_list (k := 0) (es_first hm))) rfl) rfl rfl) ?_)))
  exact x0 (tC rfl (eAt rfl gC) rfl) (dm (by omega)) (x0 (tC rfl (eM rfl (mL rfl) rfl (c32i hu hs)) rfl) (dm (by omega)) (xE (eM (eAt rfl gU) (mU rfl) rfl k27) (xR (eM rfl (mL rfl) rfl (c32 G)))))
theorem ph_len : (PH p O).length = sx p := by cases p <;> rfl
theorem newSt {loc : Loc} {es : MEs} (he : evalEs P (callN P (d + 2)) es loc (PH p O) = .ok [conf1] (PH p O)) : evalE P (callN P (d + 2)) (.new 4 es) loc (PH p O) = .ok (.obj (sx p)) (SH p st0 O) := by
  have k := eNewO (P := P) (c := 4) he rfl rfl (ph_len (p := p) (O := O) ▸ c14 (d := d) (p := p) (O := O))
  rw [ph_len] at k
  exact k
noncomputable def e0 (t i : Nat) : MV := .inst 0 [.int t, .int i, .int 0, .bytes []]
noncomputable def stL (T : Nat → Nat) (base kept : Nat) (z : Bool) : Lg := { st0 with b := base, t := T base, st := es T (base + 1) (kept - base) ++ (if z then [e0 98 (kept + 1), e0 98 (kept + 2)] else []) }
noncomputable def lgL (T : Nat → Nat) (base kept l : Nat) : Lg := if kept < l then { lg0 (stL T base kept true) with off := kept + 1, ue := es T (kept + 1) (l - kept) } else lg0 (stL T base kept false)
theorem gdL (h0 : 1 ≤ base) (h1 : base ≤ kept) (h2 : kept ≤ l) (hl : l < 100) (hT : ∀ i, i ≤ l → T i < 100) : Gd (lgL T base kept l) T base l (kept + 1) ∧ (lgL T base kept l).com = base := by
  unfold lgL
  split
  · exact ⟨⟨rfl, by omega, by omega, by show es _ _ _ = _; rw [show l + 1 - (kept + 1) = l - kept by omega], hl, hT, .inl ⟨rfl, rfl, rfl, _, by rw [show kept + 1 - 1 - base = kept - base by omega]; rfl, fun q => by omega⟩⟩, rfl⟩
  · have : kept = l := by omega
    subst this
    refine ⟨⟨?_, by omega, by omega, ?_, hl, hT, .inl ⟨rfl, rfl, rfl, [], by rw [show kept + 1 - 1 - base = kept - base by omega]; rfl, fun _ => rfl⟩⟩, rfl⟩
    · show base + (es T (base + 1) (kept - base) ++ []).length + 1 = _
      rw [List.append_nil, es_len]; omega
    · rw [Nat.sub_self]; rfl
theorem e0_ixd {t u : Nat} : ∀ j, j < 2 → Ixd [e0 t a, e0 u (a + 1)] j (a + j)
  | 0, _ => ⟨_, rfl, fun _ => rfl⟩
  | 1, _ => ⟨_, rfl, fun _ => rfl⟩
theorem c52 {ts : List Nat} (hp : p ≠ .fst) (hl : ts.length = l + 1) (hb : l < 100) (hT : ∀ j, j < ts.length → tf ts j < 100) (h1 : tf ts 1 = 1) {base kept : Nat} (hb0 : 1 ≤ base) (hk : base ≤ kept) (hkl : kept ≤ l) :
    callN P (d + 5) 52 [tl ts, .int base, .int kept] (PH p O) = .ok (.obj (lx p)) (HH p (lgL (tf ts) base kept l) O) := by
  have k50 : ∀ {m n : Nat} {H : MH}, m ≤ 1000 → n ≤ ts.length → callN P (d + 4) 50 [tl ts, .int m, .int n] H = .ok (.list (es (tf ts) m (n - m))) H := fun hm hn => c50 hm hn (by omega) fun j hj => Nat.lt_trans (hT j hj) (by decide)
  refine callAt rfl (runR rfl (xA (newSt rfl) ?_))
  have s1 : callN P (d + 4) 19 [.obj (sx p), .list (es (tf ts) 2 (kept + 1 - 2))] (SH p st0 O) = .ok .none (SH p { st0 with st := es (tf ts) 2 (kept - 1) } O) := by
    by_cases h : kept = 1
    · rw [h]; exact c19e
    · exact c19 (a := 2) es_len (by omega) (by omega) (fun j hj => es_ixd hj) (by decide) (by decide) (by decide)
  refine xE (eM rfl (mSs rfl) (eCons (eCl rfl (k50 (m := 2) (n := kept + 1) (by decide) (by omega))) rfl) s1) ?_
  have s2 : ∀ {r : MSs} {x : SR} {lo : Loc}, lo = [.val (tl ts), .val (.int base), .val (.int kept), .val (.obj (sx p)), .un] → execSs P (callN P (d + 4)) r lo (SH p (stL (tf ts) base kept false) O) = x →
      execSs P (callN P (d + 4)) (.cons (.ife (.cmp (.var 1) (.one .gt (.int 1))) (.cons (.expr (.meth (.var 3) 39 (.cons (.var 1) .nil))) .nil) .nil) r) lo (SH p { st0 with st := es (tf ts) 2 (kept - 1) } O) = x := fun {r x lo} hlo k => by
    subst hlo
    by_cases h : base = 1
    · subst h
      refine x0 rfl rfl ?_
      have e : { st0 with st := es (tf ts) 2 (kept - 1) } = stL (tf ts) 1 kept false := by
        unfold stL
        rw [h1]
        show _ = ({ st0 with b := 1, t := 1, st := es (tf ts) 2 (kept - 1) ++ [] } : Lg)
        rw [List.append_nil]; rfl
      rw [e]; exact k
    · have hg : (es (tf ts) 2 (kept - 1))[base - (1 + 1)]? = some (en (tf ts base) base) := by rw [es_get (by omega), show 2 + (base - (1 + 1)) = base by omega]
      refine xI rfl (dn (by omega)) (xE (eM rfl (mSs rfl) rfl (c20 (s := { st0 with st := es (tf ts) 2 (kept - 1) }) (by show 1 < base; omega) hg)) rfl) ?_
      have e : ({ st0 with b := base, t := tf ts base, st := (es (tf ts) 2 (kept - 1)).drop (base - 1) } : Lg) = stL (tf ts) base kept false := by
        unfold stL
        rw [es_drop (by omega), show 2 + (base - 1) = base + 1 by omega, show kept - 1 - (base - 1) = kept - base by omega]
        show _ = ({ st0 with b := base, t := tf ts base, st := es (tf ts) (base + 1) (kept - base) ++ [] } : Lg)
        rw [List.append_nil]
      exact (congrArg (fun s => execSs P (callN P (d + 4)) r [.val (tl ts), .val (.int base), .val (.int kept), .val (.obj (sx p)), .un] (SH p s O)) e).trans k
  refine s2 rfl ?_
  by_cases hz : kept < l
  · have k19 : callN P (d + 4) 19 [.obj (sx p), .list [e0 98 (kept + 1), e0 98 (kept + 2)]] (SH p (stL (tf ts) base kept false) O) = .ok .none (SH p (stL (tf ts) base kept true) O) := by
      have hle : (stL (tf ts) base kept false).st.length = kept - base := by
        show (es (tf ts) (base + 1) (kept - base) ++ []).length = _
        rw [List.append_nil, es_len]
      refine (c19 (a := kept + 1) (m := 2) rfl (by omega) (by omega) (fun j hj => e0_ixd j hj) (by show base < _; omega) (by rw [hle]; show kept + 1 ≤ base + _ + 1; omega) (by omega)).trans ?_
      have e : ({ stL (tf ts) base kept false with st := (stL (tf ts) base kept false).st.take (kept + 1 - (base + 1)) ++ [e0 98 (kept + 1), e0 98 (kept + 2)] } : Lg) = stL (tf ts) base kept true := by
        rw [List.take_of_length_le (by rw [hle]; omega)]
        show ({ st0 with b := base, t := tf ts base, st := (es (tf ts) (base + 1) (kept - base) ++ []) ++ [e0 98 (kept + 1), e0 98 (kept + 2)] } : Lg) = ({ st0 with b := base, t := tf ts base, st := es (tf ts) (base + 1) (kept - base) ++ [e0 98 (kept + 1), e0 98 (kept + 2)] } : Lg)
        rw [List.append_nil]
      exact congrArg (fun s => RS.ok MV.none (SH p s O)) e
    have cnd : ∀ {H : MH} {x4 : LV} {y : MV}, evalT P (callN P (d + 4)) (.cmp (.bin .add (.var 2) (.int 1)) (.one .lt (.len (.var 0)))) [.val (tl ts), .val (.int base), .val (.int kept), .val y, x4] H = .ok (decide (((kept : Int) + 1) < (ts.length : Int))) H := tC rfl (eLen rfl tl_len) rfl
    obtain ⟨G, hc⟩ := gdL (T := tf ts) hb0 hk hkl hb fun i hi => hT i (by omega)
    have e : lgL (tf ts) base kept l = { lg0 (stL (tf ts) base kept true) with off := kept + 1, ue := es (tf ts) (kept + 1) (l - kept) } := if_pos hz
    rw [e] at G ⊢
    refine xI cnd (dn (by omega)) (xE (eM rfl (mSs rfl) rfl k19) rfl) (xA (new6 rfl hp) (xI cnd (dn (by omega)) (xE (v := .int (l : Int)) (eM rfl (mL rfl) (eCons (eCl (eCons rfl (eCons rfl (eCons (eLen rfl tl_len) rfl))) (k50 (m := kept + 1) (n := ts.length) (by omega) (Nat.le_refl _))) rfl) ?_) rfl) (xR rfl)))
    rw [show ts.length - (kept + 1) = l - kept by omega]
    have hst : (lg0 (stL (tf ts) base kept true)).st.length = kept - base + 2 := by
      show (es (tf ts) (base + 1) (kept - base) ++ [e0 98 (kept + 1), e0 98 (kept + 2)]).length = _
      rw [List.length_append, es_len]; rfl
    exact c37i rfl rfl (by omega) (by show base < _; omega) (by rw [hst]; show kept + 1 ≤ base + _ + 1; omega) (by show kept + 1 < base + (lg0 (stL (tf ts) base kept true)).st.length + 1; rw [hst]; omega) G
  · have e : lgL (tf ts) base kept l = lg0 (stL (tf ts) base kept false) := if_neg hz
    rw [e]
    have cnd : ∀ {H : MH} {x4 : LV} {y : MV}, evalT P (callN P (d + 4)) (.cmp (.bin .add (.var 2) (.int 1)) (.one .lt (.len (.var 0)))) [.val (tl ts), .val (.int base), .val (.int kept), .val y, x4] H = .ok (decide (((kept : Int) + 1) < (ts.length : Int))) H := tC rfl (eLen rfl tl_len) rfl
    exact x0 cnd (dm (by omega)) (xA (new6 rfl hp) (x0 cnd (dm (by omega)) (xR rfl)))
end Mini.L
namespace Mini.L
open Mini
variable {p : Sh} {L O s : Lg} {H : MH} {i d f l o n m c k t cm a b : Nat} {T M : Nat → Nat} {x : LV} {E : List MV}
theorem md_nat (h : 0 < b) : binop .mod (.int (a : Int)) (.int (b : Int)) = some (.int ((a % b : Nat) : Int)) := by
  show (guardO (decide ((b : Int) ≠ 0)) _ : Option MV) = _
  rw [decide_eq_true (by omega), fm_nat]; rfl
theorem dv_nat (h : 0 < b) (hb : b < 1073741824) : binop .fdiv (.int (a : Int)) (.int (b : Int)) = some (.int ((a / b : Nat) : Int)) := by
  show (guardO (decide ((b : Int) ≠ 0 ∧ (b : Int).natAbs < 1073741824)) _ : Option MV) = _
  rw [decide_eq_true ⟨by omega, by omega⟩, ← Int.ofNat_fdiv]; rfl
theorem ml_nat (h : a < 18446744073709551616) : binop .mul (.int (a : Int)) (.int (b : Int)) = some (.int ((a * b : Nat) : Int)) := by
  show ((guardO (decide ((a : Int).natAbs < 18446744073709551616)) (MV.int ((a : Int) * (b : Int)))).or _) = _
  rw [decide_eq_true (by omega), Int.natCast_mul]; rfl
noncomputable def drw (ns : List Nat) (i : Nat) : Nat := tf ns (i % ns.length) + 7919 * (i / ns.length)
theorem c48 {ns : List Nat} (h0 : 0 < ns.length) (h1 : ns.length < 1000) : callN P (d + 1) 48 [tl ns, .int i] H = .ok (.int (drw ns i)) H :=
  callAt rfl (runR rfl (xR (eB (eIx rfl (eB rfl (eLen rfl tl_len) (md_nat h0)) (tl_get (Nat.mod_lt _ h0))) (eB (v := .int ((7919 : Nat) : Int)) rfl (eB rfl (eLen rfl tl_len) (dv_nat h0 (by omega))) (ml_nat (by decide))) rfl)))
noncomputable def mkT : Nat → Nat → Nat → List Nat
  | 0, _, _ => []
  | k + 1, n, t => (t + n % 3 * 2) :: mkT k (n / 3) (t + n % 3 * 2)
noncomputable def strt (s odd : Nat) : Nat := if s % 2 = odd then s else s + 1
theorem tl_snoc {ts : List Nat} {t : Nat} : (ts.map fun (t : Nat) => MV.int (t : Int)) ++ [.int t] = (ts ++ [t]).map fun (t : Nat) => MV.int (t : Int) := by rw [List.map_append]; rfl
noncomputable def bd49 : MSs := match R.f5.fk, P02.f49.fk with | _, .body (.cons _ (.cons _ (.cons _ (.cons (.forr _ _ b) _)))) => b | _, _ => .nil
theorem loop49 {u v w : LV} : ∀ (m j0 n t : Nat) (ts : List Nat) (x : LV), ts.length + m < 1000 →
    ∃ n' t' y, forM 6 (execSs P (callN P d) bd49) ((List.range' j0 m).map fun (j : Nat) => MV.int (j : Int)) [u, .val (.int n), v, w, .acc (ts.map fun (t : Nat) => MV.int (t : Int)), .val (.int t), x] H = .next [u, n', v, w, .acc ((ts ++ mkT m n t).map fun (t : Nat) => MV.int (t : Int)), t', y] H
  | 0, _, n, t, ts, x, _ => ⟨_, _, _, by rw [show mkT 0 n t = [] from rfl, List.append_nil]; rfl⟩
  | m + 1, j0, n, t, ts, x, h => by
    obtain ⟨n', t', y, k⟩ := loop49 m (j0 + 1) (n / 3) (t + n % 3 * 2) (ts ++ [t + n % 3 * 2]) (.val (.int j0)) (by rw [List.length_append]; show ts.length + 1 + m < _; omega)
    refine ⟨n', t', y, ?_⟩
    rw [List.append_assoc, List.singleton_append] at k
    rw [List.range'_succ, List.map_cons]
    refine fN (xG (w := .int t) (u := .int ((t + n % 3 * 2 : Nat) : Int)) rfl (eB (eB (w := .int ((3 : Nat) : Int)) rfl rfl (md_nat (by decide))) (w := .int ((2 : Nat) : Int)) rfl (ml_nat (by omega))) rfl (xA (eB (w := .int ((3 : Nat) : Int)) rfl rfl (dv_nat (by decide) (by decide))) (xP rfl rfl (by rw [List.length_map]; omega) (by rw [tl_snoc]; rfl)))) k
theorem c49 {sh : List Nat} {g odd : Nat} (hg : sh.length = g + 1) (hl : g + c < 900) : callN P (d + 1) 49 [tl sh, .int n, .int c, .int odd] H = .ok (tl (sh ++ mkT c n (strt (tf sh g) odd))) H := by
  have hlen : (sh.map fun (t : Nat) => MV.int (t : Int)).length = g + 1 := by rw [List.length_map, hg]
  have last : idxO (tl sh) (.int (-((1 : Nat) : Int))) = some (.int (tf sh g)) := by
    have h1 : place (g + 1) (-((1 : Nat) : Int)) = some g := by
      unfold place
      rw [if_neg (by decide)]
      show guardO (decide _) (-((1 : Nat) : Int) + ((g + 1 : Nat) : Int)).toNat = _
      rw [decide_eq_true (by omega), show (-((1 : Nat) : Int) + ((g + 1 : Nat) : Int)).toNat = g by omega]; rfl
    show ((place (sh.map fun (t : Nat) => MV.int (t : Int)).length (-((1 : Nat) : Int))).bind fun n => (sh.map fun (t : Nat) => MV.int (t : Int))[n]?).or _ = _
    rw [hlen, h1]
    show ((sh.map fun (t : Nat) => MV.int (t : Int))[g]?).or _ = _
    rw [List.getElem?_map, tf, List.getD, List.getElem?_eq_getElem (by omega)]; rfl
  obtain ⟨n', t', y, k⟩ := loop49 (d := d) (H := H) (u := .val (tl sh)) (v := .val (.int c)) (w := .val (.int odd)) c 0 n (strt (tf sh g) odd) sh .un (by omega)
  refine callAt rfl (runR rfl (xC rfl (by omega) (xA (eIx rfl rfl last) ?_)))
  have st : ∀ {r : MSs} {x : SR}, execSs P (callN P d) r [.val (tl sh), .val (.int n), .val (.int c), .val (.int odd), .acc (sh.map fun (t : Nat) => MV.int (t : Int)), .val (.int (strt (tf sh g) odd)), .un] H = x →
      execSs P (callN P d) (.cons (.ife (.cmp (.bin .mod (.var 5) (.int 2)) (.one .ne (.var 3))) (.cons (.aug 5 .add (.int 1)) .nil) .nil) r) [.val (tl sh), .val (.int n), .val (.int c), .val (.int odd), .acc (sh.map fun (t : Nat) => MV.int (t : Int)), .val (.int (tf sh g)), .un] H = x := fun {r x} k => by
    have ht : ∀ {l : Loc}, (lget l 5).val? = some (.int (tf sh g)) → (lget l 3).val? = some (.int odd) → evalT P (callN P d) (.cmp (.bin .mod (.var 5) (.int 2)) (.one .ne (.var 3))) l H = .ok (!decide (((tf sh g % 2 : Nat) : Int) = (odd : Int))) H := fun h5 h3 => tC (eB (w := .int ((2 : Nat) : Int)) (op h5 rfl) rfl (md_nat (by decide))) (op h3 rfl) rfl
    unfold strt at k
    by_cases h : tf sh g % 2 = odd
    · rw [if_pos h] at k
      exact x0 (ht rfl rfl) (congrArg not (ez h)) k
    · rw [if_neg h] at k
      exact xI (ht rfl rfl) (congrArg not (ef h)) (xG (w := .int (tf sh g)) rfl rfl rfl rfl) k
  exact st (xFn (iR1n rfl (by omega)) k (xZ rfl (xR rfl)))
end Mini.L
namespace Mini.L
open Mini
variable {p : Sh} {L O s : Lg} {H : MH} {i d f l o n m c k t u cm a b : Nat} {T M : Nat → Nat} {x : LV} {E : List MV}
theorem gapA {s u w : MV} {x : LV} {v : MV} {ix : Nat} {rest : List MV} (h1 : E[a]? = some v) (h2 : ∀ H, getAttr P v 1 H = some (.int ix)) (hne : ix ≠ i + 1 + a) (hi : ix < 100000) (hb : i + 1 + a < 100000) :
    ∃ lo, forM 5 (execSs P (callN P d) bd36) (.int (a : Int) :: rest) (loc36 s (.int i) u w (.list E) x) H = .exm 7 lo H := by
  have ea : evalE P (callN P d) (.attr (.idx (.var 4) (.var 5)) 1) ((loc36 s (.int i) u w (.list E) x).set 5 (.val (.int a))) H = .ok (.int ix) H := eAt (eIx rfl rfl (idx_list h1)) (h2 H)
  exact ⟨_, fX (xIx (tC ea rfl rfl) (congrArg not (ef hne)) (xX (eCons ea (eCons rfl rfl)) (aI (by omega) (aI (by omega) rfl))))⟩
theorem c36g1 (G : Gd L T f l o) (h1 : f ≤ i) (h2 : i ≤ l) (ht : T i = t) (hk : k ≠ i + 1) (hk2 : k < 100000) : callN P (d + 6) 36 [.obj (lx p), .int i, .int t, .int cm, .list [e0 u k]] (HH p L O) = .ex 7 (HH p L O) := by
  have hb := G.bd
  obtain ⟨lo, g⟩ := gapA (d := d + 5) (H := HH p L O) (s := .obj (lx p)) (u := .int t) (w := .int cm) (x := .un) (E := [e0 u k]) (a := 0) (i := i) (ix := k) (rest := []) rfl (fun _ => rfl) hk hk2 (by omega)
  exact callAt rfl (runX rfl (x0 (tN (bnd (eM rfl (mL rfl) rfl (c35 G h1 h2)) rfl)) (congrArg not (decide_eq_true ht)) (xFx (iR1n (n := 1) rfl (by decide)) g)))
theorem c36g2 (G : Gd L T f l o) (h1 : f ≤ i) (h2 : i ≤ l) (ht : T i = t) (hk : k ≠ i + 2) (hk2 : k < 100000) : callN P (d + 6) 36 [.obj (lx p), .int i, .int t, .int cm, .list [e0 m (i + 1), e0 u k]] (HH p L O) = .ex 7 (HH p L O) := by
  have hb := G.bd
  obtain ⟨lo, g⟩ := gapA (d := d + 5) (H := HH p L O) (s := .obj (lx p)) (u := .int t) (w := .int cm) (x := .val (.int ((0 : Nat) : Int))) (E := [e0 m (i + 1), e0 u k]) (a := 1) (i := i) (ix := k) (rest := []) rfl (fun _ => rfl) (by omega) hk2 (by omega)
  have hx : idxO (.list [e0 m (i + 1), e0 u k]) (.int ((0 : Nat) : Int)) = some (e0 m (i + 1)) := rfl
  exact callAt rfl (runX rfl (x0 (tN (bnd (eM rfl (mL rfl) rfl (c35 G h1 h2)) rfl)) (congrArg not (decide_eq_true ht)) (xFx (iR1n (n := 2) rfl (by decide)) (fN (x0 (tC (eAt (v := e0 m (i + 1)) (eIx rfl rfl hx) rfl) rfl rfl) (congrArg not (ez (n := i + 1) (m := i + 1 + 0) rfl)) rfl) g))))
theorem fcon_same {T : Nat → Nat} : ∀ {n a : Nat}, a + n ≤ l + 1 → fcon T T l n a = 0
  | 0, _, _ => rfl
  | n + 1, a, h => (if_pos ⟨by omega, rfl⟩).trans (fcon_same (by omega))
noncomputable def bd54 : MSs := match P02.f54.fk with | .body (.cons _ (.cons _ (.cons _ (.cons (.forr _ _ b) _)))) => b | _ => .nil
theorem turn54 {b : MV} {x1 x7 : LV} {more : List MV} {e tm : Nat} (hr : ∀ d, callN P (d + 4) 47 [.obj (lx p)] (HH p L O) = .ok b (HH p L O)) (hb : plain 8 b = true) (hbi : b.int? = none) (hm : more.length ≤ 10)
    (hg : callN P (d + 6) 36 [.obj (lx p), .int l, .int tm, .int (0 : Nat), .list (more ++ [e0 (tm + 1) e])] (HH p L O) = .ex 7 (HH p L O)) :
    execSs P (callN P (d + 6)) bd54 [.val (.obj (lx p)), x1, .val (.int l), .val (.int e), .val (.int tm), .val b, .val (.list more), x7] (HH p L O) = .next [.val (.obj (lx p)), x1, .val (.int l), .val (.int e), .val (.int tm), .val b, .val (.list more), .val (.bool true)] (HH p L O) := by
  have en : evalE P (callN P (d + 6)) (.new 0 (.cons (.bin .add (.var 4) (.int 1)) (.cons (.var 3) (.cons (.int 0) (.cons .bnil .nil))))) [.val (.obj (lx p)), x1, .val (.int l), .val (.int e), .val (.int tm), .val b, .val (.list more), .val (.bool false)] (HH p L O) = .ok (e0 (tm + 1) e) (HH p L O) := eNewR rfl rfl rfl (callAt rfl rfl)
  refine xA rfl (xTcn (eX (eM rfl (mL rfl) (eCons rfl (eCons rfl (eCons rfl (eCons (eB rfl (eLst (eCons en rfl)) (add_list (by show more.length + 1 ≤ 1000; omega))) rfl)))) hg)) rfl ?_)
  exact x0 (tO (tsC (tN rfl) rfl (tsC (tC (eM rfl (mL rfl) rfl (hr _)) rfl (ne_self hb hbi)) rfl tsN))) rfl rfl
noncomputable def fstV (M : Nat → Nat) (fi : Option (Nat × Nat)) : MV := match fi with
  | none => .none
  | some q => .tup [.int q.1, .int (M q.1), .list (es M (q.1 + 1) q.2)]
theorem com_id (h : k ≤ L.com) : { L with com := max L.com k } = L := by rw [show max L.com k = L.com by omega]
theorem c54 {e : Nat} {fi : Option (Nat × Nat)} (G : Gd L M f l o) (hf : f ≤ l) (hf1 : 1 ≤ f) (hc : 1 ≤ L.com) (he : e ≠ l + 1 ∧ e ≠ l + 2 ∧ e < 1000) (hfi : ∀ q, fi = some q → f ≤ q.1 ∧ q.1 + q.2 ≤ l) :
    callN P (d + 7) 54 [.obj (lx p), fstV M fi, .int l, .int e, .int (M l)] (HH p L O) = .ok (.bool true) (HH p L O) := by
  obtain ⟨b, hb, hbi, hr⟩ := c47 (p := p) (O := O) G
  have hbd := G.bd
  have k36 : ∀ q, fi = some q → callN P (d + 6) 36 [.obj (lx p), .int q.1, .int (M q.1), .int (1 : Nat), .list (es M (q.1 + 1) q.2)] (HH p L O) = .ok (.int ((q.1 + q.2 : Nat) : Int)) (HH p L O) := fun q hq => by
    obtain ⟨h1, h2⟩ := hfi q hq
    have := c36s (p := p) (O := O) (d := d) (M := M) (cm := 1) (n := q.2) G h1 (by omega) rfl (by omega) (fcon_same (by omega)) h2
    rw [com_id (by omega)] at this
    exact this
  have ent : ∀ {l' : Loc}, (lget l' 4).val? = some (.int (M l)) → (lget l' 2).val? = some (.int l) → evalE P (callN P (d + 6)) (.new 0 (.cons (.var 4) (.cons (.bin .add (.var 2) (.int 1)) (.cons (.int 0) (.cons .bnil .nil))))) l' (HH p L O) = .ok (e0 (M l) (l + 1)) (HH p L O) := fun h4 h2 =>
    eNewR (eCons (op h4 rfl) (eCons (eB (op h2 rfl) rfl rfl) rfl)) rfl rfl (callAt rfl rfl)
  refine callAt rfl (runR rfl (xA (eM rfl (mL rfl) rfl (hr _)) ?_))
  refine x0 (c := false) ?_ rfl (x0 (tC (eM rfl (mL rfl) rfl (hr _)) rfl (ne_self hb hbi)) rfl ?_)
  · cases fi with
    | none => exact tA (tsX rfl rfl)
    | some q =>
      have hq := k36 q rfl
      have hlen : lenO (.list (es M (q.1 + 1) q.2)) = some (.int (q.2 : Nat)) := congrArg (fun k : Nat => some (MV.int k)) es_len
      exact tA (tsC rfl rfl (tsX (tC (eM rfl (mL rfl) rfl hq) (eB rfl (eLen rfl hlen) rfl) rfl) (congrArg not (ez (n := q.1 + q.2) (m := q.1 + q.2) rfl))))
  · refine xFn (iO (eLst (eCons rfl (eCons (eLst (eCons (ent rfl rfl) rfl)) rfl)))) (fN (turn54 (more := []) hr hb hbi (by decide) (c36g1 G hf (Nat.le_refl _) rfl he.1 (by omega))) (fN (turn54 (more := [e0 (M l) (l + 1)]) hr hb hbi (by show 1 ≤ 10; decide) (c36g2 G hf (Nat.le_refl _) rfl he.2.1 (by omega))) rfl)) (xR rfl)
noncomputable def mkF : Nat → Nat → Nat → Nat
  | n, t, 0 => t + n % 3 * 2
  | n, t, i + 1 => mkF (n / 3) (t + n % 3 * 2) i
theorem mkT_len : ∀ {k n t : Nat}, (mkT k n t).length = k
  | 0, _, _ => rfl
  | k + 1, n, t => congrArg (· + 1) mkT_len
theorem mkT_tf : ∀ {k n t i : Nat}, i < k → tf (mkT k n t) i = mkF n t i
  | k + 1, n, t, 0, _ => rfl
  | k + 1, n, t, i + 1, h => mkT_tf (k := k) (by omega)
theorem mkF_par : ∀ {i n t : Nat}, mkF n t i % 2 = t % 2
  | 0, n, t => by show (t + n % 3 * 2) % 2 = _; omega
  | i + 1, n, t => by show mkF (n / 3) (t + n % 3 * 2) i % 2 = _; rw [mkF_par]; omega
theorem mkF_lo : ∀ {i n t : Nat}, t ≤ mkF n t i
  | 0, n, t => by show t ≤ t + n % 3 * 2; omega
  | i + 1, n, t => by
    show t ≤ mkF (n / 3) (t + n % 3 * 2) i
    exact Nat.le_trans (Nat.le_add_right _ _) mkF_lo
theorem mkF_up : ∀ {i n t : Nat}, mkF n t i ≤ mkF n t (i + 1)
  | 0, n, t => mkF_lo (i := 0)
  | i + 1, n, t => mkF_up (i := i)
theorem mkF_hi : ∀ {i n t : Nat}, mkF n t i ≤ t + 4 * (i + 1)
  | 0, n, t => by show t + n % 3 * 2 ≤ _; omega
  | i + 1, n, t => by
    show mkF (n / 3) (t + n % 3 * 2) i ≤ _
    have := mkF_hi (i := i) (n := n / 3) (t := t + n % 3 * 2)
    omega
theorem strt_spec {s odd : Nat} (h : odd < 2) : strt s odd % 2 = odd ∧ s ≤ strt s odd ∧ strt s odd ≤ s + 1 := by
  unfold strt; split <;> omega
end Mini.L
namespace Mini.L
open Mini
variable {p : Sh} {L O s Ld : Lg} {H : MH} {i d f l o n m c k t u cm a b : Nat} {T M : Nat → Nat} {x : LV} {E : List MV}
theorem cbt_in : ∀ {n : Nat}, (∃ j, 1 ≤ f ∧ f ≤ j ∧ j ≤ n ∧ T j ≤ t) → ∃ h, cbt T f t n = (h, T h) ∧ f ≤ h ∧ h ≤ n ∧ T h ≤ t ∧ ∀ j, h < j → j ≤ n → t < T j
  | 0, ⟨j, h0, h1, h2, _⟩ => absurd h1 (by omega)
  | n + 1, ⟨j, h0, h1, h2, h3⟩ => by
    have hc : cbt T f t (n + 1) = if T (n + 1) ≤ t then (n + 1, T (n + 1)) else cbt T f t n := if_neg (by omega)
    by_cases h : T (n + 1) ≤ t
    · exact ⟨n + 1, hc.trans (if_pos h), by omega, Nat.le_refl _, h, fun k h1 h2 => absurd h1 (by omega)⟩
    · have hj : j ≤ n := by
        by_cases q : j = n + 1
        · exact absurd (q ▸ h3) h
        · omega
      obtain ⟨g, e, g1, g2, g3, g4⟩ := cbt_in (n := n) ⟨j, h0, h1, hj, h3⟩
      exact ⟨g, hc.trans ((if_neg h).trans e), g1, by omega, g3, fun k h1 h2 => if q : k = n + 1 then q ▸ Nat.lt_of_not_le h else g4 k h1 (by omega)⟩
theorem cbt_out : ∀ {n : Nat}, 1 ≤ f → (∀ j, f ≤ j → j ≤ n → t < T j) → cbt T f t n = (min n (f - 1), 0)
  | 0, _, _ => by rw [Nat.zero_min]; rfl
  | n + 1, hf, h => by
    by_cases q : n + 1 < f
    · rw [show cbt T f t (n + 1) = (n + 1, 0) from if_pos q, show min (n + 1) (f - 1) = n + 1 by omega]
    · have hc : cbt T f t (n + 1) = if T (n + 1) ≤ t then (n + 1, T (n + 1)) else cbt T f t n := if_neg q
      rw [hc, if_neg (Nat.not_le.mpr (h _ (by omega) (Nat.le_refl _))), cbt_out hf fun j h1 h2 => h j h1 (by omega), show min n (f - 1) = min (n + 1) (f - 1) by omega]
theorem filt {ψ : Nat → Bool} {j : Nat} (h1 : a ≤ j) (h2 : j < a + m) (hj : ψ j = true) (hn : ∀ k, j < k → k < a + m → ψ k = false) : ∃ X, (List.range' a m).filter ψ = X ++ [j] ∧ ∀ y ∈ X, y ≤ j := by
  refine ⟨(List.range' a (j - a)).filter ψ, ?_, fun y hy => ?_⟩
  · rw [show m = (j - a) + (1 + (a + m - (j + 1))) by omega, ← List.range'_append_1, List.filter_append, ← List.range'_append_1, List.filter_append, show a + (j - a) = j by omega, List.range'_one]
    have e1 : [j].filter ψ = [j] := by rw [List.filter_cons, if_pos hj]; rfl
    have e2 : (List.range' (j + 1) (a + m - (j + 1))).filter ψ = [] := List.filter_eq_nil_iff.mpr fun k hk => by
      have := List.mem_range'_1.mp hk
      rw [hn k (by omega) (by omega)]; exact Bool.false_ne_true
    rw [e1, e2, List.append_nil]
  · have := List.mem_range'_1.mp (List.mem_filter.mp hy).1
    omega
theorem maxI_le : ∀ {l : List Nat} {z : Nat}, (∀ y ∈ l, y ≤ z) → maxI (z : Int) (l.map fun (y : Nat) => (y : Int)) = z
  | [], _, _ => rfl
  | y :: r, z, h => by
    show maxI (if (z : Int) < (y : Int) then (y : Int) else (z : Int)) _ = _
    rw [if_neg (by have := h y (.head _); omega)]
    exact maxI_le fun w hw => h w (.tail _ hw)
theorem maxI_last : ∀ {l : List Nat} {z j : Nat}, z ≤ j → (∀ y ∈ l, y ≤ j) → maxI (z : Int) ((l ++ [j]).map fun (y : Nat) => (y : Int)) = j
  | [], z, j, h, _ => by
    show maxI (if (z : Int) < (j : Int) then (j : Int) else (z : Int)) [] = _
    show (if (z : Int) < (j : Int) then (j : Int) else (z : Int)) = _
    split <;> omega
  | y :: r, z, j, h, hr => by
    show maxI (if (z : Int) < (y : Int) then (y : Int) else (z : Int)) _ = _
    have hy := hr y (.head _)
    split
    · exact maxI_last hy fun w hw => hr w (.tail _ hw)
    · exact maxI_last h fun w hw => hr w (.tail _ hw)
theorem intsOf_map : ∀ {l : List Nat}, intsOf (l.map fun (y : Nat) => MV.int (y : Int)) = some (l.map fun (y : Nat) => (y : Int))
  | [] => rfl
  | y :: r => by
    show ((MV.int (y : Int)).int?.bind fun i => (intsOf (r.map _)).map (i :: ·)) = _
    rw [intsOf_map]; rfl
theorem maxO_last {X : List Nat} {j : Nat} (h : ∀ y ∈ X, y ≤ j) : maxO ((X ++ [j]).map fun (y : Nat) => MV.int (y : Int)) = some (.int j) := by
  unfold maxO
  rw [intsOf_map]
  cases X with
  | nil => rfl
  | cons y r =>
    show some (MV.int (maxI (y : Int) ((r ++ [j]).map _))) = _
    rw [maxI_last (h y (.head _)) fun w hw => h w (.tail _ hw)]
theorem idx_last {X : List Nat} {j : Nat} : idxO (.list ((X ++ [j]).map fun (y : Nat) => MV.int (y : Int))) (.int (-((1 : Nat) : Int))) = some (.int j) := by
  have hl : ((X ++ [j]).map fun (y : Nat) => MV.int (y : Int)).length = X.length + 1 := by rw [List.length_map, List.length_append]; rfl
  have h1 : place (X.length + 1) (-((1 : Nat) : Int)) = some X.length := by
    unfold place
    rw [if_neg (by decide)]
    show guardO (decide _) (-((1 : Nat) : Int) + ((X.length + 1 : Nat) : Int)).toNat = _
    rw [decide_eq_true (by omega), show (-((1 : Nat) : Int) + ((X.length + 1 : Nat) : Int)).toNat = X.length by omega]; rfl
  show ((place _ (-((1 : Nat) : Int))).bind fun n => ((X ++ [j]).map fun (y : Nat) => MV.int (y : Int))[n]?).or _ = _
  rw [hl, h1]
  show (((X ++ [j]).map fun (y : Nat) => MV.int (y : Int))[X.length]?).or _ = _
  rw [List.getElem?_map, List.getElem?_append_right (Nat.le_refl _), Nat.sub_self]; rfl
noncomputable def grp (T : Nat → Nat) (g : Nat) (i : Nat) : Bool := !decide ((T i : Int) = (T (i - 1) : Int)) || decide ((i : Int) = ((g + 1 : Nat) : Int))
noncomputable def cnt (T : Nat → Nat) (g a : Nat) : Nat := ((List.range' (g + 1) (a - g)).filter (grp T g)).length
theorem cnt_succ {g a : Nat} (h : g ≤ a) : cnt T g (a + 1) = cnt T g a + if grp T g (a + 1) then 1 else 0 := by
  unfold cnt
  rw [show a + 1 - g = (a - g) + 1 by omega, ← List.range'_append_1, List.filter_append, List.length_append, show g + 1 + (a - g) = a + 1 by omega, List.range'_one]
  cases h : grp T g (a + 1) with
  | true => rw [List.filter_cons, if_pos h]; rfl
  | false => rw [List.filter_cons, if_neg (by rw [h]; exact Bool.false_ne_true)]; rfl
theorem cnt_mono {g a b : Nat} (h : a ≤ b) : cnt T g a ≤ cnt T g b := by
  by_cases hg : b ≤ g
  · unfold cnt
    rw [show a - g = 0 by omega]; exact Nat.zero_le _
  · by_cases ha : a ≤ g
    · unfold cnt
      rw [show a - g = 0 by omega]; exact Nat.zero_le _
    · obtain ⟨k, rfl⟩ := Nat.le.dest h
      clear h hg
      induction k with
      | zero => exact Nat.le_refl _
      | succ k ih => exact Nat.le_trans ih (by rw [← Nat.add_assoc, cnt_succ (by omega)]; exact Nat.le_add_right ..)
theorem cnt_lt {g a : Nat} (hg : g ≤ a) : ∀ {b : Nat}, a < b → a = g ∨ T a < T b → cnt T g a < cnt T g b
  | 0, h, _ => absurd h (Nat.not_lt_zero _)
  | b + 1, h, hv => by
    rw [cnt_succ (by omega)]
    by_cases hb : grp T g (b + 1) = true
    · rw [if_pos hb]
      exact Nat.lt_succ_of_le (cnt_mono (by omega))
    · have hb : grp T g (b + 1) = false := Bool.eq_false_iff.mpr hb
      have hb' := Bool.or_eq_false_iff.mp hb
      have h1 : T (b + 1) = T b := by
        have : decide ((T (b + 1) : Int) = (T (b + 1 - 1) : Int)) = true := by
          have := hb'.1
          revert this
          cases decide ((T (b + 1) : Int) = (T (b + 1 - 1) : Int)) <;> simp
        exact Int.ofNat.inj (of_decide_eq_true this)
      have h2 : b + 1 ≠ g + 1 := fun e => of_decide_eq_false hb'.2 (congrArg _ e)
      have hab : a < b := by
        by_cases q : a = b
        · rcases hv with e | e
          · omega
          · rw [h1, q] at e; exact absurd e (Nat.lt_irrefl _)
        · omega
      refine Nat.lt_of_lt_of_le (cnt_lt hg hab (hv.imp id fun e => h1 ▸ e)) (Nat.le_add_right ..)
end Mini.L
namespace Mini.L
open Mini
variable {p : Sh} {L O s Ld : Lg} {H : MH} {i d f l o n m c k t u cm a b : Nat} {T : Nat → Nat} {x : LV} {E : List MV}
structure Q where
  g : Nat
  last : Nat
  ed : Nat
  low : Nat
  kept : Nat
  sure : Nat
  base : Nat
  ko : Nat
  guess : Nat
  commit : Nat
  limit : Nat
  mi : List Nat
  th : List Nat
noncomputable abbrev Q.M (q : Q) : Nat → Nat := tf q.mi
noncomputable abbrev Q.N (q : Q) : Nat → Nat := tf q.th
structure Q.Ok (q : Q) : Prop where
  g1 : 1 ≤ q.g
  gl : q.g < q.last
  l1 : q.last < 50
  ge : q.g ≤ q.ed
  e1 : q.ed < 50
  ml : q.mi.length = q.last + 1
  tl : q.th.length = q.ed + 1
  ag : ∀ i, i ≤ q.g → q.N i = q.M i
  un : ∀ i j, q.g < i → i ≤ q.last → q.g < j → j ≤ q.ed → q.M i ≠ q.N j
  mm : ∀ i j, i ≤ j → j ≤ q.last → q.M i ≤ q.M j
  tm : ∀ i j, i ≤ j → j ≤ q.ed → q.N i ≤ q.N j
  mb : ∀ i, i ≤ q.last → q.M i < 100
  tb : ∀ i, i ≤ q.ed → q.N i < 100
  m1 : q.M 1 = 1
  lo : 1 ≤ q.low
  lk : q.low ≤ q.kept
  kl : q.kept ≤ q.last
  b1 : 1 ≤ q.base
  bs : q.base ≤ q.sure
  sg : q.sure ≤ q.g
  bk : q.base ≤ q.ko
  ke : q.ko ≤ q.ed
  gu : q.sure ≤ q.guess
  gul : q.guess ≤ q.last
  lc : q.low ≤ q.commit
  cl : q.commit ≤ q.last
structure PI (q : Q) (re : Bool) (O : Lg) (T : Nat → Nat) (f l o a : Nat) : Prop where
  G : Gd O T f l o
  fa : f ≤ a
  A : ∀ i, f ≤ i → i < max a q.g + 1 → i ≤ l ∧ T i = q.M i
  B : max a q.g + 1 ≤ q.last → ¬ (max a q.g + 1 ≤ l ∧ T (max a q.g + 1) = q.M (max a q.g + 1))
  C : q.g < a → l = a
  cw : O.com < max a q.g + 1
  c2 : O.com ≤ max q.sure q.commit
  c3 : q.sure ≤ O.com
  fs : f = if re then q.low else q.base
  sn : O.sn = if re then some (q.low, q.M q.low) else none
theorem page {q : Q} {re : Bool} (K : q.Ok) (I : PI q re O T f l o a) (h1 : 1 ≤ n) (h2 : a + n ≤ q.last) :
    ∃ O' T' l' o', callN P (d + 6) 36 [.obj (lx .snd), .int a, .int (q.M a), .int q.commit, .list (es q.M (a + 1) n)] (HH .snd O Ld) = .ok (.int ((a + n : Nat) : Int)) (HH .snd O' Ld) ∧ PI q re O' T' f l' o' (a + n) ∧ min q.commit (a + n) ≤ O'.com ∧
      o' = if max a q.g + 1 ≤ a + n then min o (max a q.g + 1) else o := by
  have hfa := I.fa
  have hA := I.A
  have hB := I.B
  have cw := I.cw
  have c2 := I.c2
  have c3 := I.c3
  have m1 : a ≤ max a q.g := Nat.le_max_left ..
  have m2 : q.g ≤ max a q.g := Nat.le_max_right ..
  have m3 : max a q.g = a ∨ max a q.g = q.g := by rcases Nat.le_total a q.g with e | e; exact .inr (Nat.max_eq_right e); exact .inl (Nat.max_eq_left e)
  generalize max a q.g = w at hA hB cw m1 m2 m3 ⊢
  have han : a + n < 100 := Nat.lt_of_le_of_lt h2 (Nat.lt_trans K.l1 (by decide))
  have haw : a < w + 1 := Nat.lt_succ_of_le m1
  obtain ⟨ha1, ha2⟩ := hA a hfa haw
  have hMl : ∀ j, j ≤ a + n → q.M j < 100 := fun j hj => K.mb j (Nat.le_trans hj h2)
  have fc := fcon_spec (T := T) (M := q.M) (l := l) (n := n) (a := a + 1) (Nat.succ_pos a)
  have nc2 : max O.com (min q.commit (a + n)) ≤ max q.sure q.commit := Nat.max_le.mpr ⟨c2, Nat.le_trans (Nat.min_le_left ..) (Nat.le_max_right ..)⟩
  have nc3 : q.sure ≤ max O.com (min q.commit (a + n)) := Nat.le_trans c3 (Nat.le_max_left ..)
  by_cases hw : w + 1 ≤ a + n
  · have hB := hB (Nat.le_trans hw h2)
    have hwl := (hA w (Nat.le_trans hfa m1) (Nat.lt_succ_self w)).1
    have hc : fcon T q.M l n (a + 1) = w + 1 := by
      rcases fc with ⟨_, e⟩ | ⟨e1, e2, e3, e4⟩
      · exact absurd (e _ (Nat.succ_le_succ m1) (Nat.lt_of_le_of_lt hw (by rw [Nat.add_right_comm]; exact Nat.lt_succ_self _))) hB
      · rcases Nat.lt_trichotomy (fcon T q.M l n (a + 1)) (w + 1) with q1 | q1 | q1
        · exact absurd (hA _ (Nat.le_trans hfa (Nat.le_of_succ_le e1)) q1) e4
        · exact q1
        · exact absurd (e3 _ (Nat.succ_le_succ m1) q1) hB
    have hfw : f < w + 1 := Nat.lt_succ_of_le (Nat.le_trans hfa m1)
    have e1 : w + 1 + (a + n + 1 - (w + 1)) = a + n + 1 := Nat.add_sub_cancel' (Nat.le_succ_of_le hw)
    have G' := I.G.put (M := q.M) (m := a + n + 1 - (w + 1)) (c := w + 1) (Nat.sub_pos_of_lt (Nat.lt_succ_of_le hw)) hfw (Nat.succ_le_succ hwl) (by rw [e1]; exact han) fun j _ hj => hMl j (Nat.le_of_lt_succ (by rw [e1] at hj; exact hj))
    rw [e1, Nat.add_sub_cancel] at G'
    have mx : max (a + n) q.g = a + n := Nat.max_eq_left (Nat.le_trans m2 (Nat.le_of_succ_le hw))
    refine ⟨_, _, a + n, _, c36c I.G hfa ha1 ha2 han hc haw hw (Nat.succ_le_succ hwl) hMl cw, ⟨G'.com _, Nat.le_trans hfa (Nat.le_add_right ..), fun i hi hlt => ?_, fun _ h => ?_, fun _ => rfl, ?_, nc2, nc3, I.fs, I.sn⟩, Nat.le_max_right .., (if_pos hw).symm.trans (by rw [if_pos hw])⟩
    · rw [mx] at hlt
      refine ⟨Nat.le_of_lt_succ hlt, ?_⟩
      unfold mix
      split
      · exact (hA i hi ‹_›).2
      · rfl
    · rw [mx] at h
      exact Nat.not_succ_le_self _ h.1
    · rw [mx]
      exact Nat.lt_succ_of_le (Nat.max_le.mpr ⟨Nat.le_trans (Nat.le_of_lt_succ cw) (Nat.le_of_succ_le hw), Nat.min_le_right ..⟩)
  · have hw' : a + n ≤ w := Nat.le_of_lt_succ (Nat.lt_of_not_le hw)
    have hn : a + n ≤ l := (hA (a + n) (Nat.le_trans hfa (Nat.le_add_right ..)) (Nat.lt_succ_of_le hw')).1
    have hc : fcon T q.M l n (a + 1) = 0 := by
      rcases fc with ⟨e, _⟩ | ⟨e1, e2, e3, e4⟩
      · exact e
      · exact absurd (hA _ (Nat.le_trans hfa (Nat.le_of_succ_le e1)) (Nat.lt_of_lt_of_le e2 (by rw [Nat.add_right_comm]; exact Nat.succ_le_succ hw'))) e4
    have hwg : w = q.g := m3.resolve_left fun e => Nat.lt_irrefl a (Nat.lt_of_lt_of_le (Nat.lt_add_of_pos_right h1) (e ▸ hw'))
    have hm : max (a + n) q.g = w := (Nat.max_eq_right (hwg ▸ hw')).trans hwg.symm
    refine ⟨_, T, l, o, c36s I.G hfa ha1 ha2 han hc hn, ⟨I.G.com _, Nat.le_trans hfa (Nat.le_add_right ..), by rw [hm]; exact hA, by rw [hm]; exact hB, fun h => absurd (Nat.lt_of_lt_of_le h (hwg ▸ hw')) (Nat.lt_irrefl _), ?_, nc2, nc3, I.fs, I.sn⟩, Nat.le_max_right .., (if_neg hw).symm⟩
    rw [hm]
    exact Nat.lt_succ_of_le (Nat.max_le.mpr ⟨Nat.le_of_lt_succ cw, Nat.le_trans (Nat.min_le_right ..) hw'⟩)
end Mini.L
namespace Mini.L
open Mini
variable {q : Q} {O Ld : Lg} {d l o n m c k t a b z ol r : Nat} {T : Nat → Nat}
noncomputable def lk (q : Q) (b z : Nat) (u0 u1 u2 u4 u5 u10 u12 : LV) (r : List MV) (fi : MV) (fo dn : Bool) (a : Nat) (v26 v27 v28 v29 v30 v31 v32 v33 v34 v35 v36 v37 v38 v39 v40 v41 : LV) : Loc :=
  [u0, u1, u2, .val (.int q.g), u4, u5, .val (tl q.mi), .val (tl q.th), .val (.int q.last), .val (.int q.ed), u10, .val (.int q.low), u12, .val (.int z), .val (.int q.sure), .val (.int b), .val (.int q.guess), .val (.obj 1), .val (.obj 4), .val (.int q.commit), .val (.int q.limit),
   .acc r, .val fi, .val (.bool fo), .val (.bool dn), .val (.int a), v26, v27, v28, v29, v30, v31, v32, v33, v34, v35, v36, v37, v38, v39, v40, v41, .un, .un, .un, .un, .un, .un, .un]
noncomputable def nthS : Nat → MSs → MSs
  | 0, b => b
  | n + 1, .cons _ r => nthS n r
  | _, .nil => .nil
noncomputable def b55 : MSs := match P02.f55.fk with | .body b => b | _ => .nil
noncomputable def bd26 : MSs := match nthS 29 b55 with | .cons (.forr _ _ b) _ => b | _ => .nil
noncomputable def Q.pg (q : Q) (a : Nat) : Nat := grow q.limit (q.last - a) (a + 1) 0 true
theorem Q.pg_le : q.pg a ≤ q.last - a := grow_le
theorem Q.pg_pos (h : a < q.last) : 1 ≤ q.pg a := by
  unfold Q.pg
  rw [show q.last - a = (q.last - a - 1) + 1 by omega]
  exact grow_pos
theorem pageL (GL : Gd Ld q.M q.low q.last ol) (h1 : q.low ≤ a) (h2 : a ≤ q.last) : callN P (d + 6) 44 [.obj (lx .fst), .int ((a : Int) + 1), .int q.limit] (HH .fst Ld O) = .ok (.list (es q.M (a + 1) (q.pg a))) (HH .fst Ld O) := by
  have := c44 (d := d) (p := .fst) (O := O) (lo := a + 1) (lim := q.limit) GL (by omega) (by omega)
  rw [show q.last + 1 - (a + 1) = q.last - a by omega] at this
  exact this
theorem hint_ok (K : q.Ok) (h1 : q.g < a) (h2 : a ≤ q.last) : ∃ h, cbt q.N q.base (q.M a) (min a q.ed) = (h, q.N h) ∧ q.g ≤ h ∧ h ≤ min a q.ed ∧ q.N h ≤ q.M a ∧ (∀ j, h < j → j ≤ min a q.ed → q.M a < q.N j) ∧ (q.g < h → q.N h < q.M a) := by
  have hg := K.ge
  have e := K.ag q.g (Nat.le_refl _)
  have hm := K.mm q.g a (by omega) h2
  obtain ⟨h, e1, e2, e3, e4, e5⟩ := cbt_in (T := q.N) (f := q.base) (t := q.M a) (n := min a q.ed) ⟨q.g, K.b1, Nat.le_trans K.bs K.sg, by omega, by rw [e]; exact hm⟩
  have hgh : q.g ≤ h := by
    by_cases w : q.g ≤ h
    · exact w
    · have := e5 q.g (by omega) (by omega)
      rw [e] at this
      exact absurd this (Nat.not_lt.mpr hm)
  exact ⟨h, e1, hgh, e3, e4, e5, fun w => Nat.lt_of_le_of_ne e4 fun w' => K.un a h h1 h2 w (by omega) w'.symm⟩
theorem step_ok (K : q.Ok) {h : Nat} (h0 : q.g < a) (h1 : q.g ≤ h) (h2 : h ≤ a) (h3 : a ≤ q.last) (h4 : h ≤ q.ed) (h5 : q.g < h → q.N h < q.M a) (h6 : q.low ≤ a) :
    ∃ w, (cbt q.M q.low (q.N h) h = (w, if q.low ≤ w then q.M w else 0)) ∧ w < a ∧ q.g ≤ w ∧ w ≤ h ∧ (q.g < w → q.low ≤ w → q.M w ≤ q.N h) ∧ (w < q.low → w = min h (q.low - 1) ∧ ∀ j, q.low ≤ j → j ≤ h → q.N h < q.M j) ∧ (q.low ≤ w → q.M w ≤ q.N h ∧ ∀ j, w < j → j ≤ h → q.N h < q.M j) := by
  have e := K.ag q.g (Nat.le_refl _)
  have hN := K.tm q.g h h1 h4
  have hlo := K.lo
  by_cases ex : ∃ j, q.low ≤ j ∧ j ≤ h ∧ q.M j ≤ q.N h
  · obtain ⟨j, j1, j2, j3⟩ := ex
    obtain ⟨w, e1, e2, e3, e4, e5⟩ := cbt_in (T := q.M) (f := q.low) (t := q.N h) (n := h) ⟨j, hlo, j1, j2, j3⟩
    refine ⟨w, by rw [if_pos e2]; exact e1, ?_, ?_, e3, fun _ _ => e4, fun q' => absurd e2 (by omega), fun _ => ⟨e4, e5⟩⟩
    · by_cases wa : w = a
      · have : h = a := by omega
        subst this; subst wa
        exact absurd e4 (Nat.not_le.mpr (h5 h0))
      · omega
    · by_cases gw : q.g ≤ w
      · exact gw
      · have := e5 q.g (by omega) h1
        rw [← e] at this
        exact absurd this (Nat.not_lt.mpr hN)
  · have ex : ∀ j, q.low ≤ j → j ≤ h → q.N h < q.M j := fun j j1 j2 => Nat.lt_of_not_le fun j3 => ex ⟨j, j1, j2, j3⟩
    have hgl : q.g < q.low := by
      by_cases w : q.low ≤ q.g
      · have := ex q.g w h1
        rw [← e] at this
        exact absurd this (Nat.not_lt.mpr hN)
      · omega
    refine ⟨min h (q.low - 1), ?_, ?_, by omega, by omega, fun _ w => absurd w (by omega), fun _ => ⟨rfl, ex⟩, fun w => absurd w (by omega)⟩
    · rw [if_neg (by omega)]; exact cbt_out hlo ex
    · omega
theorem let_list {T : Nat → Nat} {h : Nat} (h1 : a ≤ h) (h2 : h ≤ n) (h3 : T h ≤ t) (h4 : ∀ j, h < j → j ≤ n → t < T j) : ∃ X : List Nat, (List.range' a (n + 1 - a)).filter (fun j => decide ((T j : Int) ≤ (t : Int))) = X ++ [h] ∧ ∀ y ∈ X, y ≤ h :=
  filt h1 (by omega) (lz h3) fun k k1 k2 => lf (h4 k k1 (by omega))
theorem let_none {T : Nat → Nat} (h4 : ∀ j, a ≤ j → j ≤ n → t < T j) : (List.range' a (n + 1 - a)).filter (fun j => decide ((T j : Int) ≤ (t : Int))) = [] :=
  List.filter_eq_nil_iff.mpr fun k hk => by
    have := List.mem_range'_1.mp hk
    rw [lf (h4 k (by omega) (by omega))]; exact Bool.false_ne_true
section
variable {P : Prg} {cf : Nat → List MV → MH → RS MV} {lo : Loc} {H : MH}
theorem comp_let {ts : List Nat} {xi ti xt : Nat} {ea eb : ME} {H₁ H₂ : MH} (hts : ∀ j : Nat, (lget (lo.set xi (.val (.int (j : Int)))) ti).val? = some (tl ts)) (htt : ∀ j : Nat, (lget (lo.set xi (.val (.int (j : Int)))) xt).val? = some (.int (t : Int))) (hx : ∀ j : Nat, (lget (lo.set xi (.val (.int (j : Int)))) xi).val? = some (.int (j : Int)))
    (ha : evalE P cf ea lo H = .ok (.int (a : Int)) H₁) (hb : evalE P cf eb lo H₁ = .ok (.int ((n : Int) + 1)) H₂) (hl : n < ts.length) (h500 : a ≤ 500 ∧ n ≤ 500) :
    evalE P cf (.compIf (.var xi) xi (.range2 ea eb) (.cmp (.idx (.var ti) (.var xi)) (.one .le (.var xt)))) lo H = .ok (.list (((List.range' a (n + 1 - a)).filter fun j => decide ((tf ts j : Int) ≤ (t : Int))).map fun (j : Nat) => MV.int (j : Int))) H₂ :=
  eCompIf (iR2n ha hb rfl (n := n + 1) rfl ⟨by omega, by omega⟩) (by rw [List.length_map, List.length_range']; omega) (mapR_some fun j hj => by
    have hj : j < ts.length := by have := List.mem_range'_1.mp hj; omega
    refine bnd (tC (eIx (op (hts j) rfl) (op (hx j) rfl) (tl_get hj)) (op (htt j) rfl) rfl) ?_
    show (if decide ((tf ts j : Int) ≤ (t : Int)) = true then _ else _) = _
    cases decide ((tf ts j : Int) ≤ (t : Int)) with
    | true => exact bnd (op (hx j) rfl) rfl
    | false => rfl)
end
end Mini.L
namespace Mini.L
open Mini
variable {q : Q} {O Ld : Lg} {d l o oo n m c k t a b z ol : Nat} {T : Nat → Nat}
section
variable {P : Prg} {cf : Nat → List MV → MH → RS MV} {lo : Loc} {H H₁ : MH} {tt : MT} {ea eb : ME} {y : RS MV} {bb : Bool}
theorem eIteT (h : evalT P cf tt lo H = .ok bb H₁) (hb : bb = true) (k : evalE P cf ea lo H₁ = y) : evalE P cf (.ite tt ea eb) lo H = y := bnd h (by rw [hb]; exact k)
theorem eIteF (h : evalT P cf tt lo H = .ok bb H₁) (hb : bb = false) (k : evalE P cf eb lo H₁ = y) : evalE P cf (.ite tt ea eb) lo H = y := bnd h (by rw [hb]; exact k)
end
theorem turnR (K : q.Ok) (GL : Gd Ld q.M q.low q.last ol) (GO : Gd O q.N q.base q.ed oo) (h1 : q.g < a) (h2 : a ≤ q.last) (h3 : q.low ≤ a) {fi : Option (Nat × Nat)} {u0 u1 u2 u4 u5 u10 u12 v26 v27 v28 v29 v30 v31 v32 v33 v34 v35 v36 : LV} {r : List MV} (hr : r.length < 900) :
    ∃ h w, (q.g ≤ h ∧ h ≤ min a q.ed ∧ q.N h ≤ q.M a ∧ (q.g < h → q.N h < q.M a)) ∧ (w < a ∧ q.g ≤ w ∧ w ≤ h ∧ (q.g < w → q.low ≤ w → q.M w ≤ q.N h)) ∧ ∃ v27' v28' v29' v30' v31' v32' v33' v34' v35' v36',
      execSs P (callN P (d + 7)) bd26 (lk q q.base z u0 u1 u2 u4 u5 u10 u12 r (fstV q.M fi) false false a v26 v27 v28 v29 v30 v31 v32 v33 v34 v35 v36 .un .un .un .un .un) (HH .fst Ld O) =
        .next (lk q q.base z u0 u1 u2 u4 u5 u10 u12 (r ++ [.int (q.M a)]) (fstV q.M (some (fi.getD (a, q.pg a)))) false false w v26 v27' v28' v29' v30' v31' v32' v33' v34' v35' v36' .un .un .un .un .un) (HH .fst Ld O) := by
  obtain ⟨h, e1, f1, f2, f3, f4, f5⟩ := hint_ok K h1 h2
  have fa : h ≤ a := Nat.le_trans f2 (Nat.min_le_left ..)
  have fe : h ≤ q.ed := Nat.le_trans f2 (Nat.min_le_right ..)
  obtain ⟨w, e2, g1, g2, g3, g4, g5, g6⟩ := step_ok K h1 f1 fa h2 fe f5 h3
  have hl1 := K.l1
  have he1 := K.e1
  have hbg : q.base ≤ q.g := Nat.le_trans K.bs K.sg
  have hl5 : q.last ≤ 500 := Nat.le_trans (Nat.le_of_lt hl1) (by decide)
  have he5 : q.ed ≤ 500 := Nat.le_trans (Nat.le_of_lt he1) (by decide)
  have hb5 : q.base ≤ 500 := Nat.le_trans hbg (Nat.le_trans (Nat.le_of_lt h1) (Nat.le_trans h2 hl5))
  have k39 : callN P (d + 7) 39 [.obj (lx .snd), .int ((min a q.ed : Nat) : Int), .int (q.M a)] (HH .snd O Ld) = .ok (.tup [.int h, .int (q.N h)]) (HH .snd O Ld) := by
    have := c39 (d := d + 3) (p := .snd) (O := Ld) (t := q.M a) GO K.b1 (n := min a q.ed) (Nat.min_le_right ..)
    rw [e1] at this
    exact this
  have k39' : callN P (d + 7) 39 [.obj (lx .fst), .int h, .int (q.N h)] (HH .fst Ld O) = .ok (.tup [.int w, .int ((if q.low ≤ w then q.M w else 0 : Nat) : Int)]) (HH .fst Ld O) := by
    have := c39 (d := d + 3) (p := .fst) (O := O) (t := q.N h) GL K.lo (n := h) (Nat.le_trans fa h2)
    rw [e2] at this
    exact this
  have k36 : callN P (d + 7) 36 [.obj (lx .snd), .int a, .int (q.M a), .int q.commit, .list (es q.M (a + 1) (q.pg a))] (HH .snd O Ld) = .ok .none (HH .snd O Ld) := by
    refine c36n (d := d + 2) GO (Nat.le_trans hbg (Nat.le_of_lt h1)) (Nat.lt_of_le_of_lt (Nat.le_trans h2 hl5) (by decide)) ?_
    by_cases he : a ≤ q.ed
    · exact .inr fun e => K.un a a h1 h2 h1 he e.symm
    · exact .inl (Nat.lt_of_not_le he)
  obtain ⟨X, hX, hX2⟩ := let_list (T := q.N) (a := q.base) (n := min a q.ed) (t := q.M a) (Nat.le_trans hbg f1) f2 f3 f4
  refine ⟨h, w, ⟨f1, f2, f3, f5⟩, ⟨g1, g2, g3, g4⟩, .val (.int (q.M a)), .val (.list (es q.M (a + 1) (q.pg a))), .val (.int oo), .val .none, .val (.int h), .val (.int (q.N h)), .val (.int w), .val (.list (((List.range' q.low (h + 1 - q.low)).filter fun j => decide ((q.M j : Int) ≤ (q.N h : Int))).map fun (j : Nat) => MV.int (j : Int))), .val (.int w), .val (.int ((if q.low ≤ w then q.M w else 0 : Nat) : Int)), ?_⟩
  refine xTn (xA (eM rfl (mL (p := .fst) (L := Ld) (O := O) rfl) rfl (c34 (d := d + 4) (p := .fst) (O := O) GL h3 h2)) rfl) (xA (eM rfl (mL (p := .fst) (L := Ld) (O := O) rfl) rfl (pageL (d := d + 1) GL h3 h2)) ?_)
  have t3 : ∀ {rr : MSs} {x : SR}, execSs P (callN P (d + 7)) rr (lk q q.base z u0 u1 u2 u4 u5 u10 u12 r (fstV q.M (some (fi.getD (a, q.pg a)))) false false a v26 (.val (.int (q.M a))) (.val (.list (es q.M (a + 1) (q.pg a)))) v29 v30 v31 v32 v33 v34 v35 v36 .un .un .un .un .un) (HH .fst Ld O) = x →
      execSs P (callN P (d + 7)) (.cons (.ife (.isNone (.var 22)) (.cons (.assign 22 (.tup (.cons (.var 25) (.cons (.var 27) (.cons (.var 28) .nil))))) .nil) .nil) rr) (lk q q.base z u0 u1 u2 u4 u5 u10 u12 r (fstV q.M fi) false false a v26 (.val (.int (q.M a))) (.val (.list (es q.M (a + 1) (q.pg a)))) v29 v30 v31 v32 v33 v34 v35 v36 .un .un .un .un .un) (HH .fst Ld O) = x := fun {rr x} kk => by
    cases fi with
    | none => exact xI rfl rfl (xA rfl rfl) kk
    | some w => exact x0 rfl rfl kk
  refine t3 (xA (eCl rfl (c53 (d := d + 4) (p := .snd) (O := Ld) GO)) (xA (eM rfl (mL (p := .snd) (L := O) (O := Ld) rfl) rfl k36) (x0 (tC rfl (eC rfl rfl (congrArg some (nz h1))) (ne_self rfl rfl)) rfl (x0 rfl rfl (xP rfl rfl (Nat.lt_trans hr (by decide)) ?_)))))
  refine xU (eM rfl (mL (p := .snd) (L := O) (O := Ld) rfl) (eCons (eMinV (k := ((min a q.ed : Nat) : Int)) rfl (eM rfl (mL (p := .snd) (L := O) (O := Ld) rfl) rfl (c32 (d := d + 5) (p := .snd) (O := Ld) GO)) (minN (i := a) (j := q.ed))) (eCons rfl rfl)) k39) rfl ?_
  refine xA (bnd (comp_let (ts := q.th) (a := q.base) (n := min a q.ed) (t := q.M a) (fun _ => rfl) (fun _ => rfl) (fun _ => rfl) rfl (eB (eMinV (k := ((min a q.ed : Nat) : Int)) rfl rfl (minN (i := a) (j := q.ed))) rfl rfl) (K.tl ▸ Nat.lt_succ_of_le (Nat.min_le_right ..)) ⟨hb5, Nat.le_trans (Nat.min_le_right ..) he5⟩) (op (c := .int h) (by rw [hX]; exact maxO_last hX2) rfl)) ?_
  refine x0 (tC (eTup rfl) (eTup (eCons rfl (eCons (eIx rfl rfl (tl_get (K.tl ▸ Nat.lt_succ_of_le fe))) rfl))) (ne_self rfl rfl)) rfl ?_
  refine xA (comp_let (ts := q.mi) (a := q.low) (n := h) (t := q.N h) (fun _ => rfl) (fun _ => rfl) (fun _ => rfl) rfl rfl (K.ml ▸ Nat.lt_succ_of_le (Nat.le_trans fa h2)) ⟨Nat.le_trans h3 (Nat.le_trans h2 hl5), Nat.le_trans fa (Nat.le_trans h2 hl5)⟩) (xA (eMinV (k := ((min h (q.low - 1) : Nat) : Int)) rfl rfl (minP K.lo)) ?_)
  have t14 : ∀ {rr : MSs} {x : SR} {v27 v28 v29 v30 v31 v32 : LV} {r : List MV} {fi : MV}, execSs P (callN P (d + 7)) rr (lk q q.base z u0 u1 u2 u4 u5 u10 u12 r fi false false a v26 v27 v28 v29 v30 v31 v32 (.val (.int w)) (.val (.list (((List.range' q.low (h + 1 - q.low)).filter fun j => decide ((q.M j : Int) ≤ (q.N h : Int))).map fun (j : Nat) => MV.int (j : Int)))) v35 v36 .un .un .un .un .un) (HH .fst Ld O) = x →
      execSs P (callN P (d + 7)) (.cons (.ife (.cmp (.len (.var 34)) (.one .gt (.int 0))) (.cons (.assign 33 (.idx (.var 34) (.neg 1))) .nil) .nil) rr) (lk q q.base z u0 u1 u2 u4 u5 u10 u12 r fi false false a v26 v27 v28 v29 v30 v31 v32 (.val (.int ((min h (q.low - 1) : Nat) : Int))) (.val (.list (((List.range' q.low (h + 1 - q.low)).filter fun j => decide ((q.M j : Int) ≤ (q.N h : Int))).map fun (j : Nat) => MV.int (j : Int)))) v35 v36 .un .un .un .un .un) (HH .fst Ld O) = x := fun {rr x v27 v28 v29 v30 v31 v32 r fi} kk => by
    by_cases hw : q.low ≤ w
    · obtain ⟨Z, hZ, _⟩ := let_list (T := q.M) (a := q.low) (n := h) (t := q.N h) hw g3 (g6 hw).1 (g6 hw).2
      rw [hZ] at kk ⊢
      exact xI rfl (decide_eq_true (by rw [List.length_map, List.length_append]; exact Int.ofNat_lt.mpr (Nat.succ_pos _))) (xA (eIx rfl rfl idx_last) rfl) kk
    · have hz := let_none (T := q.M) (a := q.low) (n := h) (t := q.N h) (g5 (Nat.lt_of_not_le hw)).2
      rw [hz] at kk ⊢
      rw [← (g5 (Nat.lt_of_not_le hw)).1]
      exact x0 rfl rfl kk
  refine t14 (xU (eM rfl (mL (p := .fst) (L := Ld) (O := O) rfl) rfl k39') rfl (x0 (c := false) (H₁ := HH .fst Ld O) (tC (v := .int ((if q.low ≤ w then q.M w else 0 : Nat) : Int)) (w := .int ((if q.low ≤ w then q.M w else 0 : Nat) : Int)) rfl ?_ (congrArg some (congrArg not (ez rfl)))) rfl ?_))
  · by_cases hw : q.low ≤ w
    · rw [if_pos hw]
      exact eIteT rfl (lz hw) (eIx rfl rfl (tl_get (K.ml ▸ Nat.lt_succ_of_le (Nat.le_of_lt (Nat.lt_of_lt_of_le g1 h2)))))
    · rw [if_neg hw]
      exact eIteF rfl (lf (Nat.lt_of_not_le hw)) rfl
  · exact x0 (tO (tsC rfl (congrArg not (ez rfl)) (tsC rfl (lf g1) (tsC rfl (nf g2) tsN)))) rfl (xA rfl rfl)
end Mini.L
namespace Mini.L
open Mini
variable {q : Q} {O Ld : Lg} {d l o oo n m c k t a b z ol : Nat} {T : Nat → Nat}
theorem pi0 (K : q.Ok) (GO : Gd O q.N q.base q.ed oo) (hc : q.sure ≤ O.com) (hc1 : O.com ≤ q.g) (hc2 : O.com ≤ max q.sure q.commit) (hs : O.sn = none) (h0 : q.base ≤ a) (h : a ≤ q.g) : PI q false O q.N q.base q.ed oo a := by
  have hm : max a q.g = q.g := Nat.max_eq_right h
  have hge := K.ge
  refine ⟨GO, h0, fun i _ hi => ?_, fun h1 => ?_, fun h1 => absurd h1 (Nat.not_lt.mpr h), ?_, hc2, hc, rfl, hs⟩
  · rw [hm] at hi
    have hi := Nat.le_of_lt_succ hi
    exact ⟨Nat.le_trans hi hge, K.ag i hi⟩
  · rw [hm] at h1 ⊢
    exact fun h2 => K.un _ _ (Nat.lt_succ_self _) h1 (Nat.lt_succ_self _) h2.1 h2.2.symm
  · rw [hm]; exact Nat.lt_succ_of_le hc1
theorem turnA (K : q.Ok) (GL : Gd Ld q.M q.low q.last ol) (GO : Gd O q.N q.base q.ed oo) (hc : O.com = q.sure) (hs : O.sn = none) (h0 : q.base ≤ a) (h1 : a ≤ q.g) (h3 : q.low ≤ a) {fi : Option (Nat × Nat)} {u0 u1 u2 u4 u5 u10 u12 v26 v27 v28 v29 v30 v31 v32 v33 v34 v35 v36 : LV} {r : List MV} :
    ∃ O' T' l' o' v27' v28' v29' v30', PI q false O' T' q.base l' o' (a + q.pg a) ∧ min q.commit (a + q.pg a) ≤ O'.com ∧
      execSs P (callN P (d + 7)) bd26 (lk q q.base z u0 u1 u2 u4 u5 u10 u12 r (fstV q.M fi) false false a v26 v27 v28 v29 v30 v31 v32 v33 v34 v35 v36 .un .un .un .un .un) (HH .fst Ld O) =
        .brk (lk q q.base z u0 u1 u2 u4 u5 u10 u12 r (fstV q.M (some (fi.getD (a, q.pg a)))) false true (a + q.pg a) v26 v27' v28' v29' v30' v31 v32 v33 v34 v35 v36 .un .un .un .un .un) (HH .fst Ld O') := by
  have hgl := K.gl
  have hp1 := Q.pg_pos (q := q) (a := a) (by omega)
  have hp2 := Q.pg_le (q := q) (a := a)
  have hal : a ≤ q.last := by omega
  have hap : a + q.pg a ≤ q.last := by omega
  obtain ⟨O', T', l', o', k36, I', hcm, ho'⟩ := page (d := d + 1) (Ld := Ld) K (pi0 K GO (Nat.le_of_eq hc.symm) (hc ▸ K.sg) (hc ▸ Nat.le_max_left ..) hs h0 h1) hp1 hap
  rw [Nat.max_eq_right h1] at ho'
  refine ⟨O', T', l', o', .val (.int (q.M a)), .val (.list (es q.M (a + 1) (q.pg a))), .val (.int o'), .val (.int ((a + q.pg a : Nat) : Int)), I', hcm, ?_⟩
  refine xTn (xA (eM rfl (mL (p := .fst) (L := Ld) (O := O) rfl) rfl (c34 (d := d + 4) (p := .fst) (O := O) GL h3 hal)) rfl) (xA (eM rfl (mL (p := .fst) (L := Ld) (O := O) rfl) rfl (pageL (d := d + 1) GL h3 hal)) ?_)
  have t3 : ∀ {rr : MSs} {x : SR}, execSs P (callN P (d + 7)) rr (lk q q.base z u0 u1 u2 u4 u5 u10 u12 r (fstV q.M (some (fi.getD (a, q.pg a)))) false false a v26 (.val (.int (q.M a))) (.val (.list (es q.M (a + 1) (q.pg a)))) v29 v30 v31 v32 v33 v34 v35 v36 .un .un .un .un .un) (HH .fst Ld O) = x →
      execSs P (callN P (d + 7)) (.cons (.ife (.isNone (.var 22)) (.cons (.assign 22 (.tup (.cons (.var 25) (.cons (.var 27) (.cons (.var 28) .nil))))) .nil) .nil) rr) (lk q q.base z u0 u1 u2 u4 u5 u10 u12 r (fstV q.M fi) false false a v26 (.val (.int (q.M a))) (.val (.list (es q.M (a + 1) (q.pg a)))) v29 v30 v31 v32 v33 v34 v35 v36 .un .un .un .un .un) (HH .fst Ld O) = x := fun {rr x} kk => by
    cases fi with
    | none => exact xI rfl rfl (xA rfl rfl) kk
    | some w => exact x0 rfl rfl kk
  have kw : callN P (d + 7) 53 [.obj (lx .snd)] (HH .snd O' Ld) = .ok (.int o') (HH .snd O' Ld) := c53 (d := d + 4) (p := .snd) (O := Ld) I'.G
  refine t3 (xA (eCl rfl (c53 (d := d + 4) (p := .snd) (O := Ld) GO)) (xA (eM rfl (mL (p := .snd) (L := O) (O := Ld) rfl) rfl k36) (x0 (c := false) (tC rfl (eC rfl rfl (congrArg some (nf h1))) (ne_self rfl rfl)) rfl (xIb rfl rfl ?_))))
  by_cases hw : q.g + 1 ≤ a + q.pg a
  · rw [if_pos hw] at ho'
    exact xI rfl (nz hw) (xA (eMinV (k := (o' : Int)) rfl rfl (ho'.symm ▸ minN (i := oo) (j := q.g + 1))) rfl) (x0 (tC (eCl rfl kw) rfl rfl) (congrArg not (ez rfl)) (xA rfl (xA rfl rfl)))
  · rw [if_neg hw] at ho'
    subst ho'
    exact x0 rfl (nf (Nat.le_of_lt_succ (Nat.lt_of_not_le hw))) (x0 (tC (eCl rfl kw) rfl rfl) (congrArg not (ez rfl)) (xA rfl (xA rfl rfl)))
structure Cn (q : Q) (fi : Option (Nat × Nat)) (r : List MV) : Prop where
  c1 : r.length ≤ cnt q.M q.g q.guess
  c2 : r.length ≤ cnt q.N q.g q.ed + 1
  some : ∀ w, fi = some w → w = (q.guess, q.pg q.guess) ∧ q.low ≤ q.guess
inductive TE (q : Q) (z : Nat) (u0 u1 u2 u4 u5 u10 u12 : LV) (O Ld : Lg) : SR → Prop
  | fold {r fi a v26 v27 v28 v29 v30 v31 v32 v33 v34 v35 v36} (C : Cn q fi r) (h : q.guess < q.low ∨ q.g < q.low) : TE q z u0 u1 u2 u4 u5 u10 u12 O Ld (.next (lk q q.base z u0 u1 u2 u4 u5 u10 u12 r (fstV q.M fi) true false a v26 v27 v28 v29 v30 v31 v32 v33 v34 v35 v36 .un .un .un .un .un) (HH .fst Ld O))
  | done {r fi a v26 v27 v28 v29 v30 v31 v32 v33 v34 v35 v36 O' T' l' o'} (C : Cn q fi r) (I : PI q false O' T' q.base l' o' a) (hc : min q.commit a ≤ O'.com) (ha : a ≤ q.last) (hl : q.low ≤ a) (h : ¬ (q.guess < q.low ∨ q.g < q.low)) : TE q z u0 u1 u2 u4 u5 u10 u12 O Ld (.next (lk q q.base z u0 u1 u2 u4 u5 u10 u12 r (fstV q.M fi) false true a v26 v27 v28 v29 v30 v31 v32 v33 v34 v35 v36 .un .un .un .un .un) (HH .fst Ld O'))
structure TI (q : Q) (fi : Option (Nat × Nat)) (r : List MV) (a N : Nat) : Prop where
  n : a < q.g + N
  n1 : 1 ≤ N
  s : q.sure ≤ a
  gu : a ≤ q.guess
  g : a = q.guess ∨ q.g ≤ a
  f0 : fi = none → a = q.guess
  f1 : ∀ w, fi = some w → w = (q.guess, q.pg q.guess) ∧ q.low ≤ q.guess
  c0 : r.length ≤ cnt q.M q.g q.guess
  c1 : q.low ≤ a → r.length + cnt q.M q.g a ≤ cnt q.M q.g q.guess
  c2 : r.length ≤ cnt q.N q.g q.ed + 1
  c3 : r.length = 0 ∨ ∃ h, a ≤ h ∧ h ≤ q.ed ∧ (q.g < a → q.low ≤ a → q.M a ≤ q.N h) ∧ r.length + cnt q.N q.g h ≤ cnt q.N q.g q.ed + 1
  r5 : r.length + N ≤ 500
theorem TI.cn {fi : Option (Nat × Nat)} {r : List MV} (I : TI q fi r a n) : Cn q fi r := ⟨I.c0, I.c2, I.f1⟩
theorem TI.first {fi : Option (Nat × Nat)} {r : List MV} (I : TI q fi r a n) (h : q.low ≤ a) : ∀ w, some (fi.getD (a, q.pg a)) = some w → w = (q.guess, q.pg q.guess) ∧ q.low ≤ q.guess := fun w e => by
  cases fi with
  | none =>
    have := I.f0 rfl
    subst this
    cases e; exact ⟨rfl, h⟩
  | some w' => cases e; exact I.f1 w' rfl
theorem TI.next (K : q.Ok) {fi : Option (Nat × Nat)} {r : List MV} {h w : Nat} (I : TI q fi r a (n + 1)) (h1 : q.g < a) (hl : q.low ≤ a) (f : q.g ≤ h ∧ h ≤ min a q.ed ∧ q.N h ≤ q.M a ∧ (q.g < h → q.N h < q.M a)) (s : w < a ∧ q.g ≤ w ∧ w ≤ h ∧ (q.g < w → q.low ≤ w → q.M w ≤ q.N h)) : TI q (some (fi.getD (a, q.pg a))) (r ++ [.int (q.M a)]) w n := by
  obtain ⟨f1, f2, f3, f5⟩ := f
  obtain ⟨s1, s2, s3, s4⟩ := s
  have hlen : (r ++ [MV.int (q.M a)]).length = r.length + 1 := List.length_append
  have hga := I.gu
  have hgl := K.gul
  have hsg := K.sg
  have hn := I.n
  have r5 := I.r5
  have he : h ≤ q.ed := Nat.le_trans f2 (Nat.min_le_right ..)
  have ha : h ≤ a := Nat.le_trans f2 (Nat.min_le_left ..)
  have ca := I.c1 hl
  have m1 : q.low ≤ w → cnt q.M q.g w < cnt q.M q.g a := fun wl => by
    by_cases hw : w = q.g
    · subst hw; exact cnt_lt (Nat.le_refl _) s1 (.inl rfl)
    · have gw : q.g < w := Nat.lt_of_le_of_ne s2 (Ne.symm hw)
      exact cnt_lt s2 s1 (.inr (Nat.lt_of_le_of_lt (s4 gw wl) (f5 (Nat.lt_of_lt_of_le gw s3))))
  have pos : cnt q.M q.g q.g < cnt q.M q.g a := cnt_lt (Nat.le_refl _) h1 (.inl rfl)
  have c3 : (r ++ [MV.int (q.M a)]).length + cnt q.N q.g h ≤ cnt q.N q.g q.ed + 1 := by
    rw [hlen]
    rcases I.c3 with e | ⟨hp, p1, p2, p3, p4⟩
    · have := cnt_mono (T := q.N) (g := q.g) he
      rw [e]; omega
    · have gp : q.g < hp := Nat.lt_of_lt_of_le h1 p1
      have : cnt q.N q.g h < cnt q.N q.g hp := by
        by_cases hg : h = q.g
        · rw [hg]; exact cnt_lt (Nat.le_refl _) gp (.inl rfl)
        · have lt := Nat.lt_of_lt_of_le (f5 (Nat.lt_of_le_of_ne f1 (Ne.symm hg))) (p3 h1 hl)
          exact cnt_lt f1 (Nat.lt_of_le_of_ne (Nat.le_trans ha p1) fun e => by rw [e] at lt; exact Nat.lt_irrefl _ lt) (.inr lt)
      omega
  refine ⟨by omega, by omega, Nat.le_trans hsg s2, Nat.le_of_lt (Nat.lt_of_lt_of_le s1 hga), .inr s2, (fun e => nomatch e), I.first hl, by rw [hlen]; omega, fun wl => by have := m1 wl; rw [hlen]; omega, Nat.le_trans (Nat.le_add_right ..) c3, .inr ⟨h, s3, he, s4, c3⟩, by rw [hlen]; omega⟩
theorem talk (K : q.Ok) (GL : Gd Ld q.M q.low q.last ol) (GO : Gd O q.N q.base q.ed oo) (hc : O.com = q.sure) (hs : O.sn = none) {u0 u1 u2 u4 u5 u10 u12 : LV} : ∀ (N j0 a : Nat) (fi : Option (Nat × Nat)) (r : List MV) (v26 v27 v28 v29 v30 v31 v32 v33 v34 v35 v36 : LV), TI q fi r a N →
    TE q z u0 u1 u2 u4 u5 u10 u12 O Ld (forM 26 (execSs P (callN P (d + 7)) bd26) ((List.range' j0 N).map fun (j : Nat) => MV.int (j : Int)) (lk q q.base z u0 u1 u2 u4 u5 u10 u12 r (fstV q.M fi) false false a v26 v27 v28 v29 v30 v31 v32 v33 v34 v35 v36 .un .un .un .un .un) (HH .fst Ld O))
  | 0, _, _, _, _, _, _, _, _, _, _, _, _, _, _, _, I => absurd I.n1 (Nat.not_succ_le_zero _)
  | N + 1, j0, a, fi, r, v26, v27, v28, v29, v30, v31, v32, v33, v34, v35, v36, I => by
    rw [List.range'_succ, List.map_cons]
    by_cases hl : q.low ≤ a
    · by_cases hg : a ≤ q.g
      · obtain ⟨O', T', l', o', w27, w28, w29, w30, I', hcm, k⟩ := turnA (d := d) (z := z) (fi := fi) (u0 := u0) (u1 := u1) (u2 := u2) (u4 := u4) (u5 := u5) (u10 := u10) (u12 := u12) (v26 := .val (.int j0)) (v27 := v27) (v28 := v28) (v29 := v29) (v30 := v30) (v31 := v31) (v32 := v32) (v33 := v33) (v34 := v34) (v35 := v35) (v36 := v36) (r := r) K GL GO hc hs (Nat.le_trans K.bs I.s) hg hl
        rw [show forM 26 _ _ _ _ = _ from fB k]
        have hp := Q.pg_le (q := q) (a := a)
        have hgl := K.gl
        have hgu := I.gu
        exact .done ⟨I.c0, I.c2, I.first hl⟩ I' hcm (by omega) (Nat.le_trans hl (Nat.le_add_right ..)) (by omega)
      · have hg := Nat.lt_of_not_le hg
        have r5 := I.r5
        obtain ⟨h, w, f, s, w27, w28, w29, w30, w31, w32, w33, w34, w35, w36, k⟩ := turnR (d := d) (z := z) (fi := fi) (u0 := u0) (u1 := u1) (u2 := u2) (u4 := u4) (u5 := u5) (u10 := u10) (u12 := u12) (v26 := .val (.int j0)) (v27 := v27) (v28 := v28) (v29 := v29) (v30 := v30) (v31 := v31) (v32 := v32) (v33 := v33) (v34 := v34) (v35 := v35) (v36 := v36) (r := r) K GL GO hg (Nat.le_trans I.gu K.gul) hl (by omega)
        rw [show forM 26 _ _ _ _ = _ from fN k rfl]
        exact talk K GL GO hc hs N (j0 + 1) w _ _ _ _ _ _ _ _ _ _ _ _ _ (I.next K hg hl f s)
    · have hl := Nat.lt_of_not_le hl
      have k : execSs P (callN P (d + 7)) bd26 ((lk q q.base z u0 u1 u2 u4 u5 u10 u12 r (fstV q.M fi) false false a v26 v27 v28 v29 v30 v31 v32 v33 v34 v35 v36 .un .un .un .un .un).set 26 (.val (.int j0))) (HH .fst Ld O) = .brk (lk q q.base z u0 u1 u2 u4 u5 u10 u12 r (fstV q.M fi) true false a (.val (.int j0)) v27 v28 v29 v30 v31 v32 v33 v34 v35 v36 .un .un .un .un .un) (HH .fst Ld O) :=
        xTb (aX (eM rfl (mL (p := .fst) (L := Ld) (O := O) rfl) rfl (c34c (d := d + 4) (p := .fst) (O := O) GL hl))) rfl
      rw [show forM 26 _ _ _ _ = _ from fB k]
      refine .fold I.cn ?_
      rcases I.g with e | e
      · exact .inl (e ▸ hl)
      · exact .inr (Nat.lt_of_le_of_lt e hl)
end Mini.L
namespace Mini.L
open Mini
variable {q : Q} {O Ld : Lg} {d l o oo n m c k t a b z ol f : Nat} {T : Nat → Nat}
noncomputable def ts36 : MT := match nthS 36 b55 with | .cons (.whil _ t _) _ => t | _ => .and .nil
noncomputable def bd36' : MSs := match nthS 36 b55 with | .cons (.whil _ _ b) _ => b | _ => .nil
theorem turnP {re : Bool} (K : q.Ok) (GL : Gd Ld q.M q.low q.last ol) (I : PI q re O T f l o a) (hlo : q.low ≤ a) (hal : a < q.last) {u0 u1 u2 u4 u5 u10 u12 v26 v27 v28 v29 v30 v31 v32 v33 v34 v35 v36 v37 v38 v39 v40 v41 : LV} {r : List MV} {fi : MV} {fo dn : Bool} :
    ∃ O' T' l' o' v28' v29' v39' v40', PI q re O' T' f l' o' (a + q.pg a) ∧ min q.commit (a + q.pg a) ≤ O'.com ∧
      execSs P (callN P (d + 7)) bd36' (lk q f z u0 u1 u2 u4 u5 u10 u12 r fi fo dn a v26 v27 v28 v29 v30 v31 v32 v33 v34 v35 v36 v37 v38 v39 v40 v41) (HH .fst Ld O) =
        .next (lk q f z u0 u1 u2 u4 u5 u10 u12 r fi fo dn (a + q.pg a) v26 v27 v28' v29' v30 v31 v32 v33 v34 v35 v36 v37 v38 v39' v40' v41) (HH .fst Ld O') := by
  have hp1 := Q.pg_pos (q := q) (a := a) hal
  have hp2 := Q.pg_le (q := q) (a := a)
  have hap : a + q.pg a ≤ q.last := by omega
  have hl1 := K.l1
  obtain ⟨O', T', l', o', k36, I', hcm, ho'⟩ := page (d := d + 1) (Ld := Ld) K I hp1 hap
  have kw : callN P (d + 7) 53 [.obj (lx .snd)] (HH .snd O' Ld) = .ok (.int o') (HH .snd O' Ld) := c53 (d := d + 4) (p := .snd) (O := Ld) I'.G
  have hlen : lenO (.list (es q.M (a + 1) (q.pg a))) = some (.int (q.pg a : Nat)) := congrArg (fun k : Nat => some (MV.int k)) es_len
  have k51 : callN P (d + 7) 51 [tl q.mi, .int ((a + 1 : Nat) : Int), .int ((a + 1 + q.pg a : Nat) : Int)] (HH .fst Ld O) = .ok (.list (rs q.M (a + 1) (q.pg a))) (HH .fst Ld O) := by
    have := c51 (d := d + 5) (ts := q.mi) (m := a + 1) (n := a + 1 + q.pg a) (H := HH .fst Ld O) (by omega) (by rw [K.ml]; omega) (by rw [K.ml]; omega) fun j hj => Nat.lt_trans (K.mb j (by rw [K.ml] at hj; omega)) (by decide)
    rw [Nat.add_sub_cancel_left] at this
    exact this
  refine ⟨O', T', l', o', .val (.list (es q.M (a + 1) (q.pg a))), .val (.int o'), .val (.int (q.pg a : Nat)), .val (.int ((max a q.g + 1 : Nat) : Int)), I', hcm, ?_⟩
  refine xA (eM rfl (mL (p := .fst) (L := Ld) (O := O) rfl) rfl (pageL (d := d + 1) GL hlo (Nat.le_of_lt hal))) (xA (eLen rfl hlen) (x0 (tO (tsC rfl (decide_eq_false (by omega)) (tsC (tC (eComp (iO rfl) (by rw [es_len]; omega) (mapR_es fun j _ _ => bnd (eM rfl rfl rfl (callAt rfl rfl)) rfl)) (eCl rfl k51) (ne_self rs_plain7 rfl)) rfl tsN))) rfl ?_))
  refine xA (eCl rfl (c53 (d := d + 4) (p := .snd) (O := Ld) I.G)) (x0 (tC (eM rfl (mL (p := .snd) (L := O) (O := Ld) rfl) (eCons rfl (eCons (eM rfl (mL (p := .fst) (L := Ld) (O := O) rfl) rfl (c34 (d := d + 4) (p := .fst) (O := O) GL hlo (Nat.le_of_lt hal))) rfl)) k36) rfl rfl) (congrArg not (ez (n := a + q.pg a) (m := a + q.pg a) rfl)) ?_)
  refine xA (eB (eMaxV (k := ((max a q.g : Nat) : Int)) rfl rfl maxN) rfl rfl) (xG (w := .int a) (u := .int ((a + q.pg a : Nat) : Int)) rfl rfl rfl ?_)
  by_cases hw : max a q.g + 1 ≤ a + q.pg a
  · rw [if_pos hw] at ho'
    exact xI rfl (lz hw) (xA (eMinV (k := (o' : Int)) rfl rfl (ho'.symm ▸ minN (i := o) (j := max a q.g + 1))) rfl) (x0 (tC (eCl rfl kw) rfl rfl) (congrArg not (ez rfl)) rfl)
  · rw [if_neg hw] at ho'
    subst ho'
    exact x0 rfl (lf (Nat.lt_of_not_le hw)) (x0 (tC (eCl rfl kw) rfl rfl) (congrArg not (ez rfl)) rfl)
theorem pages {re : Bool} (K : q.Ok) (GL : Gd Ld q.M q.low q.last ol) {u0 u1 u2 u4 u5 u10 u12 v26 v27 v30 v31 v32 v33 v34 v35 v36 v37 v38 v41 : LV} {r : List MV} {fi : MV} {fo dn : Bool} : ∀ (N a : Nat) (O : Lg) (T : Nat → Nat) (l o : Nat) (v28 v29 v39 v40 : LV), q.last - a < N → a ≤ q.last → q.low ≤ a → PI q re O T f l o a → min q.commit a ≤ O.com →
    ∃ O' T' l' o' v28' v29' v39' v40', PI q re O' T' f l' o' q.last ∧ min q.commit q.last ≤ O'.com ∧
      whileM (evalT P (callN P (d + 7)) ts36) (execSs P (callN P (d + 7)) bd36') N (lk q f z u0 u1 u2 u4 u5 u10 u12 r fi fo dn a v26 v27 v28 v29 v30 v31 v32 v33 v34 v35 v36 v37 v38 v39 v40 v41) (HH .fst Ld O) =
        .next (lk q f z u0 u1 u2 u4 u5 u10 u12 r fi fo dn q.last v26 v27 v28' v29' v30 v31 v32 v33 v34 v35 v36 v37 v38 v39' v40' v41) (HH .fst Ld O')
  | 0, _, _, _, _, _, _, _, _, _, h, _, _, _, _ => absurd h (Nat.not_lt_zero _)
  | N + 1, a, O, T, l, o, v28, v29, v39, v40, h, hal, hlo, I, hc => by
    by_cases ha : a < q.last
    · have hp1 := Q.pg_pos (q := q) (a := a) ha
      have hp2 := Q.pg_le (q := q) (a := a)
      obtain ⟨O', T', l', o', w28, w29, w39, w40, I', hc', k⟩ := turnP (d := d) (z := z) (u0 := u0) (u1 := u1) (u2 := u2) (u4 := u4) (u5 := u5) (u10 := u10) (u12 := u12) (v26 := v26) (v27 := v27) (v28 := v28) (v29 := v29) (v30 := v30) (v31 := v31) (v32 := v32) (v33 := v33) (v34 := v34) (v35 := v35) (v36 := v36) (v37 := v37) (v38 := v38) (v39 := v39) (v40 := v40) (v41 := v41) (r := r) (fi := fi) (fo := fo) (dn := dn) K GL I hlo ha
      obtain ⟨O'', T'', l'', o'', x28, x29, x39, x40, I'', hc'', k'⟩ := pages K GL N (a + q.pg a) O' T' l' o' w28 w29 w39 w40 (by omega) (by omega) (by omega) I' hc'
      exact ⟨O'', T'', l'', o'', x28, x29, x39, x40, I'', hc'', wT rfl (nz ha) k k'⟩
    · have : a = q.last := by omega
      subst this
      exact ⟨O, T, l, o, v28, v29, v39, v40, I, hc, w0 rfl (nf (Nat.le_refl _))⟩
theorem Gd.congr {M : Nat → Nat} (G : Gd O T f l o) (h : ∀ i, f ≤ i → i ≤ l → T i = M i) (hb : ∀ i, i ≤ l → M i < 100) (hf : f ≤ l) : Gd O M f l o := by
  have hl := G.lo
  have hh := G.hi
  refine ⟨G.off, hl, hh, G.ue.trans (es_congr fun k h1 h2 => h k (by omega) (by omega)), G.bd, hb, ?_⟩
  rcases G.st with ⟨h1, h2, h3, x, h4, h5⟩ | ⟨h1, h2⟩
  · exact .inl ⟨h1, h2, h3.trans (h f (Nat.le_refl _) hf), x, h4.trans (congrArg (· ++ x) (es_congr fun k k1 k2 => h k (by omega) (by omega))), h5⟩
  · exact .inr ⟨h1.trans (by rw [h f (Nat.le_refl _) hf]), h2⟩
section
variable {P : Prg} {cf : Nat → List MV → MH → RS MV} {lo : Loc} {H H₁ : MH} {ea eb : ME} {y : RS MV}
theorem eOrT (h : evalE P cf ea lo H = .ok (.bool true) H₁) : evalE P cf (.or (.cons ea (.cons eb .nil))) lo H = .ok (.bool true) H₁ := bnd h rfl
theorem eOrF (h : evalE P cf ea lo H = .ok (.bool false) H₁) (k : evalE P cf eb lo H₁ = y) : evalE P cf (.or (.cons ea (.cons eb .nil))) lo H = y := bnd h k
theorem eAndT (h : evalE P cf ea lo H = .ok (.bool true) H₁) (k : evalE P cf eb lo H₁ = y) : evalE P cf (.and (.cons ea (.cons eb .nil))) lo H = y := bnd h k
theorem eAndF (h : evalE P cf ea lo H = .ok (.bool false) H₁) : evalE P cf (.and (.cons ea (.cons eb .nil))) lo H = .ok (.bool false) H₁ := bnd h rfl
end
theorem final {fo : Bool} (K : q.Ok) (I : PI q (fo && decide (q.g < q.low)) O T f l o q.last) (hc : min q.commit q.last ≤ O.com) {fi : Option (Nat × Nat)} (hfi : ∀ w, fi = some w → w = (q.guess, q.pg q.guess) ∧ q.low ≤ q.guess) {u0 u1 u2 u4 u5 u10 u12 v26 v27 v28 v29 v30 v31 v32 v33 v34 v35 v36 v37 v38 v39 v40 v41 : LV} {r : List MV} {dn : Bool} :
    execSs P (callN P (d + 7)) (nthS 37 b55) (lk q f z u0 u1 u2 u4 u5 u10 u12 r (fstV q.M fi) fo dn q.last v26 v27 v28 v29 v30 v31 v32 v33 v34 v35 v36 v37 v38 v39 v40 v41) (HH .fst Ld O) = .ret (.bool true) (HH .fst Ld O) := by
  have hl1 := K.l1
  have hgl := K.gl
  have hl : l = q.last := I.C hgl
  subst hl
  have hfl := I.fa
  have mx : max q.last q.g = q.last := Nat.max_eq_left (Nat.le_of_lt hgl)
  have hTM : ∀ i, f ≤ i → i ≤ q.last → T i = q.M i := fun i h1 h2 => (I.A i h1 (by rw [mx]; exact Nat.lt_succ_of_le h2)).2
  have G := I.G.congr hTM K.mb hfl
  have hcm : O.com = max q.sure q.commit := by
    have h2 := I.c2
    have h3 := I.c3
    have h4 := K.cl
    rw [Nat.min_eq_left h4] at hc
    exact Nat.le_antisymm h2 (Nat.max_le.mpr ⟨h3, hc⟩)
  have k51 : callN P (d + 7) 51 [tl q.mi, .int ((f + 1 : Nat) : Int), .int ((q.last + 1 : Nat) : Int)] (HH .fst Ld O) = .ok (.list (rs q.M (f + 1) (q.last - f))) (HH .fst Ld O) := by
    have := c51 (d := d + 5) (ts := q.mi) (m := f + 1) (n := q.last + 1) (H := HH .fst Ld O) (by omega) (by rw [K.ml]; exact Nat.le_refl _) (by rw [K.ml]; omega) fun j hj => Nat.lt_trans (K.mb j (by rw [K.ml] at hj; omega)) (by decide)
    rw [Nat.add_sub_add_right] at this
    exact this
  have ml : idxO (tl q.mi) (.int (q.last : Int)) = some (.int (q.M q.last)) := tl_get (by rw [K.ml]; exact Nat.lt_succ_self _)
  refine x0 (tC (eComp (iO (eM rfl (mL (p := .snd) (L := O) (O := Ld) rfl) rfl (c45 (d := d) (p := .snd) (O := Ld) G hfl))) (by rw [es_len]; omega) (mapR_es fun j _ _ => bnd (eM rfl rfl rfl (callAt rfl rfl)) rfl)) (eCl rfl k51) (ne_self rs_plain7 rfl)) rfl ?_
  refine x0 (tC (eTup (eCons (eM rfl (mL (p := .snd) (L := O) (O := Ld) rfl) rfl (c31 (d := d + 5) (p := .snd) (O := Ld) G)) (eCons (eM rfl (mL (p := .snd) (L := O) (O := Ld) rfl) rfl (c32 (d := d + 5) (p := .snd) (O := Ld) G)) (eCons (eM rfl (mL (p := .snd) (L := O) (O := Ld) rfl) rfl (c33 (d := d + 3) (p := .snd) (O := Ld) G hfl)) rfl)))) (eTup (eCons rfl (eCons rfl (eCons (eIx rfl rfl ml) rfl)))) (ne_self rfl rfl)) rfl ?_
  refine x0 (tC (eAt rfl (gC (p := .snd) (L := O) (O := Ld))) (eMaxV (k := ((max q.sure q.commit : Nat) : Int)) rfl rfl maxN) rfl) (congrArg not (ez hcm)) ?_
  have pend : (match O.sn with | none => false | some q => !decide ((q.1 : Int) = 0)) = (fo && decide (q.g < q.low)) := by
    have hs := I.sn
    have := K.lo
    cases hb : fo && decide (q.g < q.low) with
    | false => rw [hb] at hs; rw [hs]; rfl
    | true =>
      rw [hb] at hs
      rw [hs]
      exact congrArg not (decide_eq_false (by show ((q.low : Nat) : Int) ≠ 0; omega))
  have k43 : callN P (d + 7) 43 [.obj (lx .snd)] (HH .snd O Ld) = .ok (.bool (fo && decide (q.g < q.low))) (HH .snd O Ld) := pend ▸ c43 (d := d + 5)
  refine x0 (c := false) (tC (w := .bool (fo && decide (q.g < q.low))) (H₂ := HH .fst Ld O) (eM rfl (mL (p := .snd) (L := O) (O := Ld) rfl) rfl k43) ?_ (ne_self rfl rfl)) rfl ?_
  · cases fo with
    | false => exact eAndF rfl
    | true => exact eAndT rfl (eC rfl rfl (congrArg some (decide_eq_decide.mpr Int.ofNat_lt)))
  have hg1 := K.g1
  have hmod : z / 7 % q.last < q.last := Nat.mod_lt _ (Nat.lt_of_le_of_lt (Nat.zero_le _) hgl)
  have hfi' : ∀ w, fi = some w → f ≤ w.1 ∧ w.1 + w.2 ≤ q.last := fun w hw => by
    obtain ⟨rfl, hlg⟩ := hfi w hw
    have hp := Q.pg_le (q := q) (a := q.guess)
    have hgu := K.gul
    have h1 := Nat.le_trans K.bs K.gu
    have hfs := I.fs
    refine ⟨?_, by show q.guess + q.pg q.guess ≤ q.last; omega⟩
    rw [hfs]
    split
    · exact hlg
    · exact h1
  have hsu := Nat.le_trans K.b1 K.bs
  have hfin : ∀ {e : Nat} {l41 : LV}, (e ≠ q.last + 1 ∧ e ≠ q.last + 2 ∧ e < 1000) → l41 = .val (.int e) → execSs P (callN P (d + 7)) (nthS 43 b55) (lk q f z u0 u1 u2 u4 u5 u10 u12 r (fstV q.M fi) fo dn q.last v26 v27 v28 v29 v30 v31 v32 v33 v34 v35 v36 v37 v38 v39 v40 l41) (HH .fst Ld O) = .ret (.bool true) (HH .fst Ld O) := fun {e l41} he hl => by
    subst hl
    exact xR (eCl (eCons rfl (eCons rfl (eCons rfl (eCons rfl (eCons (eIx rfl rfl ml) rfl))))) (c54 (d := d) (p := .snd) (O := Ld) G hfl (by rw [I.fs]; split; exact K.lo; exact K.b1) (Nat.le_trans hsu I.c3) he hfi'))
  refine xA (eB (v := .int ((2 : Nat) : Int)) (w := .int ((z / 7 % q.last : Nat) : Int)) (u := .int ((2 + z / 7 % q.last : Nat) : Int)) rfl (eB (eB (w := .int ((7 : Nat) : Int)) rfl rfl (dv_nat (by decide) (by decide))) rfl (md_nat (Nat.lt_of_le_of_lt (Nat.zero_le _) hgl))) rfl) ?_
  by_cases he : q.last < 2 + z / 7 % q.last
  · exact xI rfl (nz he) (xA rfl rfl) (hfin (e := q.last + 3) ⟨by omega, by omega, by omega⟩ rfl)
  · exact x0 rfl (nf (Nat.le_of_not_lt he)) (hfin (e := 2 + z / 7 % q.last) ⟨by omega, by omega, by omega⟩ rfl)
end Mini.L
namespace Mini.L
open Mini
variable {q : Q} {O Ld : Lg} {d l o oo n m c k t a b z ol f g : Nat} {T : Nat → Nat}
section
variable {P : Prg} {cf : Nat → List MV → MH → RS MV} {lo : Loc} {H : MH}
theorem eVar {i : Nat} {v : MV} (h : (lget lo i).val? = some v) : evalE P cf (.var i) lo H = .ok v H := op h rfl
theorem comp_grp {ts : List Nat} {xi ti gi : Nat} {eb : ME} (hts : ∀ j : Nat, (lget (lo.set xi (.val (.int (j : Int)))) ti).val? = some (tl ts)) (hg : ∀ j : Nat, (lget (lo.set xi (.val (.int (j : Int)))) gi).val? = some (.int (g : Int))) (hg0 : (lget lo gi).val? = some (.int (g : Int))) (hx : ∀ j : Nat, (lget (lo.set xi (.val (.int (j : Int)))) xi).val? = some (.int (j : Int)))
    (hb : evalE P cf eb lo H = .ok (.int ((n + 1 : Nat) : Int)) H) (hl : n < ts.length) (h500 : g ≤ 500 ∧ n ≤ 500) :
    evalE P cf (.compIf (.var xi) xi (.range2 (.bin .add (.var gi) (.int 1)) eb) (.or (.cons (.cmp (.idx (.var ti) (.var xi)) (.one .ne (.idx (.var ti) (.bin .sub (.var xi) (.int 1))))) (.cons (.cmp (.var xi) (.one .eq (.bin .add (.var gi) (.int 1)))) .nil)))) lo H = .ok (.list (((List.range' (g + 1) (n - g)).filter (grp (tf ts) g)).map fun (j : Nat) => MV.int (j : Int))) H := by
  refine eCompIf (vs := (List.range' (g + 1) (n - g)).map fun (j : Nat) => MV.int (j : Int)) ?_ (by rw [List.length_map, List.length_range']; omega) (mapR_some fun j hj => ?_)
  · have := iR2n (P := P) (cf := cf) (a := .bin .add (.var gi) (.int 1)) (l := lo) (H := H) (H₁ := H) (H₂ := H) (m := g + 1) (n := n + 1) (eB (o := .add) (v := .int (g : Int)) (w := .int ((1 : Nat) : Int)) (u := .int ((g + 1 : Nat) : Int)) (eVar hg0) rfl rfl) hb rfl rfl ⟨by omega, by omega⟩
    rw [Nat.add_sub_add_right] at this
    exact this
  · have hj := List.mem_range'_1.mp hj
    have ej : evalE P cf (.var xi) (lo.set xi (.val (.int (j : Int)))) H = .ok (.int (j : Int)) H := eVar (hx j)
    have i1 : evalE P cf (.idx (.var ti) (.var xi)) (lo.set xi (.val (.int (j : Int)))) H = .ok (.int (tf ts j)) H := eIx (eVar (hts j)) ej (tl_get (by omega))
    have i2 : evalE P cf (.idx (.var ti) (.bin .sub (.var xi) (.int 1))) (lo.set xi (.val (.int (j : Int)))) H = .ok (.int (tf ts (j - 1))) H := eIx (eVar (hts j)) (eB (w := .int ((1 : Nat) : Int)) (u := .int ((j - 1 : Nat) : Int)) ej rfl (congrArg (fun x => some (MV.int x)) (by omega : (j : Int) - ((1 : Nat) : Int) = ((j - 1 : Nat) : Int)))) (tl_get (by omega))
    have i3 : evalT P cf (.cmp (.var xi) (.one .eq (.bin .add (.var gi) (.int 1)))) (lo.set xi (.val (.int (j : Int)))) H = .ok (decide ((j : Int) = ((g + 1 : Nat) : Int))) H := tC ej (eB (w := .int ((1 : Nat) : Int)) (u := .int ((g + 1 : Nat) : Int)) (eVar (hg j)) rfl rfl) rfl
    have c1 : evalT P cf (.cmp (.idx (.var ti) (.var xi)) (.one .ne (.idx (.var ti) (.bin .sub (.var xi) (.int 1))))) (lo.set xi (.val (.int (j : Int)))) H = .ok (!decide ((tf ts j : Int) = (tf ts (j - 1) : Int))) H := tC i1 i2 rfl
    have ct : evalT P cf (.or (.cons (.cmp (.idx (.var ti) (.var xi)) (.one .ne (.idx (.var ti) (.bin .sub (.var xi) (.int 1))))) (.cons (.cmp (.var xi) (.one .eq (.bin .add (.var gi) (.int 1)))) .nil))) (lo.set xi (.val (.int (j : Int)))) H = .ok (grp (tf ts) g j) H := by
      unfold grp
      cases hb1 : !decide ((tf ts j : Int) = (tf ts (j - 1) : Int)) with
      | true => exact tO (tsX (c1.trans (congrArg (RS.ok · H) hb1)) rfl)
      | false =>
        cases hb2 : decide ((j : Int) = ((g + 1 : Nat) : Int)) with
        | true => exact tO (tsC (c1.trans (congrArg (RS.ok · H) hb1)) rfl (tsX (i3.trans (congrArg (RS.ok · H) hb2)) rfl))
        | false => exact tO (tsC (c1.trans (congrArg (RS.ok · H) hb1)) rfl (tsC (i3.trans (congrArg (RS.ok · H) hb2)) rfl tsN))
    refine bnd ct ?_
    show (if grp (tf ts) g j = true then _ else _) = _
    cases grp (tf ts) g j with
    | true => exact bnd ej rfl
    | false => rfl
end
theorem mid (K : q.Ok) {fi : Option (Nat × Nat)} {r : List MV} (C : Cn q fi r) {fo dn : Bool} (h1 : dn = !fo) (h2 : fo = (decide ((q.guess : Int) < q.low) || decide ((q.g : Int) < q.low))) {u0 u1 u2 u4 u5 u10 u12 v26 v27 v28 v29 v30 v31 v32 v33 v34 v35 v36 : LV} {H : MH} :
    ∃ v37 v38, ∀ {x : SR}, execSs P (callN P (d + 7)) (nthS 35 b55) (lk q q.base z u0 u1 u2 u4 u5 u10 u12 r (fstV q.M fi) fo dn a v26 v27 v28 v29 v30 v31 v32 v33 v34 v35 v36 v37 v38 .un .un .un) H = x →
      execSs P (callN P (d + 7)) (nthS 30 b55) (lk q q.base z u0 u1 u2 u4 u5 u10 u12 r (fstV q.M fi) fo dn a v26 v27 v28 v29 v30 v31 v32 v33 v34 v35 v36 .un .un .un .un .un) H = x := by
  have hl1 := K.l1
  have he1 := K.e1
  have hgu := K.gul
  have hge := K.ge
  have hgl := K.gl
  have hln : ∀ {T : Nat → Nat} {n : Nat}, lenO (.list (((List.range' (q.g + 1) (n - q.g)).filter (grp T q.g)).map fun (j : Nat) => MV.int (j : Int))) = some (.int (cnt T q.g n : Nat)) := fun {T n} => congrArg (fun k : Nat => some (MV.int k)) (List.length_map _)
  subst h1
  refine ⟨.val (.list (((List.range' (q.g + 1) (q.guess - q.g)).filter (grp q.M q.g)).map fun (j : Nat) => MV.int (j : Int))), .val (.list (((List.range' (q.g + 1) (q.ed - q.g)).filter (grp q.N q.g)).map fun (j : Nat) => MV.int (j : Int))), fun {x} kk => ?_⟩
  refine x0 (c := false) (H₁ := H) ?_ rfl (x0 (c := false) (H₁ := H) (tC (w := .bool fo) rfl ?_ (ne_self rfl rfl)) rfl ?_)
  · cases fo with
    | true => exact tA (tsC rfl rfl (tsX rfl rfl))
    | false => exact tA (tsX rfl rfl)
  · cases hb : decide ((q.guess : Int) < q.low) with
    | true => rw [h2, hb]; exact eOrT (eC rfl rfl (congrArg some hb))
    | false =>
      refine eOrF (eC rfl rfl (congrArg some hb)) ?_
      rw [h2, hb]
      exact eC rfl rfl rfl
  · refine xA (comp_grp (ts := q.mi) (g := q.g) (n := q.guess) (fun _ => rfl) (fun _ => rfl) rfl (fun _ => rfl) rfl (by rw [K.ml]; omega) ⟨by omega, by omega⟩) (xA (comp_grp (ts := q.th) (g := q.g) (n := q.ed) (fun _ => rfl) (fun _ => rfl) rfl (fun _ => rfl) rfl (by rw [K.tl]; omega) ⟨by omega, by omega⟩) ?_)
    refine x0 (tC rfl (eMinV (k := ((min (cnt q.M q.g q.guess) (cnt q.N q.g q.ed + 1) : Nat) : Int)) (eLen rfl hln) (eB (eLen rfl hln) rfl rfl) (minN (i := cnt q.M q.g q.guess) (j := cnt q.N q.g q.ed + 1))) rfl) (nf (Nat.le_min.mpr ⟨C.c1, C.c2⟩)) kk
theorem rest55 {fo : Bool} (K : q.Ok) (GL : Gd Ld q.M q.low q.last ol) {l o : Nat} (I : PI q (fo && decide (q.g < q.low)) O T f l o a) (hc : min q.commit a ≤ O.com) (hal : a ≤ q.last) (hlo : q.low ≤ a) {fi : Option (Nat × Nat)} (hfi : ∀ w, fi = some w → w = (q.guess, q.pg q.guess) ∧ q.low ≤ q.guess) {u0 u1 u2 u4 u5 u10 u12 v26 v27 v28 v29 v30 v31 v32 v33 v34 v35 v36 v37 v38 v39 v40 v41 : LV} {r : List MV} {dn : Bool} :
    ∃ H', execSs P (callN P (d + 7)) (nthS 36 b55) (lk q f z u0 u1 u2 u4 u5 u10 u12 r (fstV q.M fi) fo dn a v26 v27 v28 v29 v30 v31 v32 v33 v34 v35 v36 v37 v38 v39 v40 v41) (HH .fst Ld O) = .ret (.bool true) H' := by
  have hl1 := K.l1
  obtain ⟨O', T', l', o', w28, w29, w39, w40, I', hc', k⟩ := pages (d := d) (z := z) (u0 := u0) (u1 := u1) (u2 := u2) (u4 := u4) (u5 := u5) (u10 := u10) (u12 := u12) (v26 := v26) (v27 := v27) (v30 := v30) (v31 := v31) (v32 := v32) (v33 := v33) (v34 := v34) (v35 := v35) (v36 := v36) (v37 := v37) (v38 := v38) (v41 := v41) (r := r) (fi := fstV q.M fi) (fo := fo) (dn := dn) K GL 100 a O T l o v28 v29 v39 v40 (by omega) hal hlo I hc
  exact ⟨_, xWn k (final K I' hc' hfi)⟩
end Mini.L
namespace Mini.L
open Mini
variable {q : Q} {O Ld : Lg} {d l o oo n m c k t a b z ol f g : Nat} {T : Nat → Nat}
theorem afterTalk (K : q.Ok) (GL : Gd Ld q.M q.low q.last ol) (GO : Gd O q.N q.base q.ed oo) (hc : O.com = q.sure) (hs : O.sn = none) {u0 u1 u2 u4 u5 u10 u12 : LV} {s : SR} (h : TE q z u0 u1 u2 u4 u5 u10 u12 O Ld s) :
    ∃ lo H, s = .next lo H ∧ ∃ H', execSs P (callN P (d + 7)) (nthS 30 b55) lo H = .ret (.bool true) H' := by
  have hbg := Nat.le_trans K.bs K.sg
  have hge := K.ge
  have hl1 := K.l1
  have hlc := K.lc
  have hll := Nat.le_trans K.lk K.kl
  have hsg := K.sg
  cases h with
  | done C I hcm ha hl hn =>
    have h2 : false = (decide ((q.guess : Int) < q.low) || decide ((q.g : Int) < q.low)) := by
      rw [nf (Nat.le_of_not_lt fun e => hn (.inl e)), nf (Nat.le_of_not_lt fun e => hn (.inr e))]; rfl
    obtain ⟨v37, v38, m⟩ := mid (d := d) (fo := false) (dn := true) K C rfl h2
    obtain ⟨H', k⟩ := rest55 (d := d) (fo := false) K GL I hcm ha hl C.some
    exact ⟨_, _, rfl, H', m (x0 rfl rfl k)⟩
  | fold C hn =>
    have h2 : true = (decide ((q.guess : Int) < q.low) || decide ((q.g : Int) < q.low)) := by
      rcases hn with e | e
      · rw [nz e]; rfl
      · rw [nz e, Bool.or_true]
    have hbl : q.base ≤ q.low := by
      rcases hn with e | e
      · exact Nat.le_of_lt (Nat.lt_of_le_of_lt (Nat.le_trans K.bs K.gu) e)
      · exact Nat.le_of_lt (Nat.lt_of_le_of_lt hbg e)
    obtain ⟨v37, v38, m⟩ := mid (d := d) (fo := true) (dn := false) K C rfl h2
    have mlo : idxO (tl q.mi) (.int (q.low : Int)) = some (.int (q.M q.low)) := tl_get (by rw [K.ml]; exact Nat.lt_succ_of_le hll)
    have kmt : callN P (d + 7) 35 [.obj (lx .snd), .int q.low, .int (q.M q.low)] (HH .snd O Ld) = .ok (.bool (decide ((q.low : Int) ≤ q.g))) (HH .snd O Ld) := by
      by_cases hlg : q.low ≤ q.g
      · rw [lz hlg]
        exact (c35 (d := d + 3) (p := .snd) (O := Ld) GO hbl (Nat.le_trans hlg hge)).trans (congrArg (fun b => RS.ok (MV.bool b) _) (decide_eq_true (K.ag _ hlg)))
      · have hlg := Nat.lt_of_not_le hlg
        rw [lf hlg]
        by_cases hle : q.low ≤ q.ed
        · exact (c35 (d := d + 3) (p := .snd) (O := Ld) GO hbl hle).trans (congrArg (fun b => RS.ok (MV.bool b) _) (decide_eq_false fun e => K.un _ _ hlg hll hlg hle e.symm))
        · exact c35x (d := d + 3) (p := .snd) (O := Ld) GO (.inr (Nat.lt_of_not_le hle)) (by omega)
    by_cases hlg : q.low ≤ q.g
    · have e : (true && decide (q.g < q.low)) = false := decide_eq_false (Nat.not_lt.mpr hlg)
      have I : PI q (true && decide (q.g < q.low)) { O with com := max O.com q.low } q.N q.base q.ed oo q.low := by
        rw [e]
        refine pi0 K (GO.com _) ?_ ?_ ?_ hs hbl hlg
        · show q.sure ≤ max O.com q.low
          rw [hc]; exact Nat.le_max_left ..
        · show max O.com q.low ≤ q.g
          rw [hc]; exact Nat.max_le.mpr ⟨hsg, hlg⟩
        · show max O.com q.low ≤ _
          rw [hc]; exact Nat.max_le.mpr ⟨Nat.le_max_left .., Nat.le_trans hlc (Nat.le_max_right ..)⟩
      obtain ⟨H', k⟩ := rest55 (d := d) (z := z) (fo := true) K GL I (Nat.le_trans (Nat.min_le_right ..) (Nat.le_max_right ..)) hll (Nat.le_refl _) C.some
      exact ⟨_, _, rfl, H', m (xI rfl rfl (x0 (tC (eM rfl (mL (p := .snd) (L := O) (O := Ld) rfl) (eCons rfl (eCons (eIx rfl rfl mlo) rfl)) kmt) (eC rfl rfl rfl) (ne_self rfl rfl)) rfl (xI rfl (lz hlg) (xE (eM rfl (mL (p := .snd) (L := O) (O := Ld) rfl) rfl (c41 (d := d + 4) (p := .snd) (O := Ld) GO (Nat.le_trans hlg hge))) rfl) (xA rfl rfl))) k)⟩
    · have hlg := Nat.lt_of_not_le hlg
      have e : (true && decide (q.g < q.low)) = true := decide_eq_true hlg
      have mx : max q.low q.g = q.low := Nat.max_eq_left (Nat.le_of_lt hlg)
      have G2 : Gd { O with com := q.low, off := q.low + 1, ue := [], sn := some (q.low, q.M q.low) } q.M q.low q.low (q.low + 1) :=
        ⟨rfl, Nat.lt_succ_self _, Nat.le_refl _, by rw [Nat.sub_self]; rfl, by omega, fun i hi => K.mb i (Nat.le_trans hi hll), .inr ⟨rfl, rfl⟩⟩
      have I : PI q (true && decide (q.g < q.low)) { O with com := q.low, off := q.low + 1, ue := [], sn := some (q.low, q.M q.low) } q.M q.low q.low (q.low + 1) q.low := by
        rw [e]
        refine ⟨G2, Nat.le_refl _, fun i _ hi => ?_, fun _ hh => ?_, fun _ => rfl, ?_, Nat.le_trans hlc (Nat.le_max_right ..), Nat.le_of_lt (Nat.lt_of_le_of_lt hsg hlg), rfl, rfl⟩
        · rw [mx] at hi
          exact ⟨Nat.le_of_lt_succ hi, rfl⟩
        · rw [mx] at hh
          exact Nat.not_succ_le_self _ hh.1
        · rw [mx]; exact Nat.lt_succ_self _
      obtain ⟨H', k⟩ := rest55 (d := d) (z := z) (fo := true) K GL I (Nat.min_le_right ..) hll (Nat.le_refl _) C.some
      have k40 : callN P (d + 7) 40 [.obj (lx .snd), snapE q.low (q.M q.low)] (HH .snd O Ld) = .ok .none (HH .snd { O with com := q.low, off := q.low + 1, ue := [], sn := some (q.low, q.M q.low) } Ld) := c40 (d := d + 5) GO (hc ▸ Nat.le_of_lt (Nat.lt_of_le_of_lt hsg hlg))
      exact ⟨_, _, rfl, H', m (xI rfl rfl (x0 (tC (eM rfl (mL (p := .snd) (L := O) (O := Ld) rfl) (eCons rfl (eCons (eIx rfl rfl mlo) rfl)) kmt) (eC rfl rfl rfl) (ne_self rfl rfl)) rfl (xL rfl (lf hlg) (xE (eM rfl (mL (p := .snd) (L := O) (O := Ld) rfl) (eCons (eNewR (eCons rfl (eCons (eIx rfl rfl mlo) (eCons rfl (eCons rfl rfl)))) rfl rfl (callAt rfl rfl)) rfl) k40) (xA rfl rfl)) (xA rfl rfl))) k)⟩
end Mini.L
namespace Mini.L
open Mini
variable {q : Q} {O Ld : Lg} {d l o oo n m c k t a b z ol f g : Nat} {T : Nat → Nat} {sh : List Nat}
theorem tf_app_lo {xs ys : List Nat} {i : Nat} (h : i < xs.length) : tf (xs ++ ys) i = tf xs i := by
  unfold tf List.getD; rw [List.getElem?_append_left h]
theorem tf_app_hi {xs ys : List Nat} {i : Nat} (h : xs.length ≤ i) : tf (xs ++ ys) i = tf ys (i - xs.length) := by
  unfold tf List.getD; rw [List.getElem?_append_right h]
structure Tm (sh ts : List Nat) (g l od : Nat) : Prop where
  len : ts.length = l + 1
  lo : ∀ i, i ≤ g → tf ts i = tf sh i
  par : ∀ i, g < i → i ≤ l → tf ts i % 2 = od
  up : ∀ i, g ≤ i → i < l → tf ts i ≤ tf ts (i + 1)
  hi : ∀ i, i ≤ l → tf ts i ≤ tf sh g + 1 + 4 * (l - g) ∨ i ≤ g
theorem tm_of {od : Nat} (hs : sh.length = g + 1) (ho : od < 2) : Tm sh (sh ++ mkT c n (strt (tf sh g) od)) g (g + c) od := by
  obtain ⟨s1, s2, s3⟩ := strt_spec (s := tf sh g) ho
  have lo : ∀ i, i ≤ g → tf (sh ++ mkT c n (strt (tf sh g) od)) i = tf sh i := fun i hi => tf_app_lo (by omega)
  have hi : ∀ i, g < i → i ≤ g + c → tf (sh ++ mkT c n (strt (tf sh g) od)) i = mkF n (strt (tf sh g) od) (i - (g + 1)) := fun i h1 h2 => by
    rw [tf_app_hi (by omega), hs, mkT_tf (by omega)]
  refine ⟨by rw [List.length_append, mkT_len, hs]; omega, lo, fun i h1 h2 => ?_, fun i h1 h2 => ?_, fun i h1 => ?_⟩
  · rw [hi i h1 h2, mkF_par, s1]
  · by_cases h : i = g
    · rw [h, lo g (Nat.le_refl _), hi (g + 1) (by omega) (by omega), Nat.sub_self]
      exact Nat.le_trans s2 mkF_lo
    · rw [hi i (by omega) (by omega), hi (i + 1) (by omega) (by omega), show i + 1 - (g + 1) = i - (g + 1) + 1 by omega]
      exact mkF_up
  · by_cases h : i ≤ g
    · exact .inr h
    · refine .inl ?_
      rw [hi i (by omega) h1]
      have := mkF_hi (i := i - (g + 1)) (n := n) (t := strt (tf sh g) od)
      omega
theorem mono_of {l : Nat} (h : ∀ i, i < l → T i ≤ T (i + 1)) : ∀ i j, i ≤ j → j ≤ l → T i ≤ T j := fun i j hij hj => by
  obtain ⟨k, rfl⟩ := Nat.le.dest hij
  clear hij
  induction k with
  | zero => exact Nat.le_refl _
  | succ k ih => exact Nat.le_trans (ih (by omega)) (h (i + k) (by omega))
noncomputable def shO (x g : Nat) : List Nat := if g = 1 then [0, 1] else if g = 2 then [0, 1, 1 + x / 3 / 2 % 3] else [0, 1, 1 + x / 3 / 2 % 3, 1 + x / 3 / 2 % 3 + x / 3 / 3 % 3]
structure Shd (sh : List Nat) (g : Nat) : Prop where
  len : sh.length = g + 1
  one : tf sh 1 = 1
  up : ∀ i, i < g → tf sh i ≤ tf sh (i + 1)
  hi : ∀ i, i ≤ g → tf sh i ≤ 5
theorem shd {x : Nat} (h1 : 1 ≤ g) (h2 : g ≤ 3) : Shd (shO x g) g := by
  unfold shO
  rcases (by omega : g = 1 ∨ g = 2 ∨ g = 3) with rfl | rfl | rfl
  · exact ⟨rfl, rfl, fun i hi => match i, hi with | 0, _ => Nat.zero_le _, fun i hi => match i, hi with | 0, _ => Nat.zero_le _ | 1, _ => (by decide : 1 ≤ 5)⟩
  · refine ⟨rfl, rfl, fun i hi => match i, hi with | 0, _ => Nat.zero_le _ | 1, _ => ?_, fun i hi => match i, hi with | 0, _ => Nat.zero_le _ | 1, _ => (by decide : 1 ≤ 5) | 2, _ => ?_⟩
    · show 1 ≤ 1 + x / 3 / 2 % 3; omega
    · show 1 + x / 3 / 2 % 3 ≤ 5; omega
  · refine ⟨rfl, rfl, fun i hi => match i, hi with | 0, _ => Nat.zero_le _ | 1, _ => ?_ | 2, _ => ?_, fun i hi => match i, hi with | 0, _ => Nat.zero_le _ | 1, _ => (by decide : 1 ≤ 5) | 2, _ => ?_ | 3, _ => ?_⟩
    · show 1 ≤ 1 + x / 3 / 2 % 3; omega
    · show 1 + x / 3 / 2 % 3 ≤ 1 + x / 3 / 2 % 3 + x / 3 / 3 % 3; omega
    · show 1 + x / 3 / 2 % 3 ≤ 5; omega
    · show 1 + x / 3 / 2 % 3 + x / 3 / 3 % 3 ≤ 5; omega
theorem Tm.all {ts : List Nat} {od : Nat} (S : Shd sh g) (R : Tm sh ts g l od) (hgl : g ≤ l) (h8 : l - g ≤ 8) : (∀ i j, i ≤ j → j ≤ l → tf ts i ≤ tf ts j) ∧ ∀ i, i ≤ l → tf ts i < 100 := by
  refine ⟨mono_of fun i hi => ?_, fun i hi => ?_⟩
  · by_cases h : i < g
    · rw [R.lo i (Nat.le_of_lt h), R.lo (i + 1) h]; exact S.up i h
    · exact R.up i (Nat.le_of_not_lt h) hi
  · rcases R.hi i hi with h | h
    · have := S.hi g (Nat.le_refl _)
      omega
    · rw [R.lo i h]
      have := S.hi i h
      omega
theorem q_ok {mi th : List Nat} {ls ed low kept sure base ko guess commit limit : Nat} (h1 : 1 ≤ g) (h3 : g ≤ 3) (S : Shd sh g) (RM : Tm sh mi g ls 1) (RT : Tm sh th g ed 0) (hgl : g < ls) (hge : g ≤ ed) (hl : ls ≤ g + 4) (he : ed ≤ g + 4)
    (lo : 1 ≤ low) (lk : low ≤ kept) (kl : kept ≤ ls) (b1 : 1 ≤ base) (bs : base ≤ sure) (sg : sure ≤ g) (bk : base ≤ ko) (ke : ko ≤ ed) (gu : sure ≤ guess) (gul : guess ≤ ls) (lc : low ≤ commit) (cl : commit ≤ ls) :
    Q.Ok ⟨g, ls, ed, low, kept, sure, base, ko, guess, commit, limit, mi, th⟩ := by
  obtain ⟨m1, m2⟩ := RM.all S (Nat.le_of_lt hgl) (by omega)
  obtain ⟨t1, t2⟩ := RT.all S hge (by omega)
  exact ⟨h1, hgl, by show ls < 50; omega, hge, by show ed < 50; omega, RM.len, RT.len, fun i hi => (RT.lo i hi).trans (RM.lo i hi).symm, fun i j a1 a2 a3 a4 e => by
    have p1 := RM.par i a1 a2
    have p2 := RT.par j a3 a4
    have e : tf mi i = tf th j := e
    omega, m1, t1, m2, t2, (RM.lo 1 h1).trans S.one, lo, lk, kl, b1, bs, sg, bk, ke, gu, gul, lc, cl⟩
end Mini.L
namespace Mini.L
open Mini
variable {d l n m c k t a b g x : Nat} {H : MH}
theorem ad_nat : binop .add (.int (a : Int)) (.int (b : Int)) = some (.int ((a + b : Nat) : Int)) := rfl
theorem sb_nat (h : b ≤ a) : binop .sub (.int (a : Int)) (.int (b : Int)) = some (.int ((a - b : Nat) : Int)) := congrArg (fun x => some (MV.int x)) (Int.ofNat_sub h).symm
section
variable {P : Prg} {cf : Nat → List MV → MH → RS MV} {lo : Loc}
theorem mapR_mod {i : Nat} (hi : ∀ v, (lget (lo.set i (.val v)) i).val? = some v) : ∀ (l : List Int), mapR (fun v H => (evalE P cf (.bin .mod (.var i) (.int 999983)) (lo.set i (.val v)) H).bind fun w H => .ok (some w) H) (l.map MV.int) H = .ok ((l.map fun x => (x % 999983).toNat).map fun (n : Nat) => MV.int (n : Int)) H
  | [] => rfl
  | y :: r => by
    have hm : binop .mod (.int y) (.int ((999983 : Nat) : Int)) = some (.int (((y % 999983).toNat : Nat) : Int)) := by
      show (guardO (decide (((999983 : Nat) : Int) ≠ 0)) (MV.int (y.fmod ((999983 : Nat) : Int))) : Option MV) = _
      rw [decide_eq_true (by omega), Int.fmod_eq_emod_of_nonneg _ (by omega), Int.toNat_of_nonneg (Int.emod_nonneg _ (by omega))]; rfl
    have e : (evalE P cf (.bin .mod (.var i) (.int 999983)) (lo.set i (.val (.int y))) H).bind (fun w H => RS.ok (some w) H) = .ok (some (MV.int (((y % 999983).toNat : Nat) : Int))) H := bnd (eB (eVar (hi _)) rfl hm) rfl
    show (match (evalE P cf (.bin .mod (.var i) (.int 999983)) (lo.set i (.val (.int y))) H).bind (fun w H => RS.ok (some w) H) with | .ok (some w) H₁ => (mapR _ _ H₁).bind fun ws H₂ => .ok (w :: ws) H₂ | .ok Option.none H₁ => mapR _ _ H₁ | _ => .bad) = _
    rw [e]
    show (mapR _ (r.map MV.int) H).bind _ = _
    rw [mapR_mod hi r]; rfl
end
noncomputable def il (ts : List Nat) : List MV := ts.map fun (t : Nat) => MV.int (t : Int)
noncomputable def bd5' : MSs := match nthS 5 b55 with | .cons (.forr _ _ b) _ => b | _ => .nil
theorem loopS {cf : Nat → List MV → MH → RS MV} {u0 u1 u3 u5 : LV} {tl' : Loc} (h1 : 1 ≤ g) (h3 : g ≤ 3) : ∃ y, forM 5 (execSs P cf bd5') ((List.range' 2 (g + 1 - 2)).map fun (j : Nat) => MV.int (j : Int)) (u0 :: u1 :: .val (.int x) :: u3 :: .acc [.int ((0 : Nat) : Int), .int ((1 : Nat) : Int)] :: u5 :: tl') H = .next (u0 :: u1 :: .val (.int x) :: u3 :: .acc (il (shO x g)) :: y :: tl') H := by
  have st : ∀ {xs : List MV} {s j : Nat} {y : LV}, xs.getLast? = some (.int s) → xs.length < 900 → 0 < j → j < 1000 → execSs P cf bd5' ((u0 :: u1 :: .val (.int x) :: u3 :: .acc xs :: y :: tl').set 5 (.val (.int j))) H = .next (u0 :: u1 :: .val (.int x) :: u3 :: .acc (xs ++ [.int ((s + x / 3 / j % 3 : Nat) : Int)]) :: .val (.int j) :: tl') H := fun {xs s j y} hs hl h0 hj =>
    xP rfl (eB (show evalE P cf (.accLast 4) _ H = .ok (.int (s : Int)) H from op (c := xs) rfl (op hs rfl)) (eB (eB (eB rfl rfl (dv_nat (by decide) (by decide))) rfl (dv_nat h0 (by omega))) rfl (md_nat (by decide))) ad_nat) (by omega) rfl
  rcases (by omega : g = 1 ∨ g = 2 ∨ g = 3) with rfl | rfl | rfl
  · exact ⟨_, rfl⟩
  · exact ⟨_, fN (st rfl (by show 2 < 900; decide) (by decide) (by decide)) rfl⟩
  · exact ⟨_, fN (st rfl (by show 2 < 900; decide) (by decide) (by decide)) (fN (st rfl (by show 3 < 900; decide) (by decide) (by decide)) rfl)⟩
end Mini.L
namespace Mini.L
open Mini
structure D where
  x : Nat
  t1 : Nat
  k1 : Nat
  t2 : Nat
  k2 : Nat
  y : Nat
  z : Nat
  w : Nat
noncomputable def D.g (D : D) : Nat := 1 + D.x % 3
noncomputable def D.sh (D : D) : List Nat := shO D.x D.g
noncomputable def D.mi (D : D) : List Nat := D.sh ++ mkT (1 + D.k1 % 4) D.t1 (strt (tf D.sh D.g) 1)
noncomputable def D.th (D : D) : List Nat := D.sh ++ mkT (D.k2 % 5) D.t2 (strt (tf D.sh D.g) 0)
noncomputable def D.ls (D : D) : Nat := D.g + (1 + D.k1 % 4)
noncomputable def D.ed (D : D) : Nat := D.g + D.k2 % 5
noncomputable def D.low (D : D) : Nat := if D.y / 8 % 3 = 0 then 1 + D.y / 24 % D.ls else 1
noncomputable def D.kept (D : D) : Nat := D.low + D.y / 192 % (D.ls - D.low + 1)
noncomputable def D.sure (D : D) : Nat := 1 + D.z % D.g
noncomputable def D.base (D : D) : Nat := 1 + D.z / 4 % D.sure
noncomputable def D.guess (D : D) : Nat := D.sure + D.y % (D.ls - D.sure + 1)
noncomputable def D.ko (D : D) : Nat := D.base + D.z / 16 % (D.ed - D.base + 1)
noncomputable def D.commit (D : D) : Nat := D.low + D.z / 128 % (D.ls - D.low + 1)
noncomputable def D.limit (D : D) : Nat := 9 + D.w % 20
noncomputable def D.q (D : D) : Q := ⟨D.g, D.ls, D.ed, D.low, D.kept, D.sure, D.base, D.ko, D.guess, D.commit, D.limit, D.mi, D.th⟩
theorem add_mod_le {a b c : Nat} (h : a ≤ b) : a + c % (b - a + 1) ≤ b := by
  have : c % (b - a + 1) < b - a + 1 := Nat.mod_lt c (Nat.succ_pos (b - a))
  omega
theorem one_mod_le {b c : Nat} (h : 0 < b) : 1 + c % b ≤ b := by have := Nat.mod_lt c h; omega
section
variable (v : D)
theorem D.g1 : 1 ≤ v.g := Nat.le_add_right ..
theorem D.g3 : v.g ≤ 3 := one_mod_le (b := 3) (by decide)
theorem D.gl : v.g < v.ls := Nat.lt_add_of_pos_right (Nat.lt_of_lt_of_le Nat.zero_lt_one (Nat.le_add_right ..))
theorem D.ls0 : 0 < v.ls := Nat.lt_of_le_of_lt (Nat.zero_le _) v.gl
theorem D.low1 : 1 ≤ v.low := by
  show 1 ≤ if v.y / 8 % 3 = 0 then 1 + v.y / 24 % v.ls else 1
  split
  · exact Nat.le_add_right ..
  · exact Nat.le_refl 1
theorem D.lowl : v.low ≤ v.ls := by
  show (if v.y / 8 % 3 = 0 then 1 + v.y / 24 % v.ls else 1) ≤ v.ls
  split
  · exact one_mod_le v.ls0
  · exact v.ls0
theorem D.sg : v.sure ≤ v.g := one_mod_le v.g1
theorem D.s1 : 1 ≤ v.sure := Nat.le_add_right ..
theorem D.sl : v.sure ≤ v.ls := Nat.le_trans v.sg (Nat.le_of_lt v.gl)
theorem D.bs : v.base ≤ v.sure := one_mod_le v.s1
theorem D.b1 : 1 ≤ v.base := Nat.le_add_right ..
theorem D.be : v.base ≤ v.ed := Nat.le_trans v.bs (Nat.le_trans v.sg (Nat.le_add_right ..))
theorem D.shd : Shd v.sh v.g := L.shd v.g1 v.g3
theorem D.l4 : v.ls ≤ v.g + 4 := Nat.add_le_add_left (one_mod_le (b := 4) (by decide)) _
theorem D.e4 : v.ed ≤ v.g + 4 := Nat.add_le_add_left (Nat.le_of_lt_succ (Nat.mod_lt _ (by decide))) _
theorem D.ok : v.q.Ok :=
  q_ok v.g1 v.g3 v.shd (tm_of v.shd.len (by decide)) (tm_of v.shd.len (by decide)) v.gl (Nat.le_add_right ..) v.l4 v.e4
    v.low1 (Nat.le_add_right ..) (add_mod_le v.lowl) v.b1 v.bs v.sg (Nat.le_add_right ..) (add_mod_le v.be) (Nat.le_add_right ..) (add_mod_le v.sl) (Nat.le_add_right ..) (add_mod_le v.lowl)
end
noncomputable def dOf (nm : List Nat) : D := ⟨drw nm 0, drw nm 1, drw nm 2, drw nm 3, drw nm 4, drw nm 5, drw nm 6, drw nm 7⟩
theorem c48' {d i : Nat} {nm : List Nat} {H : MH} (h0 : 0 < nm.length) (h1 : nm.length < 1000) {lo : Loc} (h : (lget lo 1).val? = some (tl nm)) : evalE P (callN P (d + 1)) (.call 48 (.cons (.var 1) (.cons (.int i) .nil))) lo H = .ok (.int (drw nm i)) H :=
  eCl (eCons (eVar h) (eCons rfl rfl)) (c48 h0 h1)
theorem sn_lgL {T : Nat → Nat} {b k l : Nat} : (lgL T b k l).sn = none := by unfold lgL; split <;> rfl
theorem xlow {v : D} {H : MH} {rr : MSs} {x : SR} {lo : Loc} (h10 : (lget (lo.set 11 (.val (.int ((1 : Nat) : Int)))) 10).val? = some (.int v.y)) (h8 : (lget (lo.set 11 (.val (.int ((1 : Nat) : Int)))) 8).val? = some (.int v.ls)) (k : execSs P (callN P 11) rr (lo.set 11 (.val (.int v.low))) H = x) :
    execSs P (callN P 11) (.cons (.ife (.cmp (.bin .mod (.bin .fdiv (.var 10) (.int 8)) (.int 3)) (.one .eq (.int 0))) (.cons (.assign 11 (.bin .add (.int 1) (.bin .mod (.bin .fdiv (.var 10) (.int 24)) (.var 8)))) .nil) .nil) rr) (lo.set 11 (.val (.int ((1 : Nat) : Int)))) H = x := by
  have ht : evalT P (callN P 11) (.cmp (.bin .mod (.bin .fdiv (.var 10) (.int 8)) (.int 3)) (.one .eq (.int 0))) (lo.set 11 (.val (.int ((1 : Nat) : Int)))) H = .ok (decide (((v.y / 8 % 3 : Nat) : Int) = ((0 : Nat) : Int))) H := tC (eB (eB (eVar h10) rfl (dv_nat (b := 8) (by decide) (by decide))) rfl (md_nat (b := 3) (by decide))) rfl rfl
  by_cases h : v.y / 8 % 3 = 0
  · have e : v.low = 1 + v.y / 24 % v.ls := if_pos h
    rw [e] at k
    refine xI ht (ez h) (xA (eB rfl (eB (eB (eVar h10) rfl (dv_nat (b := 24) (by decide) (by decide))) (eVar h8) (md_nat v.ls0)) ad_nat) rfl) ?_
    rw [List.set_set]; exact k
  · have e : v.low = 1 := if_neg h
    rw [e] at k
    exact x0 ht (ef h) k
noncomputable def lq (s0 s1 s2 s3 s4 s5 s6 s7 s8 s9 s10 s11 s12 s13 s14 s15 s16 s17 s18 s19 s20 : LV) : Loc := [s0, s1, s2, s3, s4, s5, s6, s7, s8, s9, s10, s11, s12, s13, s14, s15, s16, s17, s18, s19, s20, .un, .un, .un, .un, .un, .un, .un, .un, .un, .un, .un, .un, .un, .un, .un, .un, .un, .un, .un, .un, .un, .un, .un, .un, .un, .un, .un, .un]
theorem law1b (nm : List Nat) (h0 : 0 < nm.length) (h1 : nm.length < 1000) (v0 y5 : LV) {v : D} (e7 : drw nm 7 = v.w) : ∃ H', execSs P (callN P 11) (nthS 19 b55) (lq v0 (.val (tl nm)) (.val (.int v.x)) (.val (.int v.g)) (.val (tl v.sh)) y5 (.val (tl v.mi)) (.val (tl v.th)) (.val (.int v.ls)) (.val (.int v.ed)) (.val (.int v.y)) (.val (.int v.low)) (.val (.int v.kept)) (.val (.int v.z)) (.val (.int v.sure)) (.val (.int v.base)) (.val (.int v.guess)) .un .un .un .un) [] = .ret (.bool true) H' := by
  have K := v.ok
  have g3 := v.g3
  have l4 := v.l4
  have ee4 := v.e4
  have hls : v.ls < 100 := by omega
  have hed : v.ed < 100 := by omega
  obtain ⟨GL, _⟩ := gdL (T := tf v.mi) (base := v.low) (kept := v.kept) (l := v.ls) K.lo K.lk K.kl hls fun i hi => K.mb i hi
  obtain ⟨GO, hcO⟩ := gdL (T := tf v.th) (base := v.base) (kept := v.ko) (l := v.ed) K.b1 K.bk K.ke hed fun i hi => K.tb i hi
  have kA : callN P 11 52 [tl v.mi, .int v.low, .int v.kept] [] = .ok (.obj 1) (HH .one (lgL (tf v.mi) v.low v.kept v.ls) (lgL (tf v.mi) v.low v.kept v.ls)) := c52 (d := 6) (p := .one) (O := lgL (tf v.mi) v.low v.kept v.ls) (fun e => nomatch e) K.ml hls (fun j hj => K.mb j (by rw [K.ml] at hj; exact Nat.le_of_lt_succ hj)) K.m1 K.lo K.lk K.kl
  have kB : callN P 11 52 [tl v.th, .int v.base, .int v.ko] (HH .one (lgL (tf v.mi) v.low v.kept v.ls) (lgL (tf v.mi) v.low v.kept v.ls)) = .ok (.obj 4) (HH .snd (lgL (tf v.th) v.base v.ko v.ed) (lgL (tf v.mi) v.low v.kept v.ls)) := c52 (d := 6) (p := .snd) (O := lgL (tf v.mi) v.low v.kept v.ls) (fun e => nomatch e) K.tl hed (fun j hj => K.tb j (by rw [K.tl] at hj; exact Nat.le_of_lt_succ hj)) ((K.ag 1 v.g1).trans K.m1) K.b1 K.bk K.ke
  have kC := c41 (d := 8) (p := .snd) (O := lgL (tf v.mi) v.low v.kept v.ls) GO (i := v.sure) (Nat.le_trans v.sg K.ge)
  have hcom : ({ lgL (tf v.th) v.base v.ko v.ed with com := max (lgL (tf v.th) v.base v.ko v.ed).com v.sure } : Lg).com = v.q.sure := by
    show max (lgL (tf v.th) v.base v.ko v.ed).com v.sure = v.sure
    rw [hcO]; exact Nat.max_eq_right v.bs
  have GC := GO.com (max (lgL (tf v.th) v.base v.ko v.ed).com v.sure)
  have I : TI v.q none [] v.guess 12 := ⟨by have : v.guess ≤ v.ls := K.gul; show v.guess < v.g + 12; omega, by decide, Nat.le_add_right .., Nat.le_refl _, .inl rfl, fun _ => rfl, (fun _ e => nomatch e), Nat.zero_le _, fun _ => by show 0 + _ ≤ _; rw [Nat.zero_add]; exact Nat.le_refl _, Nat.zero_le _, .inl rfl, by decide⟩
  have E := talk (d := 4) (z := v.z) (u0 := v0) (u1 := .val (tl nm)) (u2 := .val (.int v.x)) (u4 := .val (tl v.sh)) (u5 := y5) (u10 := .val (.int v.y)) (u12 := .val (.int v.kept)) K GL GC hcom sn_lgL 12 0 v.guess none [] .un .un .un .un .un .un .un .un .un .un .un I
  obtain ⟨lo, H, e, H', k⟩ := afterTalk (d := 4) K GL GC hcom sn_lgL E
  have eko : evalE P (callN P 11) (.bin .add (.var 15) (.bin .mod (.bin .fdiv (.var 13) (.int 16)) (.bin .add (.bin .sub (.var 9) (.var 15)) (.int 1)))) (lq v0 (.val (tl nm)) (.val (.int v.x)) (.val (.int v.g)) (.val (tl v.sh)) y5 (.val (tl v.mi)) (.val (tl v.th)) (.val (.int v.ls)) (.val (.int v.ed)) (.val (.int v.y)) (.val (.int v.low)) (.val (.int v.kept)) (.val (.int v.z)) (.val (.int v.sure)) (.val (.int v.base)) (.val (.int v.guess)) (.val (.obj 1)) .un .un .un) (HH .one (lgL (tf v.mi) v.low v.kept v.ls) (lgL (tf v.mi) v.low v.kept v.ls)) = .ok (.int v.ko) (HH .one (lgL (tf v.mi) v.low v.kept v.ls) (lgL (tf v.mi) v.low v.kept v.ls)) :=
    eB rfl (eB (eB rfl rfl (dv_nat (b := 16) (by decide) (by decide))) (eB (eB rfl rfl (sb_nat v.be)) rfl ad_nat) (md_nat (Nat.succ_pos _))) ad_nat
  refine ⟨H', xA (eCl rfl kA) ?_⟩
  refine xA (l := lq v0 (.val (tl nm)) (.val (.int v.x)) (.val (.int v.g)) (.val (tl v.sh)) y5 (.val (tl v.mi)) (.val (tl v.th)) (.val (.int v.ls)) (.val (.int v.ed)) (.val (.int v.y)) (.val (.int v.low)) (.val (.int v.kept)) (.val (.int v.z)) (.val (.int v.sure)) (.val (.int v.base)) (.val (.int v.guess)) (.val (.obj 1)) .un .un .un) (eCl (eCons rfl (eCons rfl (eCons eko rfl))) kB) ?_
  refine xE (l := lq v0 (.val (tl nm)) (.val (.int v.x)) (.val (.int v.g)) (.val (tl v.sh)) y5 (.val (tl v.mi)) (.val (tl v.th)) (.val (.int v.ls)) (.val (.int v.ed)) (.val (.int v.y)) (.val (.int v.low)) (.val (.int v.kept)) (.val (.int v.z)) (.val (.int v.sure)) (.val (.int v.base)) (.val (.int v.guess)) (.val (.obj 1)) (.val (.obj 4)) .un .un) (eM rfl (mL (p := .snd) (L := lgL (tf v.th) v.base v.ko v.ed) (O := lgL (tf v.mi) v.low v.kept v.ls) rfl) rfl kC) ?_
  refine xA (v := .int v.commit) (eB rfl (eB (eB rfl rfl (dv_nat (b := 128) (by decide) (by decide))) (eB (eB rfl rfl (sb_nat v.lowl)) rfl ad_nat) (md_nat (Nat.succ_pos _))) ad_nat) ?_
  refine xA (l := lq v0 (.val (tl nm)) (.val (.int v.x)) (.val (.int v.g)) (.val (tl v.sh)) y5 (.val (tl v.mi)) (.val (tl v.th)) (.val (.int v.ls)) (.val (.int v.ed)) (.val (.int v.y)) (.val (.int v.low)) (.val (.int v.kept)) (.val (.int v.z)) (.val (.int v.sure)) (.val (.int v.base)) (.val (.int v.guess)) (.val (.obj 1)) (.val (.obj 4)) (.val (.int v.commit)) .un) (v := .int v.limit) (eB rfl (eB (e7 ▸ c48' h0 h1 rfl) rfl (md_nat (by decide))) ad_nat) ?_
  refine xN (l := lq v0 (.val (tl nm)) (.val (.int v.x)) (.val (.int v.g)) (.val (tl v.sh)) y5 (.val (tl v.mi)) (.val (tl v.th)) (.val (.int v.ls)) (.val (.int v.ed)) (.val (.int v.y)) (.val (.int v.low)) (.val (.int v.kept)) (.val (.int v.z)) (.val (.int v.sure)) (.val (.int v.base)) (.val (.int v.guess)) (.val (.obj 1)) (.val (.obj 4)) (.val (.int v.commit)) (.val (.int v.limit))) rfl ?_
  have fin : execSs P (callN P 11) (nthS 29 b55) (lk v.q v.base v.z v0 (.val (tl nm)) (.val (.int v.x)) (.val (tl v.sh)) y5 (.val (.int v.y)) (.val (.int v.kept)) [] (fstV v.q.M none) false false v.guess .un .un .un .un .un .un .un .un .un .un .un .un .un .un .un .un) (HH .fst (lgL (tf v.mi) v.low v.kept v.ls) { lgL (tf v.th) v.base v.ko v.ed with com := max (lgL (tf v.th) v.base v.ko v.ed).com v.sure }) = .ret (.bool true) H' := xFn (iR1n (n := 12) rfl (by decide)) e k
  exact xA rfl (xA rfl (xA rfl (xA rfl fin)))
end Mini.L
namespace Mini.L
open Mini
theorem law1 (nm : List Nat) (h0 : 0 < nm.length) (h1 : nm.length < 1000) (v0 : LV) : ∃ H', execSs P (callN P 11) (nthS 2 b55) (lq v0 (.val (tl nm)) .un .un .un .un .un .un .un .un .un .un .un .un .un .un .un .un .un .un .un) [] = .ret (.bool true) H' := by
  generalize hD : dOf nm = v
  have e0 : drw nm 0 = v.x := hD ▸ rfl
  have e1 : drw nm 1 = v.t1 := hD ▸ rfl
  have e2 : drw nm 2 = v.k1 := hD ▸ rfl
  have e3 : drw nm 3 = v.t2 := hD ▸ rfl
  have e4 : drw nm 4 = v.k2 := hD ▸ rfl
  have e5 : drw nm 5 = v.y := hD ▸ rfl
  have e6 : drw nm 6 = v.z := hD ▸ rfl
  have e7 : drw nm 7 = v.w := hD ▸ rfl
  have K := v.ok
  have ml : lenO (tl v.mi) = some (.int ((v.ls + 1 : Nat) : Int)) := tl_len.trans (congrArg (fun k : Nat => some (MV.int k)) K.ml)
  have tl' : lenO (tl v.th) = some (.int ((v.ed + 1 : Nat) : Int)) := tl_len.trans (congrArg (fun k : Nat => some (MV.int k)) K.tl)
  have g3 := v.g3
  have dr : ∀ {i : Nat} {lo : Loc}, (lget lo 1).val? = some (tl nm) → evalE P (callN P 11) (.call 48 (.cons (.var 1) (.cons (.int i) .nil))) lo [] = .ok (.int (drw nm i)) [] := fun h => c48' h0 h1 h
  obtain ⟨y5, k5⟩ := loopS (H := []) (cf := callN P 11) (x := v.x) (g := v.g) (u0 := v0) (u1 := .val (tl nm)) (u3 := .val (.int v.g)) (u5 := .un) (tl' := [.un, .un, .un, .un, .un, .un, .un, .un, .un, .un, .un, .un, .un, .un, .un, .un, .un, .un, .un, .un, .un, .un, .un, .un, .un, .un, .un, .un, .un, .un, .un, .un, .un, .un, .un, .un, .un, .un, .un, .un, .un, .un, .un]) v.g1 g3
  have k49 : ∀ {n c od : Nat}, c < 800 → callN P 11 49 [tl v.sh, .int n, .int c, .int od] [] = .ok (tl (v.sh ++ mkT c n (strt (tf v.sh v.g) od))) [] := fun hc => c49 v.shd.len (by omega)
  obtain ⟨H', k⟩ := law1b nm h0 h1 v0 y5 (v := v) e7
  refine ⟨H', xA (v := .int v.x) (e0 ▸ dr rfl) ?_⟩
  refine xA (l := lq v0 (.val (tl nm)) (.val (.int v.x)) .un .un .un .un .un .un .un .un .un .un .un .un .un .un .un .un .un .un) (v := .int v.g) (eB rfl (eB rfl rfl (md_nat (by decide))) ad_nat) (xN (l := lq v0 (.val (tl nm)) (.val (.int v.x)) (.val (.int v.g)) .un .un .un .un .un .un .un .un .un .un .un .un .un .un .un .un .un) rfl ?_)
  refine xFn (iR2n (m := 2) (n := v.g + 1) rfl rfl rfl rfl ⟨by decide, by omega⟩) k5 (xZ rfl ?_)
  refine xA (l := lq v0 (.val (tl nm)) (.val (.int v.x)) (.val (.int v.g)) (.val (tl v.sh)) y5 .un .un .un .un .un .un .un .un .un .un .un .un .un .un .un) (v := tl v.mi) (eCl (eCons rfl (eCons (e1 ▸ dr rfl) (eCons (eB rfl (eB (e2 ▸ dr rfl) rfl (md_nat (by decide))) ad_nat) (eCons rfl rfl)))) (k49 (by omega))) ?_
  refine xA (l := lq v0 (.val (tl nm)) (.val (.int v.x)) (.val (.int v.g)) (.val (tl v.sh)) y5 (.val (tl v.mi)) .un .un .un .un .un .un .un .un .un .un .un .un .un .un) (v := tl v.th) (eCl (eCons rfl (eCons (e3 ▸ dr rfl) (eCons (eB (e4 ▸ dr rfl) rfl (md_nat (by decide))) (eCons rfl rfl)))) (k49 (by omega))) ?_
  refine xA (l := lq v0 (.val (tl nm)) (.val (.int v.x)) (.val (.int v.g)) (.val (tl v.sh)) y5 (.val (tl v.mi)) (.val (tl v.th)) .un .un .un .un .un .un .un .un .un .un .un .un .un) (v := .int v.ls) (eB (eLen rfl ml) rfl (sb_nat (b := 1) (Nat.succ_le_succ (Nat.zero_le _)))) ?_
  refine xA (l := lq v0 (.val (tl nm)) (.val (.int v.x)) (.val (.int v.g)) (.val (tl v.sh)) y5 (.val (tl v.mi)) (.val (tl v.th)) (.val (.int v.ls)) .un .un .un .un .un .un .un .un .un .un .un .un) (v := .int v.ed) (eB (eLen rfl tl') rfl (sb_nat (b := 1) (Nat.succ_le_succ (Nat.zero_le _)))) ?_
  refine xA (l := lq v0 (.val (tl nm)) (.val (.int v.x)) (.val (.int v.g)) (.val (tl v.sh)) y5 (.val (tl v.mi)) (.val (tl v.th)) (.val (.int v.ls)) (.val (.int v.ed)) .un .un .un .un .un .un .un .un .un .un .un) (v := .int v.y) (e5 ▸ dr rfl) ?_
  refine xA (l := lq v0 (.val (tl nm)) (.val (.int v.x)) (.val (.int v.g)) (.val (tl v.sh)) y5 (.val (tl v.mi)) (.val (tl v.th)) (.val (.int v.ls)) (.val (.int v.ed)) (.val (.int v.y)) .un .un .un .un .un .un .un .un .un .un) rfl ?_
  refine xlow (v := v) (lo := lq v0 (.val (tl nm)) (.val (.int v.x)) (.val (.int v.g)) (.val (tl v.sh)) y5 (.val (tl v.mi)) (.val (tl v.th)) (.val (.int v.ls)) (.val (.int v.ed)) (.val (.int v.y)) .un .un .un .un .un .un .un .un .un .un) rfl rfl ?_
  refine xA (l := lq v0 (.val (tl nm)) (.val (.int v.x)) (.val (.int v.g)) (.val (tl v.sh)) y5 (.val (tl v.mi)) (.val (tl v.th)) (.val (.int v.ls)) (.val (.int v.ed)) (.val (.int v.y)) (.val (.int v.low)) .un .un .un .un .un .un .un .un .un) (v := .int v.kept) (eB rfl (eB (eB rfl rfl (dv_nat (b := 192) (by decide) (by decide))) (eB (eB rfl rfl (sb_nat v.lowl)) rfl ad_nat) (md_nat (Nat.succ_pos _))) ad_nat) ?_
  refine xA (l := lq v0 (.val (tl nm)) (.val (.int v.x)) (.val (.int v.g)) (.val (tl v.sh)) y5 (.val (tl v.mi)) (.val (tl v.th)) (.val (.int v.ls)) (.val (.int v.ed)) (.val (.int v.y)) (.val (.int v.low)) (.val (.int v.kept)) .un .un .un .un .un .un .un .un) (v := .int v.z) (e6 ▸ dr rfl) ?_
  refine xA (l := lq v0 (.val (tl nm)) (.val (.int v.x)) (.val (.int v.g)) (.val (tl v.sh)) y5 (.val (tl v.mi)) (.val (tl v.th)) (.val (.int v.ls)) (.val (.int v.ed)) (.val (.int v.y)) (.val (.int v.low)) (.val (.int v.kept)) (.val (.int v.z)) .un .un .un .un .un .un .un) (v := .int v.sure) (eB rfl (eB rfl rfl (md_nat v.g1)) ad_nat) ?_
  refine xA (l := lq v0 (.val (tl nm)) (.val (.int v.x)) (.val (.int v.g)) (.val (tl v.sh)) y5 (.val (tl v.mi)) (.val (tl v.th)) (.val (.int v.ls)) (.val (.int v.ed)) (.val (.int v.y)) (.val (.int v.low)) (.val (.int v.kept)) (.val (.int v.z)) (.val (.int v.sure)) .un .un .un .un .un .un) (v := .int v.base) (eB rfl (eB (eB rfl rfl (dv_nat (b := 4) (by decide) (by decide))) rfl (md_nat v.s1)) ad_nat) ?_
  refine xA (l := lq v0 (.val (tl nm)) (.val (.int v.x)) (.val (.int v.g)) (.val (tl v.sh)) y5 (.val (tl v.mi)) (.val (tl v.th)) (.val (.int v.ls)) (.val (.int v.ed)) (.val (.int v.y)) (.val (.int v.low)) (.val (.int v.kept)) (.val (.int v.z)) (.val (.int v.sure)) (.val (.int v.base)) .un .un .un .un .un) (v := .int v.guess) (eB rfl (eB rfl (eB (eB rfl rfl (sb_nat v.sl)) rfl ad_nat) (md_nat (Nat.succ_pos _))) ad_nat) ?_
  exact k
end Mini.L
namespace Mini.L
open Mini
theorem law_run (ns : List Int) : ∃ H', callN P02.prg 12 55 [.list (ns.map .int)] [] = .ok (.bool true) H' := by
  have hk : bound (ns.map MV.int).length ((8 : Nat) : Int) ≤ 8 := by unfold bound; rw [if_neg (by omega)]; omega
  have hs : sliceO (.list (ns.map MV.int)) (fun _ => some 0) (bd (.int ((8 : Nat) : Int))) = some (.list ((ns.take (bound (ns.map MV.int).length ((8 : Nat) : Int))).map MV.int)) := by
    show some (MV.list ((ns.map MV.int).take _)) = _
    rw [← List.map_take]
  have hl : (ns.take (bound (ns.map MV.int).length ((8 : Nat) : Int))).length ≤ 8 := by rw [List.length_take]; omega
  generalize bound (ns.map MV.int).length ((8 : Nat) : Int) = kk at hs hl
  generalize hks : ns.take kk = ks at hs hl
  have e0 : evalE P (callN P 11) (.sliceU (.var 0) (.int 8)) (lq (.val (.list (ns.map .int))) .un .un .un .un .un .un .un .un .un .un .un .un .un .un .un .un .un .un .un .un) [] = .ok (.list (ks.map MV.int)) [] := bnd (eVar rfl) (bnd rfl (op hs rfl))
  have e1 : evalE P (callN P 11) (.comp (.bin .mod (.var 42) (.int 999983)) 42 (.over (.sliceU (.var 0) (.int 8)))) (lq (.val (.list (ns.map .int))) .un .un .un .un .un .un .un .un .un .un .un .un .un .un .un .un .un .un .un .un) [] = .ok (tl (ks.map fun x => (x % 999983).toNat)) [] := eComp (iO e0) (by rw [List.length_map]; omega) (mapR_mod (fun _ => rfl) ks)
  have hn : (ks.map fun x => (x % 999983).toNat).length < 1000 := by rw [List.length_map]; omega
  generalize (ks.map fun x => (x % 999983).toNat) = nm at e1 hn
  have fin : ∃ H', execSs P (callN P 11) (nthS 1 b55) (lq (.val (.list (ns.map .int))) (.val (tl nm)) .un .un .un .un .un .un .un .un .un .un .un .un .un .un .un .un .un .un .un) [] = .ret (.bool true) H' := by
    have ht : evalT P (callN P 11) (.cmp (.len (.var 1)) (.one .eq (.int 0))) (lq (.val (.list (ns.map .int))) (.val (tl nm)) .un .un .un .un .un .un .un .un .un .un .un .un .un .un .un .un .un .un .un) [] = .ok (decide ((nm.length : Int) = ((0 : Nat) : Int))) [] := tC (eLen rfl tl_len) rfl rfl
    by_cases h : nm.length = 0
    · obtain ⟨H', k⟩ := law1 [44] (by decide) (by decide) (.val (.list (ns.map .int)))
      exact ⟨H', xI ht (ez h) (xA rfl rfl) k⟩
    · obtain ⟨H', k⟩ := law1 nm (Nat.pos_of_ne_zero h) hn (.val (.list (ns.map .int)))
      exact ⟨H', x0 ht (ef h) k⟩
  obtain ⟨H', k⟩ := fin
  exact ⟨H', callAt rfl (runR rfl (xA (l := lq (.val (.list (ns.map .int))) .un .un .un .un .un .un .un .un .un .un .un .un .un .un .un .un .un .un .un .un) e1 k))⟩
end Mini.L
section
open PySem PySem.W PyProof.Rows Mini
namespace HD
noncomputable def cadr : List Addr := [201, 257, 292, 334, 439, 523, 733]
noncomputable def eadr : List Addr := [31, 44, 56, 68, 80, 92, 104, 116, 128, 140]
noncomputable def fadr : List (Nat × Addr) := [(0, 149), (1, 156), (5, 212), (48, 744), (49, 751), (50, 756), (51, 761), (52, 768), (53, 775), (54, 782), (55, 787), (2, 170), (3, 177), (4, 198), (6, 226), (7, 233), (8, 240), (9, 275), (10, 282), (11, 310), (12, 317), (13, 324), (14, 352), (15, 366), (16, 373), (17, 380), (18, 387), (19, 408), (20, 429), (21, 436), (22, 457), (23, 464), (24, 471), (25, 478), (26, 499), (27, 506), (28, 513), (29, 520), (30, 541), (31, 548), (32, 555), (33, 562), (34, 569), (35, 583), (36, 597), (37, 604), (38, 611), (39, 618), (40, 625), (41, 632), (42, 667), (43, 674), (44, 709), (45, 716), (46, 723), (47, 730)]
noncomputable def tie (K : Frag) (hs : Str → Int) : Tie := ⟨K, P02.names, P02.gl, cadr, eadr, fadr, hs⟩
noncomputable def vs (f : Nat) : List Str := match flook f P02.fnames with
  | some p => p.2
  | none => []
noncomputable abbrev pw := PySem.Challenge.pw_no0419_02
noncomputable def runT (p : Program) (w : World) (n : Nat) : SharedT → Thread → Option SharedT :=
  @Nat.rec (fun _ => SharedT → Thread → Option SharedT) (fun _ _ => none) (fun _ ih s t => match through t with
    | true => some s
    | false => match PySem.W.Fast.tw6613529449190102663 11 (some (.ref 6)) t with
      | false => none
      | true => match PySem.W.Fast.tw10156331382660048174 (PySem.W.Fast.tw11892475500146522536 PySem.W.Fast.tw14364793385576792824) p w s t with
        | some x => ih x.1 x.2
        | none => none) n
theorem runT_spec {p : Program} {w : World} : ∀ {n : Nat} {s s' : SharedT} {t : Thread}, runT p w n s t = some s' → topRun treeTable p w 11 (some (.ref 6)) n s.abs t = some s'.abs
  | 0, _, _, _, h => nomatch h
  | n + 1, s, s', t, h => by
    have h : (match through t with
      | true => some s
      | false => match PySem.W.Fast.tw6613529449190102663 11 (some (.ref 6)) t with
        | false => none
        | true => match PySem.W.Fast.tw10156331382660048174 (PySem.W.Fast.tw11892475500146522536 PySem.W.Fast.tw14364793385576792824) p w s t with
          | some x => runT p w n x.1 x.2
          | none => none) = some s' := h
    rw [← PySem.W.Fast.te6613529449190102663, ← PySem.W.Fast.te10156331382660048174, ← PySem.W.Fast.te11892475500146522536, ← PySem.W.Fast.te14364793385576792824] at h
    unfold topRun
    cases ht : through t with
    | true => rw [ht] at h; cases h; rfl
    | false =>
      rw [ht] at h
      cases hk : stepOk 11 (some (.ref 6)) t with
      | false => rw [hk] at h; cases h
      | true =>
        rw [hk] at h
        cases hs : stepT (denote treeTable) p w s t with
        | none => rw [hs] at h; cases h
        | some r => obtain ⟨s₂, t₂⟩ := r; rw [hs] at h; rw [stepT_spec hs]; exact runT_spec h
noncomputable def S0 (P : Params) (os : OsState) : SharedT := ⟨(List.range 11).foldl (fun t i => t.ins i ((boot_heap P).objs.getD i default)) .nil, 11, (boot_heap P).life, #[], boot_drawn, boot_toks, os⟩
noncomputable def q : Program := { pw with main := { pw.main with body := pw.main.body.getLast?.toList } }
noncomputable def adr : List Addr := [3, 201, 200, 257, 256, 292, 291, 334, 333, 439, 438, 523, 522, 733, 732, 31, 30, 44, 43, 56, 55, 68, 67, 80, 79, 92, 91, 104, 103, 116, 115, 128, 127, 140, 139, 149, 148, 156, 155, 212, 211, 744, 743, 751, 750, 756, 755, 761, 760, 768, 767, 775, 774, 782, 781, 787, 786, 170, 169, 177, 176, 198, 197, 226, 225, 233, 232, 240, 239, 275, 274, 282, 281, 310, 309, 317, 316, 324, 323, 352, 351, 366, 365, 373, 372, 380, 379, 387, 386, 408, 407, 429, 428, 436, 435, 457, 456, 464, 463, 471, 470, 478, 477, 499, 498, 506, 505, 513, 512, 520, 519, 541, 540, 548, 547, 555, 554, 562, 561, 569, 568, 583, 582, 597, 596, 604, 603, 611, 610, 618, 617, 625, 624, 632, 631, 667, 666, 674, 673, 709, 708, 716, 715, 723, 722, 730, 729]
noncomputable def fragOf (s : Shared) : Frag := adr.filterMap fun a => (s.heap.get? a).map fun o => (a, o)
noncomputable def loose : List Str := (pw.main.scope.names.map (·.1)).filter fun x => !(x == Str.ofString "law")
noncomputable def mods : List Str := importedModules pw.main.body
noncomputable def paths : List (Nat × Nat) := [(14, 0), (18, 0), (19, 1), (19, 2), (19, 5), (20, 0), (21, 1), (21, 2), (21, 3), (22, 1), (22, 2), (23, 1), (23, 2), (23, 3), (25, 1), (25, 3), (25, 4), (25, 5), (25, 6), (25, 9), (25, 12), (25, 13), (26, 1), (26, 2), (26, 3), (26, 4), (26, 7), (26, 8), (26, 9), (26, 10), (27, 1), (27, 2), (27, 3), (27, 4), (27, 5), (27, 7), (27, 9), (27, 10), (27, 11), (27, 12), (27, 13), (27, 14), (27, 19), (27, 20), (27, 25), (27, 26), (27, 27), (27, 28), (29, 0), (30, 0), (31, 0), (32, 0), (33, 0), (34, 0), (35, 0), (36, 0)]
noncomputable def fnBody (s : Stmt) : List Stmt := match s with | .FunctionDef _ _ b .. => b | _ => []
noncomputable def clsBody (s : Stmt) : List Stmt := match s with | .ClassDef _ _ _ b .. => b | _ => []
noncomputable def bodies : List (List Stmt) := paths.map fun p => match pw.main.body[p.1]? with
  | none => []
  | some s => match p.2 with
    | 0 => fnBody s
    | n + 1 => match (clsBody s)[n]? with | some m => fnBody m | none => []
theorem len : bodies.length = 56 := by kernel_rfl
theorem exs_ok (K : Frag) (hs : Str → Int) : (P02.prg.funs.zip bodies).map (fun q => exFn P02.prg (tie K hs) q.1.2 q.2) = bodies := by kernel_rfl
theorem apart_ok : apart P02.prg P02.gl = true := by kernel_rfl
theorem nd_ok : decide P02.names.Nodup = true := by kernel_rfl
noncomputable def obs (s : Shared) (hs : Str → Int) : Bool × List (List Stmt) := (chkAll P02.prg (tie (fragOf s) hs) vs, P02.prg.funs.map fun p => bodyOf (tie (fragOf s) hs) p.1)
noncomputable def look (w : World) (s : Shared) : Bool := staticsOk mods (boot_heap w.params) s.heap && namesBound pw s.heap && gensDone s && laidKept (boot_heap w.params) s.heap
noncomputable abbrev rn (w : World) (os : OsState) : Option SharedT := runT pw w 7000 (S0 w.params os) (topStub pw)
noncomputable def atT (s : SharedT) (a : Addr) : Option Obj := match Nat.blt a s.n with
  | true => alive ((s.tree.get a).getD default)
  | false => none
theorem at_T (s : SharedT) (a : Addr) : s.abs.heap.get? a = atT s a := by
  show (absHeap s.tree s.n s.life).get? a = _
  unfold Heap.get? atT
  rw [absHeap_at]
  cases h : Nat.blt a s.n with
  | false => rw [if_neg (fun q => Bool.noConfusion (h.symm.trans (Nat.blt_eq.mpr q)))]
  | true =>
    rw [if_pos (Nat.blt_eq.mp h)]
    generalize (s.tree.get a).getD default = o
    obtain ⟨c, d, dt, sl⟩ := o
    cases dt <;> rfl
noncomputable def fragT (s : SharedT) : Frag := adr.filterMap fun a => (atT s a).map fun o => (a, o)
theorem frag_T (s : SharedT) : fragOf s.abs = fragT s := by
  unfold fragOf fragT
  exact congrArg (fun f => adr.filterMap f) (funext fun a => by rw [at_T])
theorem run_a (w : World) (os : OsState) : (rn w os).map (fun s => (look w s.abs, openSeen q loose mods (fun _ => true) true s.abs, fun hs => P02.gl.all (chkG (tie (fragT s) hs)) && (chkRow P02.prg.cls cadr (fun _ k C => chkCls (tie (fragT s) hs) k C) && chkRow eadr eadr (fun c _ C => chkExc P02.prg (tie (fragT s) hs) c C)))) = some (true, openGood q loose, fun _ => true) := by kernel_rfl
theorem run_c (w : World) (os : OsState) : (rn w os).map (fun s => fun hs => (P02.prg.funs.all fun p => chkFn P02.prg (tie (fragT s) hs) (vs p.1) p, P02.prg.funs.map fun p => bodyOf (tie (fragT s) hs) p.1)) = some (fun _ => (true, bodies)) := by kernel_rfl
theorem and_3 {a b c d : Bool} (h : (a && (b && c)) = true) (k : d = true) : (a && (b && (c && d))) = true := by rw [k, Bool.and_true]; exact h
theorem run (w : World) (os : OsState) : (rn w os).map (fun s => (look w s.abs, openSeen q loose mods (fun _ => true) true s.abs, obs s.abs)) = some (true, openGood q loose, fun _ => (true, bodies)) := by
  obtain ⟨s, r, a⟩ := Option.map_eq_some_iff.mp (run_a w os)
  obtain ⟨s2, r2, c⟩ := Option.map_eq_some_iff.mp (run_c w os)
  generalize rn w os = z at r r2 ⊢
  subst r
  cases r2
  obtain ⟨a1, a2⟩ := Prod.mk.inj a
  obtain ⟨a2, b⟩ := Prod.mk.inj a2
  rw [← frag_T] at b c
  have o : obs s.abs = fun _ => (true, bodies) := funext fun hs => by
    have b := congrFun b hs
    obtain ⟨c1, c2⟩ := Prod.mk.inj (congrFun c hs)
    exact Prod.ext (and_3 b c1) c2
  rw [Option.map_some, a1, a2, o]
end HD
end
section
open PySem PySem.W PyProof.Rows Mini
namespace HD
theorem s0 (w : World) (os : OsState) : (S0 w.params os).abs = ⟨boot_heap w.params, Array.mk [], boot_drawn, boot_toks, os⟩ := by kernel_rfl
theorem boot0 (w : World) : ((boot_heap w.params).isNs mainGlobals && (Array.mk [] : Array GenState).size == 0, (boot_heap w.params).objs.size, (boot_heap w.params).nsMap mainGlobals "__annotations__") = (true, 11, some (.ref 6)) := by kernel_rfl
theorem opens : opening pw = plainProg pw.main.scope.names := by kernel_rfl
theorem fences (s : Shared) : fenceModules? pw s = some s := by kernel_rfl
theorem left : LeftO pw q loose (fun _ => true) obs (fun _ _ => (true, bodies)) 7000 := fun w => by
  obtain ⟨⟨h, gs, d, k, os⟩, e, e'⟩ := Option.map_eq_some_iff.mp (boot_open (p := pw) (N := 7000) opens rfl fences w)
  obtain ⟨rfl, e'⟩ := Prod.mk.inj e'
  obtain ⟨rfl, e'⟩ := Prod.mk.inj e'
  obtain ⟨rfl, rfl⟩ := Prod.mk.inj e'
  obtain ⟨z1, z2⟩ := Prod.mk.inj (boot0 w)
  obtain ⟨z2, z3⟩ := Prod.mk.inj z2
  obtain ⟨s', r, e₂⟩ := Option.map_eq_some_iff.mp (run w os)
  have r := runT_spec r
  rw [s0] at r
  obtain ⟨l1, l2⟩ := Prod.mk.inj e₂
  have t : topFrom treeTable pw w 7000 ⟨boot_heap w.params, Array.mk [], boot_drawn, boot_toks, os⟩ = some s'.abs := by
    unfold topFrom
    dsimp only
    rw [z1, z2, z3, r, Option.bind_some]
    show (match look w s'.abs with | true => _ | false => _) = _
    rw [l1]
  unfold openEnds
  rw [e, Option.bind_some, t, Option.map_some]
  exact congrArg some l2
end HD
end
section
open PySem PySem.W PyProof.Rows Mini
namespace HD
theorem frag_in {h : Heap} : ∀ (as : List Addr), Frag.In (as.filterMap fun a => (h.get? a).map fun o => (a, o)) h
  | [], _, _, e => nomatch e
  | b :: as, a, o, e => by
    rw [List.filterMap_cons] at e
    cases q : h.get? b with
    | none => rw [q] at e; exact frag_in as a o e
    | some x =>
      rw [q] at e
      have e : List.lookup a ((b, x) :: as.filterMap fun a => (h.get? a).map fun o => (a, o)) = some o := e
      rw [List.lookup_cons] at e
      cases z : (a == b) with
      | true => rw [z] at e; cases e; rw [beq_iff_eq.mp z]; exact q
      | false => rw [z] at e; exact frag_in as a o e
noncomputable abbrev rw2 := PySem.Challenge.rw_no0419_02
theorem and_t {a b : Bool} (x : a = true) (y : b = true) : (a && b) = true := by rw [x, y]; rfl
noncomputable def lk1 : Look := { strict := !R.allR (Fast.tw5923862056798008813 pw.main.body) (Fast.tw3471404346716756564 Fast.tw17691160309236699985), foot := none, bare := R.filterR (Fast.tw13343964577679436407 pw pw.main.body) [{ cps := { toList := [118, 97, 114, 115] } }, { cps := { toList := [100, 105, 114] } }, { cps := { toList := [108, 111, 99, 97, 108, 115] } }] }
theorem sa1 : Fast.tw8326940854005059898 lk1 pw.main.body = true := by kernel_rfl
theorem sa2 : Fast.tw12908688711261696721 pw = true := by
  unfold Fast.tw12908688711261696721
  exact and_t (and_t (by kernel_rfl) sa1) (by kernel_rfl)
theorem sa3 : Fast.tw17960256430627541270 (Fast.tw2368527892694137696 rw2) = true := by
  unfold Fast.tw17960256430627541270
  refine and_t (and_t ?_ (by kernel_rfl)) (by kernel_rfl)
  unfold Fast.tw2436336058641802641
  iterate 13 refine and_t ?_ (by kernel_rfl)
  exact sa2
theorem said : rw2.wellSaid = true := (congrFun PySem.W.Fast.te9446332074065402090 rw2).trans (by
  unfold Fast.tw9446332074065402090
  iterate 18 refine and_t ?_ (by kernel_rfl)
  exact sa3)
theorem said2 : rw2.row.wellSaid = true := row_said said
theorem def1 : ((defOf q rw2.row.name).map fun x => ((some (x.1.params, x.1.body, x.1.scope) : Option _), kwWritten? x.1.params.kwonlyargs x.1.params.kw_defaults)) = some (rw2.row.prog.theDef rw2.row.name, (defOf q rw2.row.name).map (·.2)) := by kernel_rfl
theorem ok1 : (chainsOk q && opensWell rw2.row.prog && (frees rw2.row.toRowW && rw2.row.within.isEmpty)) = true := by kernel_rfl
noncomputable def says (_ : World) (h : Heap) : Prop := ∃ K : Frag, K.In h ∧ ∀ hs, chkAll P02.prg (tie K hs) vs = true ∧ (P02.prg.funs.map fun p => bodyOf (tie K hs) p.1) = bodies
theorem tabs1 : pw.tablesWhole = true := by kernel_rfl
theorem given1 : pw.given = { argv := [], stdin := [], environ := some Program.claimEnviron, cwd := none, tree := none, leftOut := [], nothingAt := [] } := by kernel_rfl
theorem bare1 : rw2.row.prog.bare := ⟨rfl, rfl, rfl, rfl, given1, tabs1⟩
theorem says_of (w : World) (s : Shared) (e : obs s = fun _ => (true, bodies)) : says w s.heap := ⟨fragOf s, frag_in adr, fun hs => Prod.mk.inj (congrFun e hs)⟩
theorem says_keep (w : World) (h h' : Heap) (x : says w h) (k : ∀ b o, h.get? b = some o → h'.get? b = some o) : says w h' := let ⟨K, a, b⟩ := x; ⟨K, a.keeps k, b⟩
theorem law_gl : P02.gl.lookup (Str.ofString "law") = some (.fn 55) := by kernel_rfl
theorem holds_of (law_run : ∀ ns : List Int, ns.length ≤ 63 → ∃ H', callN P02.prg 12 55 [.list (ns.map .int)] [] = .ok (.bool true) H') : rw2.Holds := by
  w_on
  refine holds_law said fun sd => ?_
  obtain ⟨⟨d, kwd⟩, hdef, e⟩ := Option.map_eq_some_iff.mp def1
  obtain ⟨e1, e2⟩ := Prod.mk.inj e
  rw [hdef] at e2
  refine holds_open (q := q) (loose := loose) (Xt := fun _ => true) (XP := fun _ _ => True) (Yf := obs) (Ya := fun _ _ => (true, bodies)) (YP := says) (N := 7000) left (fun w s e => says_of w s e) says_keep (fun _ _ => trivial) (fun _ _ _ _ _ => trivial) hdef e1.symm e2 (fun s _ => recFacts_nil rfl) rfl sd ok1 bare1 ?hw ?hc
  case hw => exact ⟨[.list [.int 3, .int 1]], by decide +kernel, by decide +kernel⟩
  intro w s₀ s₁ mg mb G Y fa o pm cd doc dV kV ho hd hcd hD hmg hg args vals as hpre hlay hrd hwl hlo
  obtain ⟨K, KX, S⟩ := Y
  clear hd ho hcd hD
  refine Ground.open G ?_
  intro T B D TE TW
  wrow_args hpre hlay hrd hwl hlo
  rename_i ns _ _ _ _ _ _ _ sl vl _ hL _ w1 _ hI _ hlen _
  have Sh : Shown P02.prg (tie K (PyData.keyHash w.params)) vs bodies := ⟨(S _).1, (S _).2, exs_ok K _, apart_ok, nd_ok⟩
  have hng : ∃ mg mb, s₁.heap.Ns mainGlobals mg ∧ s₁.heap.Ns builtinsNs mb ∧ ∀ x : Str, x ≠ "__name__" → mb x = bootBuiltins x := ⟨mg, mb, T.g, T.b, T.builtins⟩
  have TB := tab_of (prog := rw2.row.prog) (w := w) Sh KX hng T.nolimit (fun _ => rfl)
  obtain ⟨a, ha, hn, _⟩ := (tied_of Sh KX hng T.nolimit).fn (Str.ofString "law") 55 law_gl
  have hm : mg (Str.ofString "law") = some (.ref a) := mg_of KX T.g hn
  rw [show d.name = Str.ofString "law" from defOf_name hdef] at hmg
  cases hmg.symm.trans hm
  obtain ⟨H', hr⟩ := law_run ns (by omega)
  refine enter_call (codeAny_mono (codeAny_mono (law_ends TB (s₁ := s₁) rfl (x := Str.ofString "law") (lf := 55) (d := 12) ha law_gl (list_at w1 hL) hI (by omega) (by decide) hr) fun r s' h => ?_) (fun _ _ g => GoodW.toG g))
  obtain ⟨rfl, h1, h2, h3⟩ := h
  refine ⟨.inl ⟨.bool true, .bool true, [], rfl, ?_, .bool true, ?_, ?_⟩, h1, h2, h3.trans hg⟩
  · exact fun _ => rfl
  · wrow_post
  · exact unshared_nil
end HD
end
theorem PySem.Challenge.cw_no0419_02_holds : PySem.Challenge.rw_no0419_02.Holds :=
  HD.holds_of fun ns _ => Mini.L.law_run ns
